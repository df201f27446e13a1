import PyProof.Rows.All
import HandS.Comp
import HandS.Iter
import HandS.Ends
import HandS.Exc
import HandS.TupAny
import HandS.Deep
import HandS.Text
import HandS.Wide
import HandS.TupMul
import HandS.IsInst
import HandS.SortInts
import HandS.Small
import HandS.RaiseMore
import HandS.Flow
import HandS.Walk
import HandS.Zip
import HandS.WordsExc
import KE.GoesMore
import KE.GoesEnum
import HandS.Style
import HandS.More
import HandS.WideBits
import HandS.FStr
import HandS.Head0
import HandS.Head1
import HandS.Head2
import HandS.HeadEnd
import HandS.HeadHook4
import HandS.Property
import HandS.ClsMeth
import HandS.CallSlots
import HandS.ExcOwn
import HandS.MakeKwOnly
import PyProof.StrLawsIn
import HandS.SetFor
import HandS.SetTxt0
import HandS.Strs
import PyProof.Rows.SortShellAny
import HandS.Star
import HandS.Words
import PySem.Challenge.RW_unseenrest_k24_whole_texts_read_back
set_option Elab.async false
set_option linter.all false
set_option maxRecDepth 100000
set_option maxHeartbeats 0
/-! U1: the evaluator's data, state, relation to the modelled heap. -/
namespace U
open PySem PySem.Spec PyProof.Rows

/-- data, as deep as it goes; own: a list that one slot alone holds; ob: the n-th mutable cell; scr: the script's list -/
inductive D where
  | non | bl (b : Bool) | int (i : Int) | str (s : List Nat)
  | lst (xs : List D) | tup (xs : List D) | own (xs : List D) | ob (n : Nat) | scr (ns : List Int)
  | ty (n : String)
  | cls (c : Nat)
  | ins (c : Nat) (fs : List (Nat × D))
  | ownI (c : Nat) (fs : List (Nat × D))

/-- a mutable list; an object: its class, its attributes -/
inductive Cell where
  | L (xs : List D)
  | O (c : Nat) (fs : List (Str × D))
structure S where
  sl : List (Option D)
  cs : List Cell
/-- how code ends -/
inductive R (α : Type) where
  | bad
  | ok (a : α) (s : S)
  | exc (x : D) (s : S)
/-- the n-th cell, a list -/
def S.lc (s : S) (n : Nat) : Option (List D) := match s.cs[n]? with
  | some (.L xs) => some xs
  | _ => none
abbrev M (α : Type) := S → R α
def mPure {α : Type} (a : α) : M α := fun s => .ok a s
def mBad {α : Type} : M α := fun _ => .bad
def mBind {α β : Type} (m : M α) (f : α → M β) : M β := fun s => match m s with
  | .bad => .bad
  | .ok a s' => f a s'
  | .exc x s' => .exc x s'
/-- a function's end -/
inductive FR where
  | bad
  | ok (d : D) (cs : List Cell)
  | exc (x : D) (cs : List Cell)
/-- how calls run: the function's number, the arguments, the cells -/
abbrev Calls := Nat → List D → List Cell → FR

def stS (s : List Nat) : Str := ⟨s.toArray⟩

/-- what the text's names of fields and classes are at -/
structure Tab where
  K : PySem.W.Frag
  cls : Nat → Addr
  fld : Nat → Str
  dx : Nat → Prop := fun _ => True

/-- a tuple that is tracked, or of the written part -/
def TupAt (K : PySem.W.Frag) (F : L2.Hp) (a : Addr) (vs : List L2.V) : Prop :=
  F a = some (.tup vs) ∨ ∃ (o : Obj) (its : Array Value) (n : Nat), K.lookup a = some o ∧ o.cls = .type "tuple" ∧ o.data = .seq its n ∧ its.size ≤ sizeLine ∧ L2.Vals vs its.toList
theorem TupAt.sq {K : PySem.W.Frag} {F : L2.Hp} {a : Addr} {vs : List L2.V} (h : TupAt K F a vs) : L2.SqT K F a vs := by
  rcases h with h | h
  · exact .inl (.inl h)
  · exact .inr h
section
variable (T : Tab)
mutual
/-- v stands for d: F is what is frozen, ρ the cells' places -/
inductive Rep (F : L2.Hp) (ρ : List Addr) : L2.V → D → Prop where
  | non : Rep F ρ .non .non
  | bl (b : Bool) : Rep F ρ (.bl b) (.bl b)
  | int (i : Int) : Rep F ρ (.int i) (.int i)
  | str (s : List Nat) : Rep F ρ (.str (stS s)) (.str s)
  | lst {a : Addr} {vs : List L2.V} {ds : List D} : F a = some (.lst vs) → RepL F ρ vs ds → Rep F ρ (.ref a) (.lst ds)
  | tup {a : Addr} {vs : List L2.V} {ds : List D} : TupAt T.K F a vs → RepL F ρ vs ds → Rep F ρ (.ref a) (.tup ds)
  | ob {a : Addr} {n : Nat} : ρ[n]? = some a → Rep F ρ (.ref a) (.ob n)
  | scr {a : Addr} {ns : List Int} : L2.SqL T.K F a (ns.map L2.V.int) → Rep F ρ (.ref a) (.scr ns)
  | ty (n : String) : Rep F ρ (.ty n) (.ty n)
  | cls {c : Nat} : Rep F ρ (.ref (T.cls c)) (.cls c)
  | ins {a dx : Addr} {c : Nat} {vs : List (Str × L2.V)} {fs : List (Nat × D)} : F a = some (.ins (T.cls c) dx vs) → F dx = some (.own a) → RepF F ρ vs fs → Rep F ρ (.ref a) (.ins c fs)
inductive RepL (F : L2.Hp) (ρ : List Addr) : List L2.V → List D → Prop where
  | nil : RepL F ρ [] []
  | cons {v : L2.V} {vs : List L2.V} {d : D} {ds : List D} : Rep F ρ v d → RepL F ρ vs ds → RepL F ρ (v :: vs) (d :: ds)
inductive RepF (F : L2.Hp) (ρ : List Addr) : List (Str × L2.V) → List (Nat × D) → Prop where
  | nil : RepF F ρ [] []
  | cons {v : L2.V} {vs : List (Str × L2.V)} {k : Nat} {d : D} {ds : List (Nat × D)} : Rep F ρ v d → RepF F ρ vs ds → RepF F ρ ((T.fld k, v) :: vs) ((k, d) :: ds)
end
end

/-- F' has what F has -/
def Le (F F' : L2.Hp) : Prop := ∀ a o, F a = some o → F' a = some o
theorem Le.refl (F : L2.Hp) : Le F F := fun _ _ h => h
theorem Le.trans {F G H : L2.Hp} (a : Le F G) (b : Le G H) : Le F H := fun x o h => b x o (a x o h)
theorem Le.upd {F : L2.Hp} {a : Addr} {o : L2.HO} (h : F a = none) : Le F (L2.upd F a o) := fun b u e => by
  rw [L2.upd_ne (L2.ne_of_none e h)]; exact e
theorem Le.rd {F F' : L2.Hp} {a : Addr} {u : L2.HO} (l : Le F F') (h : L2.Rd F a u) : L2.Rd F' a u := by
  rcases h with h | ⟨o, h⟩
  · exact .inl (l _ _ h)
  · exact .inr ⟨o, l _ _ h⟩
theorem Le.sqT {K : PySem.W.Frag} {F F' : L2.Hp} {a : Addr} {vs : List L2.V} (l : Le F F') (h : L2.SqT K F a vs) : L2.SqT K F' a vs := by
  rcases h with h | h
  · exact .inl (l.rd h)
  · exact .inr h
theorem Le.tupAt {K : PySem.W.Frag} {F F' : L2.Hp} {a : Addr} {vs : List L2.V} (l : Le F F') (h : TupAt K F a vs) : TupAt K F' a vs := by
  rcases h with h | h
  · exact .inl (l _ _ h)
  · exact .inr h
theorem Le.sqL {K : PySem.W.Frag} {F F' : L2.Hp} {a : Addr} {vs : List L2.V} (l : Le F F') (h : L2.SqL K F a vs) : L2.SqL K F' a vs := by
  rcases h with h | h
  · exact .inl (l.rd h)
  · exact .inr h
theorem pre_get {α : Type} {ρ ρ' : List α} (p : ρ <+: ρ') {n : Nat} {a : α} (h : ρ[n]? = some a) : ρ'[n]? = some a := by
  obtain ⟨t, rfl⟩ := p
  rw [List.getElem?_append_left (List.getElem?_eq_some_iff.mp h).1]; exact h

section
variable {T : Tab} {F F' : L2.Hp} {ρ ρ' : List Addr}
mutual
theorem Rep.mono {v : L2.V} {d : D} (l : Le F F') (p : ρ <+: ρ') : Rep T F ρ v d → Rep T F' ρ' v d
  | .non => .non
  | .bl b => .bl b
  | .int i => .int i
  | .str s => .str s
  | .lst h r => .lst (l _ _ h) (r.mono l p)
  | .tup h r => .tup (l.tupAt h) (r.mono l p)
  | .ob h => .ob (pre_get p h)
  | .scr h => .scr (l.sqL h)
  | .ty n => .ty n
  | .cls => .cls
  | .ins h1 h2 r => .ins (l _ _ h1) (l _ _ h2) (r.mono l p)
theorem RepL.mono {v : List L2.V} {d : List D} (l : Le F F') (p : ρ <+: ρ') : RepL T F ρ v d → RepL T F' ρ' v d
  | .nil => .nil
  | .cons a b => .cons (a.mono l p) (b.mono l p)
theorem RepF.mono {v : List (Str × L2.V)} {d : List (Nat × D)} (l : Le F F') (p : ρ <+: ρ') : RepF T F ρ v d → RepF T F' ρ' v d
  | .nil => .nil
  | .cons a b => .cons (a.mono l p) (b.mono l p)
end
theorem RepL.length : ∀ {vs : List L2.V} {ds : List D}, RepL T F ρ vs ds → vs.length = ds.length
  | _, _, .nil => rfl
  | _, _, .cons _ t => by rw [List.length_cons, List.length_cons, t.length]
theorem RepL.get : ∀ {vs : List L2.V} {ds : List D} {i : Nat} {d : D}, RepL T F ρ vs ds → ds[i]? = some d → ∃ v, vs[i]? = some v ∧ Rep T F ρ v d
  | _, _, _, _, .nil, h => by simp at h
  | _, _, 0, _, .cons r _, h => by simp at h; subst h; exact ⟨_, rfl, r⟩
  | _, _, i + 1, d, .cons _ t, h => by
    obtain ⟨v, h1, h2⟩ := RepL.get (i := i) t (by simpa using h)
    exact ⟨v, by simpa using h1, h2⟩
theorem RepL.getV : ∀ {vs : List L2.V} {ds : List D} {i : Nat} {v : L2.V}, RepL T F ρ vs ds → vs[i]? = some v → ∃ d, ds[i]? = some d ∧ Rep T F ρ v d
  | _, _, _, _, .nil, h => by simp at h
  | _, _, 0, _, .cons r _, h => by simp at h; subst h; exact ⟨_, rfl, r⟩
  | _, _, i + 1, d, .cons _ t, h => by
    obtain ⟨v, h1, h2⟩ := RepL.getV (i := i) t (by simpa using h)
    exact ⟨v, by simpa using h1, h2⟩
theorem RepL.append : ∀ {vs ws : List L2.V} {ds es : List D}, RepL T F ρ vs ds → RepL T F ρ ws es → RepL T F ρ (vs ++ ws) (ds ++ es)
  | _, _, _, _, .nil, s => s
  | _, _, _, _, .cons r t, s => .cons r (t.append s)
theorem RepL.take : ∀ {vs : List L2.V} {ds : List D} (n : Nat), RepL T F ρ vs ds → RepL T F ρ (vs.take n) (ds.take n)
  | _, _, 0, _ => by simpa using .nil
  | _, _, _ + 1, .nil => .nil
  | _, _, n + 1, .cons r t => .cons r (t.take n)
theorem RepL.drop : ∀ {vs : List L2.V} {ds : List D} (n : Nat), RepL T F ρ vs ds → RepL T F ρ (vs.drop n) (ds.drop n)
  | _, _, 0, r => r
  | _, _, _ + 1, .nil => .nil
  | _, _, n + 1, .cons _ t => t.drop n
theorem RepL.set {v : L2.V} {d : D} (r : Rep T F ρ v d) : ∀ {vs : List L2.V} {ds : List D} (i : Nat), RepL T F ρ vs ds → RepL T F ρ (vs.set i v) (ds.set i d)
  | _, _, _, .nil => .nil
  | _, _, 0, .cons _ t => .cons r t
  | _, _, i + 1, .cons q t => .cons q (t.set r i)
theorem RepL.flat {k : Nat} {vs : List L2.V} {ds : List D} (r : RepL T F ρ vs ds) : RepL T F ρ (List.replicate k vs).flatten (List.replicate k ds).flatten := by
  induction k with
  | zero => exact .nil
  | succ k ih => rw [List.replicate_succ, List.replicate_succ, List.flatten_cons, List.flatten_cons]; exact r.append ih
theorem RepL.ints : ∀ {ns : List Int}, RepL T F ρ (ns.map L2.V.int) (ns.map D.int)
  | [] => .nil
  | n :: r => .cons (.int n) RepL.ints
theorem RepL.ofInts : ∀ {vs : List L2.V} {ns : List Int}, RepL T F ρ vs (ns.map D.int) → vs = ns.map L2.V.int
  | _, [], .nil => rfl
  | _, n :: r, .cons (.int _) t => by rw [t.ofInts]; rfl
theorem RepL.ofStrs : ∀ {vs : List L2.V} {ns : List (List Nat)}, RepL T F ρ vs (ns.map D.str) → vs = (ns.map stS).map L2.V.str
  | _, [], .nil => rfl
  | _, n :: r, .cons (.str _) t => by rw [t.ofStrs]; rfl
theorem RepL.strs : ∀ {ns : List (List Nat)}, RepL T F ρ ((ns.map stS).map L2.V.str) (ns.map D.str)
  | [] => .nil
  | n :: r => .cons (.str n) RepL.strs
theorem RepL.ofBls : ∀ {vs : List L2.V} {ns : List Bool}, RepL T F ρ vs (ns.map D.bl) → vs = ns.map L2.V.bl
  | _, [], .nil => rfl
  | _, n :: r, .cons (.bl _) t => by rw [t.ofBls]; rfl
end

/-! ### the state -/
/-- the entry of a def: the heap, what was frozen, the cells -/
structure En where
  B : L2.Hp
  F : L2.Hp
  ρ : List Addr
section
variable (T : Tab)
/-- a cell in the heap -/
def CellR (F : L2.Hp) (ρ : List Addr) (H : L2.Hp) (a : Addr) : Cell → Prop
  | .L xs => ∃ vs, H a = some (.lst vs) ∧ RepL T F ρ vs xs
  | .O c fs => ∃ dx vs, H a = some (.ins (T.cls c) dx vs) ∧ F dx = some (.own a) ∧ vs.map Prod.fst = fs.map Prod.fst ∧ RepL T F ρ (vs.map Prod.snd) (fs.map Prod.snd)
variable {T} in
theorem CellR.mono {F F' : L2.Hp} {ρ ρ' : List Addr} {H H' : L2.Hp} {a : Addr} {c : Cell} (h : CellR T F ρ H a c) (l : Le F F') (p : ρ <+: ρ') (e : ∀ o, H a = some o → H' a = some o) : CellR T F' ρ' H' a c := by
  cases c with
  | L xs => obtain ⟨vs, h1, h2⟩ := h; exact ⟨vs, e _ h1, h2.mono l p⟩
  | O c fs => obtain ⟨dx, vs, h1, h2, h3, h4⟩ := h; exact ⟨dx, vs, e _ h1, l _ _ h2, h3, h4.mono l p⟩
variable {T} in
theorem CellR.some {F : L2.Hp} {ρ : List Addr} {H : L2.Hp} {a : Addr} {c : Cell} (h : CellR T F ρ H a c) : ∃ o, H a = Option.some o := by
  cases c with
  | L xs => obtain ⟨vs, h1, h2⟩ := h; exact ⟨_, h1⟩
  | O c fs => obtain ⟨dx, vs, h1, h2, h3⟩ := h; exact ⟨_, h1⟩
/-- the heap's part: what is frozen, the cells -/
structure HR (F : L2.Hp) (ρ : List Addr) (cs : List Cell) (H : L2.Hp) : Prop where
  sub : Le F H
  len : ρ.length = cs.length
  cell : ∀ (n : Nat) (a : Addr) (c : Cell), ρ[n]? = some a → cs[n]? = some c → CellR T F ρ H a c
  nd : ρ.Nodup
  out : ∀ a ∈ ρ, F a = none
variable {T} in
theorem HR.lc {F : L2.Hp} {ρ : List Addr} {s : S} {H : L2.Hp} (h : HR T F ρ s.cs H) {n : Nat} {a : Addr} {c : List D} (h1 : ρ[n]? = some a) (h2 : s.lc n = some c) : ∃ vs, H a = some (.lst vs) ∧ RepL T F ρ vs c := by
  unfold S.lc at h2
  split at h2
  · rename_i xs e
    cases h2
    exact h.cell n a _ h1 e
  · cases h2
/-- an address that one slot alone has -/
def Alone (e : En) (F : L2.Hp) (ρ : List Addr) (a : Addr) : Prop := F a = none ∧ a ∉ ρ ∧ e.B a = none
/-- a slot -/
def SlR (e : En) (F : L2.Hp) (ρ : List Addr) (H : L2.Hp) (v : L2.V) : D → Prop
  | .own xs => ∃ a vs, v = .ref a ∧ H a = some (.lst vs) ∧ RepL T F ρ vs xs ∧ Alone e F ρ a
  | .ownI c fs => ∃ a dx vs, v = .ref a ∧ H a = some (.ins (T.cls c) dx vs) ∧ H dx = some (.own a) ∧ RepF T F ρ vs fs ∧ Alone e F ρ a ∧ Alone e F ρ dx
  | d => Rep T F ρ v d
/-- held by a slot alone -/
def isOwn : D → Bool
  | .own _ => true
  | .ownI _ _ => true
  | _ => false
/-- all but the cells stays as it stood at the entry -/
structure SR (e : En) (F : L2.Hp) (ρ : List Addr) (s : S) (σ : L2.St) (H : L2.Hp) : Prop where
  hr : HR T F ρ s.cs H
  len : s.sl.length = σ.length
  sl : ∀ (i : Nat) (d : D), s.sl[i]? = some (some d) → ∃ v, σ[i]? = some (some v) ∧ SlR T e F ρ H v d
  apart : ∀ (i j : Nat) (d d' : D) (v : L2.V), i ≠ j → s.sl[i]? = some (some d) → s.sl[j]? = some (some d') → isOwn d = true → isOwn d' = true → σ[i]? = some (some v) → σ[j]? ≠ some (some v)
  keep : ∀ a o, e.B a = some o → a ∉ ρ → H a = some o
  fz : Le e.F F
  fnew : ∀ a o, F a = some o → e.F a = some o ∨ e.B a = none
  old : e.ρ <+: ρ
  new : ∀ a ∈ ρ, a ∈ e.ρ ∨ e.B a = none
end
end U

/-! U2: readings by the evaluator. -/
namespace U
open PySem PySem.Spec PyProof.Rows

theorem pe_imp {X : L2.Cx} {e : Expr} {t t' : L2.TE} (h : L2.PE X e t) (i : ∀ σ H Q, t' σ H Q → t σ H Q) : L2.PE X e t' :=
  ⟨fun pins s σ H Q I q => h.run pins s σ H Q I (i σ H Q q)⟩
theorem pt_imp {X : L2.Cx} {e : Expr} {t t' : L2.TT} (h : L2.PT X e t) (i : ∀ σ H Q, t' σ H Q → t σ H Q) : L2.PT X e t' :=
  ⟨fun pins s σ H Q I q => h.run pins s σ H Q I (i σ H Q q)⟩
theorem pw_imp {X : L2.Cx} {e : Expr} {t t' : L2.TT} (h : L2.PW X e t) (i : ∀ σ H Q, t' σ H Q → t σ H Q) : L2.PW X e t' :=
  ⟨fun wh pins s σ H Q I q => h.run wh pins s σ H Q I (i σ H Q q)⟩
theorem pa_imp {X : L2.Cx} {e : List Expr} {t t' : L2.TA} (h : L2.PA X e t) (i : ∀ σ H Q, t' σ H Q → t σ H Q) : L2.PA X e t' :=
  ⟨fun pos pins s σ H Q I q => h.run pos pins s σ H Q I (i σ H Q q)⟩
theorem ps_imp {X : L2.Cx} {e : Stmt} {t t' : L2.TS} (h : L2.PS X e t) (i : ∀ D σ H, t' D σ H → t D σ H) : L2.PS X e t' :=
  ⟨fun pins s σ H D I q => h.run pins s σ H D I (i D σ H q)⟩
theorem pss_imp {X : L2.Cx} {e : List Stmt} {t t' : L2.TS} (h : L2.PSs X e t) (i : ∀ D σ H, t' D σ H → t D σ H) : L2.PSs X e t' :=
  ⟨fun pins s σ H D I q => h.run pins s σ H D I (i D σ H q)⟩

/-- an exception's data -/
def XR (T : Tab) (F : L2.Hp) (ρ : List Addr) (H : L2.Hp) (cls : Value) (dd : Option Addr) : D → Prop
  | .ins c fs => cls = .ref (T.cls c) ∧ ∃ d vs, dd = some d ∧ H d = some (.xd vs) ∧ RepF T F ρ vs fs
  | _ => False

/-- what the code stands in: names' tables, what is wished of exceptions, the def's entry -/
structure Cy where
  T : Tab
  W : L2.WX
  e : En

abbrev RP (α β : Type) := Cy → L2.Hp → List Addr → β → α → Prop
def rpD : RP D L2.V := fun c F ρ v d => Rep c.T F ρ v d
def rpL : RP (List D) (List L2.V) := fun c F ρ v d => RepL c.T F ρ v d
def rpB : RP Bool Bool := fun _ _ _ b c => b = c

/-- what a run's end gives -/
def Run {α β : Type} (c : Cy) (Rp : RP α β) (F : L2.Hp) (ρ : List Addr) (r : R α) (σ : L2.St) (Q : β → L2.Hp → Prop) : Prop :=
  match r with
  | .bad => False
  | .ok a s => ∀ b H' F' ρ', Le F F' → ρ <+: ρ' → SR c.T c.e F' ρ' s σ H' → Rp c F' ρ' b a → Q b H'
  | .exc x s => ∀ cls dd H' F' ρ', Le F F' → ρ <+: ρ' → SR c.T c.e F' ρ' s σ H' → XR c.T F' ρ' H' cls dd x → c.W cls dd σ H'
theorem Run.mono {α β : Type} {c : Cy} {Rp : RP α β} {F F1 : L2.Hp} {ρ ρ1 : List Addr} {r : R α} {σ : L2.St} {Q : β → L2.Hp → Prop} (l : Le F F1) (p : ρ <+: ρ1) (h : Run c Rp F ρ r σ Q) : Run c Rp F1 ρ1 r σ Q := by
  cases r with
  | bad => exact h
  | ok a s => exact fun b H' F' ρ' l' p' q z => h b H' F' ρ' (l.trans l') (p.trans p') q z
  | exc x s => exact fun cls dd H' F' ρ' l' p' q z => h cls dd H' F' ρ' (l.trans l') (p.trans p') q z
theorem Run.imp {α β : Type} {c : Cy} {Rp : RP α β} {F : L2.Hp} {ρ : List Addr} {r : R α} {σ : L2.St} {Q Q' : β → L2.Hp → Prop} (h : Run c Rp F ρ r σ Q) (i : ∀ b H, Q b H → Q' b H) : Run c Rp F ρ r σ Q' := by
  cases r with
  | bad => exact h
  | ok a s => exact fun b H' F' ρ' l' p' q z => i _ _ (h b H' F' ρ' l' p' q z)
  | exc x s => exact h
/-- the reading of a run -/
def tG {α β : Type} (c : Cy) (Rp : RP α β) (m : M α) (σ : L2.St) (H : L2.Hp) (Q : β → L2.Hp → Prop) : Prop :=
  ∃ F ρ s, SR c.T c.e F ρ s σ H ∧ Run c Rp F ρ (m s) σ Q
/-- first m, then what f makes of it -/
theorem Run.bind {α β α' β' : Type} {c : Cy} {Rp : RP α β} {Rp' : RP α' β'} {F : L2.Hp} {ρ : List Addr} {m : M α} {f : α → M α'} {s : S} {σ : L2.St} {Q : β' → L2.Hp → Prop}
    (h : Run c Rp' F ρ (mBind m f s) σ Q) : Run c Rp F ρ (m s) σ fun b H1 => ∃ F1 ρ1 s1 a, Le F F1 ∧ ρ <+: ρ1 ∧ SR c.T c.e F1 ρ1 s1 σ H1 ∧ Rp c F1 ρ1 b a ∧ Run c Rp' F1 ρ1 (f a s1) σ Q := by
  unfold mBind at h
  cases e : m s with
  | bad => rw [e] at h; exact h
  | ok a s1 =>
    rw [e] at h
    exact fun b H1 F1 ρ1 l p q z => ⟨F1, ρ1, s1, a, l, p, q, z, Run.mono l p h⟩
  | exc x s1 => rw [e] at h; exact h
theorem tG_bind {α β α' β' : Type} {c : Cy} {Rp : RP α β} {Rp' : RP α' β'} {m : M α} {f : α → M α'} {σ : L2.St} {H : L2.Hp} {Q : β' → L2.Hp → Prop}
    (h : tG c Rp' (mBind m f) σ H Q) : tG c Rp m σ H fun b H1 => ∃ F1 ρ1 s1 a, SR c.T c.e F1 ρ1 s1 σ H1 ∧ Rp c F1 ρ1 b a ∧ Run c Rp' F1 ρ1 (f a s1) σ Q := by
  obtain ⟨F, ρ, s, q, h⟩ := h
  exact ⟨F, ρ, s, q, Run.imp (Run.bind h) fun b H1 ⟨F1, ρ1, s1, a, _, _, x⟩ => ⟨F1, ρ1, s1, a, x⟩⟩
/-- m, then (with what was known kept) n, then an end -/
theorem tG_bind2 {α β α' β' α'' β'' : Type} {c : Cy} {Rp : RP α β} {Rp' : RP α' β'} {Rp'' : RP α'' β''} {m : M α} {n : M α'} {f : α → α' → M α''} {σ : L2.St} {H : L2.Hp} {Q : β'' → L2.Hp → Prop}
    (mono : ∀ {F F' ρ ρ' b a}, Le F F' → ρ <+: ρ' → Rp c F ρ b a → Rp c F' ρ' b a)
    (h : tG c Rp'' (mBind m fun a => mBind n (f a)) σ H Q) : tG c Rp m σ H fun b H1 => tG c Rp' n σ H1 fun b' H2 =>
      ∃ F1 ρ1 s1 a a', SR c.T c.e F1 ρ1 s1 σ H2 ∧ Rp c F1 ρ1 b a ∧ Rp' c F1 ρ1 b' a' ∧ Run c Rp'' F1 ρ1 (f a a' s1) σ Q := by
  obtain ⟨F, ρ, s, q, h⟩ := h
  refine ⟨F, ρ, s, q, Run.imp (Run.bind h) fun b H1 ⟨F1, ρ1, s1, a, _, _, q1, z1, h1⟩ => ?_⟩
  exact ⟨F1, ρ1, s1, q1, Run.imp (Run.bind h1) fun b' H2 ⟨F2, ρ2, s2, a', l2, p2, q2, z2, h2⟩ => ⟨F2, ρ2, s2, a, a', q2, mono l2 p2 z1, z2, h2⟩⟩
theorem tG_imp {α β : Type} {c : Cy} {Rp : RP α β} {m : M α} {σ : L2.St} {H : L2.Hp} {Q Q' : β → L2.Hp → Prop} (h : tG c Rp m σ H Q) (i : ∀ b H, Q b H → Q' b H) : tG c Rp m σ H Q' := by
  obtain ⟨F, ρ, s, q, h⟩ := h
  exact ⟨F, ρ, s, q, h.imp i⟩
theorem tG_imp2 {α β α' β' : Type} {c : Cy} {Rp : RP α β} {Rp' : RP α' β'} {m : M α} {n : M α'} {σ : L2.St} {H : L2.Hp} {Q Q' : β → β' → L2.Hp → Prop}
    (h : tG c Rp m σ H fun b H1 => tG c Rp' n σ H1 (Q b)) (i : ∀ b b' H, Q b b' H → Q' b b' H) : tG c Rp m σ H fun b H1 => tG c Rp' n σ H1 (Q' b) :=
  tG_imp h fun b _ z => tG_imp z (i b)
theorem rpD_mono {c : Cy} {F F' : L2.Hp} {ρ ρ' : List Addr} {b : L2.V} {a : D} (l : Le F F') (p : ρ <+: ρ') (h : rpD c F ρ b a) : rpD c F' ρ' b a := Rep.mono l p h
theorem rpL_mono {c : Cy} {F F' : L2.Hp} {ρ ρ' : List Addr} {b : List L2.V} {a : List D} (l : Le F F') (p : ρ <+: ρ') (h : rpL c F ρ b a) : rpL c F' ρ' b a := RepL.mono l p h
/-- no further step -/
theorem Run.done {α β : Type} {c : Cy} {Rp : RP α β} {F : L2.Hp} {ρ : List Addr} {a : α} {s : S} {σ : L2.St} {Q : β → L2.Hp → Prop} {b : β} {H : L2.Hp} (h : Run c Rp F ρ (.ok a s) σ Q) (q : SR c.T c.e F ρ s σ H) (z : Rp c F ρ b a) : Q b H :=
  h b H F ρ (Le.refl F) (List.prefix_refl ρ) q z

/-! ### a new object is frozen -/
section
variable {T : Tab} {e : En} {F : L2.Hp} {ρ : List Addr} {s : S} {σ : L2.St} {H : L2.Hp} {p : Addr} {o : L2.HO}
theorem SR.fnone (q : SR T e F ρ s σ H) (h : H p = none) : F p = none := by
  cases z : F p with
  | none => rfl
  | some u => rw [q.hr.sub p u z] at h; cases h
theorem SR.rnone (q : SR T e F ρ s σ H) (h : H p = none) : p ∉ ρ := fun z => by
  obtain ⟨n, hn, e⟩ := List.getElem_of_mem z
  have e1 : ρ[n]? = some p := by rw [List.getElem?_eq_getElem hn, e]
  have hc : n < s.cs.length := by rw [← q.hr.len]; exact hn
  obtain ⟨o, h1⟩ := (q.hr.cell n p s.cs[n] e1 (List.getElem?_eq_getElem hc)).some
  rw [h] at h1; cases h1
theorem SR.bnone (q : SR T e F ρ s σ H) (h : H p = none) : e.B p = none := by
  cases z : e.B p with
  | none => rfl
  | some u => rw [q.keep p u z (q.rnone h)] at h; cases h
/-- tracked things are other than a new one -/
theorem SlR.upd {v : L2.V} {d : D} {F' : L2.Hp} {ρ' : List Addr} {H' : L2.Hp} (h : SlR T e F ρ H v d) (l : Le F F') (pr : ρ <+: ρ') (lh : ∀ a o, H a = some o → e.B a = none → a ∉ ρ → F a = none → H' a = some o ∧ F' a = none ∧ a ∉ ρ') : SlR T e F' ρ' H' v d := by
  cases d with
  | own xs =>
    obtain ⟨a, vs, rfl, h1, h2, h3, h4, h5⟩ := h
    obtain ⟨k1, k2, k3⟩ := lh a _ h1 h5 h4 h3
    exact ⟨a, vs, rfl, k1, h2.mono l pr, k2, k3, h5⟩
  | ownI c fs =>
    obtain ⟨a, dx, vs, rfl, h1, hd, h2, ⟨h3, h4, h5⟩, h6, h7, h8⟩ := h
    obtain ⟨k1, k2, k3⟩ := lh a _ h1 h5 h4 h3
    obtain ⟨m1, m2, m3⟩ := lh dx _ hd h8 h7 h6
    exact ⟨a, dx, vs, rfl, k1, m1, h2.mono l pr, ⟨k2, k3, h5⟩, m2, m3, h8⟩
  | _ => exact Rep.mono l pr h
theorem SR.alloc (q : SR T e F ρ s σ H) (h : H p = none) : SR T e (L2.upd F p o) ρ s σ (L2.upd H p o) := by
  have hF := q.fnone h
  have hr := q.rnone h
  have l : Le F (L2.upd F p o) := Le.upd hF
  refine ⟨⟨fun a u z => ?_, q.hr.len, fun n a c h1 h2 => ?_, q.hr.nd, fun a ha => ?_⟩, q.len, fun i d hd => ?_, q.apart, fun a u z ha => ?_, q.fz.trans l, fun a u z => ?_, q.old, q.new⟩
  · by_cases ha : a = p
    · subst ha; rw [L2.upd_same] at z ⊢; exact z
    · rw [L2.upd_ne ha] at z ⊢; exact q.hr.sub a u z
  · exact (q.hr.cell n a c h1 h2).mono l (List.prefix_refl ρ) fun o k1 => by rw [L2.upd_ne (L2.ne_of_none k1 h)]; exact k1
  · rw [L2.upd_ne (fun z : a = p => hr (by rw [← z]; exact ha))]; exact q.hr.out a ha
  · obtain ⟨v, h1, h2⟩ := q.sl i d hd
    refine ⟨v, h1, h2.upd l (List.prefix_refl ρ) fun a u k1 k2 k3 k4 => ?_⟩
    have ne := L2.ne_of_none k1 h
    exact ⟨by rw [L2.upd_ne ne]; exact k1, by rw [L2.upd_ne ne]; exact k4, k3⟩
  · have := q.keep a u z ha
    rw [L2.upd_ne (L2.ne_of_none this h)]; exact this
  · by_cases ha : a = p
    · subst ha; exact .inr (q.bnone h)
    · rw [L2.upd_ne ha] at z; exact q.fnew a u z
end

/-! ### a slot's own list is frozen -/
section
variable {T : Tab} {e : En} {F : L2.Hp} {ρ : List Addr} {s : S} {σ : L2.St} {H : L2.Hp}
theorem SlR.frz {v : L2.V} {d : D} {F' : L2.Hp} (h : SlR T e F ρ H v d) (l : Le F F') (lo : ∀ a, F a = none → (isOwn d = true → v = .ref a → F' a = none) ∧ (∀ b, isOwn d = true → v = .ref b → H a = some (.own b) → F' a = none)) : SlR T e F' ρ H v d := by
  cases d with
  | own xs =>
    obtain ⟨a, vs, rfl, h1, h2, h3, h4, h5⟩ := h
    exact ⟨a, vs, rfl, h1, h2.mono l (List.prefix_refl ρ), (lo a h3).1 rfl rfl, h4, h5⟩
  | ownI c fs =>
    obtain ⟨a, dx, vs, rfl, h1, hd, h2, ⟨h3, h4, h5⟩, h6, h7, h8⟩ := h
    exact ⟨a, dx, vs, rfl, h1, hd, h2.mono l (List.prefix_refl ρ), ⟨(lo a h3).1 rfl rfl, h4, h5⟩, (lo dx h6).2 a rfl rfl hd, h7, h8⟩
  | _ => exact Rep.mono l (List.prefix_refl ρ) h
theorem SR.setV (q : SR T e F ρ s σ H) {i : Nat} {v : L2.V} {d : D} (h1 : σ[i]? = some (some v)) (h2 : Rep T F ρ v d) (hd : isOwn d = false) : SR T e F ρ { s with sl := s.sl.set i (some d) } σ H := by
  refine ⟨q.hr, by simpa using q.len, fun j d' hj => ?_, fun j k d1 d2 w hjk h3 h4 o1 o2 => ?_, q.keep, q.fz, q.fnew, q.old, q.new⟩
  · by_cases hij : i = j
    · subst hij
      have hlt : i < s.sl.length := by
        have := (List.getElem?_eq_some_iff.mp hj).1
        simpa using this
      have hj : (s.sl.set i (some d))[i]? = some (some d') := hj
      rw [List.getElem?_set_self hlt] at hj
      cases hj
      refine ⟨v, h1, ?_⟩
      cases d <;> first | exact h2 | cases hd
    · have hj : (s.sl.set i (some d))[j]? = some (some d') := hj
      rw [List.getElem?_set_ne hij] at hj
      exact q.sl j d' hj
  · have h3 : (s.sl.set i (some d))[j]? = some (some d1) := h3
    have h4 : (s.sl.set i (some d))[k]? = some (some d2) := h4
    have ne : ∀ {m d'}, (s.sl.set i (some d))[m]? = some (some d') → isOwn d' = true → i ≠ m := fun {m d'} hm o z => by
      subst z
      have hlt : i < s.sl.length := by
        have := (List.getElem?_eq_some_iff.mp hm).1
        simpa using this
      rw [List.getElem?_set_self hlt] at hm
      cases hm; rw [hd] at o; cases o
    rw [List.getElem?_set_ne (ne h3 o1)] at h3
    rw [List.getElem?_set_ne (ne h4 o2)] at h4
    exact q.apart j k d1 d2 w hjk h3 h4 o1 o2
theorem SR.freezeL (q : SR T e F ρ s σ H) {i : Nat} {xs : List D} (hi : s.sl[i]? = some (some (.own xs))) :
    ∃ a vs, σ[i]? = some (some (.ref a)) ∧ F a = none ∧ H a = some (.lst vs) ∧ RepL T F ρ vs xs ∧ SR T e (L2.upd F a (.lst vs)) ρ { s with sl := s.sl.set i (some (.lst xs)) } σ H := by
  obtain ⟨v, hv, a, vs, rfl, h1, h2, h3, h4, h5⟩ := q.sl i _ hi
  have l : Le F (L2.upd F a (.lst vs)) := Le.upd h3
  refine ⟨a, vs, hv, h3, h1, h2, ?_⟩
  have hlt : i < s.sl.length := (List.getElem?_eq_some_iff.mp hi).1
  refine ⟨⟨fun b u z => ?_, q.hr.len, fun n b c k1 k2 => ?_, q.hr.nd, fun b hb => ?_⟩, by simpa using q.len, fun j d hj => ?_, fun j k d1 d2 w hjk k1 k2 o1 o2 => ?_, q.keep, q.fz.trans l, fun b u z => by
    by_cases hb : b = a
    · subst hb; exact .inr h5
    · rw [L2.upd_ne hb] at z; exact q.fnew b u z, q.old, q.new⟩
  · by_cases hb : b = a
    · subst hb; rw [L2.upd_same] at z; rw [← z]; exact h1
    · rw [L2.upd_ne hb] at z; exact q.hr.sub b u z
  · exact (q.hr.cell n b c k1 k2).mono l (List.prefix_refl ρ) fun _ z => z
  · rw [L2.upd_ne (fun z : b = a => h4 (by rw [← z]; exact hb))]; exact q.hr.out b hb
  · have hj : (s.sl.set i (some (.lst xs)))[j]? = some (some d) := hj
    by_cases hij : i = j
    · subst hij
      rw [List.getElem?_set_self hlt] at hj
      cases hj
      exact ⟨.ref a, hv, .lst L2.upd_same (h2.mono l (List.prefix_refl ρ))⟩
    · rw [List.getElem?_set_ne hij] at hj
      obtain ⟨w, k1, k2⟩ := q.sl j d hj
      refine ⟨w, k1, k2.frz l fun b hb => ⟨fun o z => ?_, fun b' o z hz => ?_⟩⟩
      · subst z
        have : b ≠ a := fun z => q.apart i j _ d (.ref a) hij hi hj rfl o hv (by rw [← z]; exact k1)
        rw [L2.upd_ne this]; exact hb
      · rw [L2.upd_ne (L2.ne_of hz h1 (by intro z; cases z))]; exact hb
  · have k1 : (s.sl.set i (some (.lst xs)))[j]? = some (some d1) := k1
    have k2 : (s.sl.set i (some (.lst xs)))[k]? = some (some d2) := k2
    have ne : ∀ {m d'}, (s.sl.set i (some (.lst xs)))[m]? = some (some d') → isOwn d' = true → i ≠ m := fun {m d'} hm o z => by
      subst z
      rw [List.getElem?_set_self hlt] at hm
      cases hm; cases o
    rw [List.getElem?_set_ne (ne k1 o1)] at k1
    rw [List.getElem?_set_ne (ne k2 o2)] at k2
    exact q.apart j k d1 d2 w hjk k1 k2 o1 o2
theorem SR.freezeI (q : SR T e F ρ s σ H) {i c : Nat} {fs : List (Nat × D)} (hi : s.sl[i]? = some (some (.ownI c fs))) :
    ∃ a dx vs, σ[i]? = some (some (.ref a)) ∧ F a = none ∧ F dx = none ∧ dx ≠ a ∧ H a = some (.ins (T.cls c) dx vs) ∧ H dx = some (.own a) ∧ RepF T F ρ vs fs ∧
      SR T e (L2.upd (L2.upd F dx (.own a)) a (.ins (T.cls c) dx vs)) ρ { s with sl := s.sl.set i (some (.ins c fs)) } σ H := by
  obtain ⟨v, hv, a, dx, vs, rfl, h1, hd, h2, ⟨h3, h4, h5⟩, h6, h7, h8⟩ := q.sl i _ hi
  have nda : dx ≠ a := L2.ne_of hd h1 (by intro z; cases z)
  have l : Le F (L2.upd (L2.upd F dx (.own a)) a (.ins (T.cls c) dx vs)) := (Le.upd h6).trans (Le.upd (by rw [L2.upd_ne nda.symm]; exact h3))
  refine ⟨a, dx, vs, hv, h3, h6, nda, h1, hd, h2, ?_⟩
  have hlt : i < s.sl.length := (List.getElem?_eq_some_iff.mp hi).1
  refine ⟨⟨fun b u z => ?_, q.hr.len, fun n b c k1 k2 => ?_, q.hr.nd, fun b hb => ?_⟩, by simpa using q.len, fun j d hj => ?_, fun j k d1 d2 w hjk k1 k2 o1 o2 => ?_, q.keep, q.fz.trans l, fun b u z => by
    by_cases hb : b = a
    · subst hb; exact .inr h5
    · rw [L2.upd_ne hb] at z
      by_cases hb2 : b = dx
      · subst hb2; exact .inr h8
      · rw [L2.upd_ne hb2] at z; exact q.fnew b u z, q.old, q.new⟩
  · by_cases hb : b = a
    · subst hb; rw [L2.upd_same] at z; rw [← z]; exact h1
    · rw [L2.upd_ne hb] at z
      by_cases hb2 : b = dx
      · subst hb2; rw [L2.upd_same] at z; rw [← z]; exact hd
      · rw [L2.upd_ne hb2] at z; exact q.hr.sub b u z
  · exact (q.hr.cell n b c k1 k2).mono l (List.prefix_refl ρ) fun _ z => z
  · rw [L2.upd_ne (fun z : b = a => h4 (by rw [← z]; exact hb)), L2.upd_ne (fun z : b = dx => h7 (by rw [← z]; exact hb))]; exact q.hr.out b hb
  · have hj : (s.sl.set i (some (.ins c fs)))[j]? = some (some d) := hj
    by_cases hij : i = j
    · subst hij
      rw [List.getElem?_set_self hlt] at hj
      cases hj
      exact ⟨.ref a, hv, .ins L2.upd_same (by rw [L2.upd_ne nda, L2.upd_same]) (h2.mono l (List.prefix_refl ρ))⟩
    · rw [List.getElem?_set_ne hij] at hj
      obtain ⟨w, k1, k2⟩ := q.sl j d hj
      refine ⟨w, k1, k2.frz l fun b hb => ⟨fun o z => ?_, fun b' o z hz => ?_⟩⟩
      · subst z
        have n1 : b ≠ a := fun z => q.apart i j _ d (.ref a) hij hi hj rfl o hv (by rw [← z]; exact k1)
        have n2 : b ≠ dx := fun z => by
          subst z
          cases d with
          | own xs =>
            obtain ⟨b', ws, e1, m1, _⟩ := k2
            cases e1; rw [hd] at m1; cases m1
          | ownI c' fs' =>
            obtain ⟨b', dx', ws, e1, m1, _⟩ := k2
            cases e1; rw [hd] at m1; cases m1
          | _ => cases o
        rw [L2.upd_ne n1, L2.upd_ne n2]; exact hb
      · have n1 : b ≠ a := L2.ne_of hz h1 (by intro z; cases z)
        have n2 : b ≠ dx := fun z' => by
          subst z'
          rw [hd] at hz
          cases hz
          subst z
          exact q.apart i j _ d (.ref a) hij hi hj rfl o hv k1
        rw [L2.upd_ne n1, L2.upd_ne n2]; exact hb
  · have k1 : (s.sl.set i (some (.ins c fs)))[j]? = some (some d1) := k1
    have k2 : (s.sl.set i (some (.ins c fs)))[k]? = some (some d2) := k2
    have ne : ∀ {m d'}, (s.sl.set i (some (.ins c fs)))[m]? = some (some d') → isOwn d' = true → i ≠ m := fun {m d'} hm o z => by
      subst z
      rw [List.getElem?_set_self hlt] at hm
      cases hm; cases o
    rw [List.getElem?_set_ne (ne k1 o1)] at k1
    rw [List.getElem?_set_ne (ne k2 o2)] at k2
    exact q.apart j k d1 d2 w hjk k1 k2 o1 o2
end

/-! ### names, constants -/
section
variable {X : L2.Cx} {c : Cy} {pos : Pos}
def getVar (i : Nat) : M D := fun s => match s.sl[i]? with
  | some (some (.own xs)) => .ok (.lst xs) { s with sl := s.sl.set i (some (.lst xs)) }
  | some (some (.ownI c fs)) => .ok (.ins c fs) { s with sl := s.sl.set i (some (.ins c fs)) }
  | some (some d) => .ok d s
  | _ => .bad
theorem e_var {i : Nat} {x : Str} (hN : X.N[i]? = some x) (hv : L2.Vis X.env.scope x) (hd : (x == ("__debug__" : Str)) = false) (hcd : (x == ("__classdict__" : Str)) = false) :
    L2.PE X (.Name x pos) (tG c rpD (getVar i)) := by
  refine pe_imp (L2.pe_var hN hv hd hcd) fun σ H Q h => ?_
  obtain ⟨F, ρ, s, q, h⟩ := h
  unfold getVar at h
  cases e : s.sl[i]? with
  | none => rw [e] at h; exact h.elim
  | some o =>
    rw [e] at h
    cases o with
    | none => exact h.elim
    | some d =>
      cases d with
      | own xs =>
        obtain ⟨a, vs, h1, h2, h3, h4, q'⟩ := q.freezeL e
        exact ⟨.ref a, h1, h _ _ _ _ (Le.upd h2) (List.prefix_refl ρ) q' (.lst L2.upd_same (h4.mono (Le.upd h2) (List.prefix_refl ρ)))⟩
      | ownI k fs =>
        obtain ⟨a, dx, vs, h1, h2, h3, nda, h4, h5, h6, q'⟩ := q.freezeI e
        have l : Le F (L2.upd (L2.upd F dx (.own a)) a (.ins (c.T.cls k) dx vs)) := (Le.upd h3).trans (Le.upd (by rw [L2.upd_ne nda.symm]; exact h2))
        exact ⟨.ref a, h1, h _ _ _ _ l (List.prefix_refl ρ) q' (.ins L2.upd_same (by rw [L2.upd_ne nda, L2.upd_same]) (h6.mono l (List.prefix_refl ρ)))⟩
      | _ =>
        obtain ⟨v, h1, h2⟩ := q.sl i _ e
        exact ⟨v, h1, Run.done h q h2⟩
theorem e_lit {e : Expr} {v : L2.V} {d : D} (h : L2.PE X e (L2.tC v)) (hr : ∀ F ρ, Rep c.T F ρ v d) : L2.PE X e (tG c rpD (mPure d)) :=
  pe_imp h fun _ _ _ ⟨_, _, _, q, r⟩ => Run.done r q (hr _ _)
theorem e_bad {e : Expr} : L2.PE X e (tG c rpD mBad) := ⟨fun _ _ _ _ _ _ h => by obtain ⟨_, _, _, _, r⟩ := h; exact r.elim⟩
/-- a pure answer by a rule on values -/
theorem e_op {op : Operator} {a b : Expr} {ma mb : M D} {g : D → D → M D} {r : L2.R2} (ha : L2.PE X a (tG c rpD ma)) (hb : L2.PE X b (tG c rpD mb)) (ho : L2.OpR X (binaryOp op) r)
    (hr : ∀ (F : L2.Hp) (ρ : List Addr) (s : S) (σ : L2.St) (H : L2.Hp) (x y : L2.V) (da db : D) (Q : L2.VK), SR c.T c.e F ρ s σ H → Rep c.T F ρ x da → Rep c.T F ρ y db → Run c rpD F ρ (g da db s) σ Q → r x y H Q) :
    L2.PE X (.BinOp a op b pos) (tG c rpD (mBind ma fun x => mBind mb (g x))) :=
  pe_imp (L2.pe_op ho ha hb) fun σ H Q h => tG_imp2 (tG_bind2 rpD_mono h) fun x y H2 ⟨F, ρ, s, da, db, q, z1, z2, hh⟩ => hr F ρ s σ H2 x y da db Q q z1 z2 hh
end
end U

/-! U3: operators on data. -/
namespace U
open PySem PySem.Spec PyProof.Rows

theorem stS_app (a b : List Nat) : stS a ++ stS b = stS (a ++ b) := by
  show (⟨a.toArray ++ b.toArray⟩ : Str) = ⟨(a ++ b).toArray⟩
  simp
theorem stS_len (a : List Nat) : (stS a).length = a.length := by
  show a.toArray.size = _
  simp
theorem stS_inj {a b : List Nat} : stS a = stS b ↔ a = b := by
  constructor
  · intro h
    have : a.toArray = b.toArray := congrArg Str.cps h
    simpa using this
  · intro h; rw [h]
theorem stS_cps (a : List Nat) : (stS a).cps.toList = a := rfl

/-! ### what is read -/
/-- a list's items -/
def asL (s : S) : D → Option (List D)
  | .lst xs => some xs
  | .ob n => s.lc n
  | _ => none
section
variable {c : Cy} {F : L2.Hp} {ρ : List Addr} {s : S} {σ : L2.St} {H : L2.Hp} {v : L2.V} {d : D} {xs : List D}
theorem SR.asL (q : SR c.T c.e F ρ s σ H) (r : Rep c.T F ρ v d) (e : asL s d = some xs) : ∃ a vs, v = .ref a ∧ H a = some (.lst vs) ∧ RepL c.T F ρ vs xs := by
  cases r with
  | lst h1 h2 => cases e; exact ⟨_, _, rfl, q.hr.sub _ _ h1, h2⟩
  | ob h1 =>
    obtain ⟨vs, k1, k2⟩ := q.hr.lc h1 e
    exact ⟨_, vs, rfl, k1, k2⟩
  | _ => cases e
theorem SR.asT (q : SR c.T c.e F ρ s σ H) (r : Rep c.T F ρ v (.tup xs)) : ∃ a vs, v = .ref a ∧ L2.SqT c.T.K H a vs ∧ RepL c.T F ρ vs xs := by
  cases r with
  | tup h1 h2 => exact ⟨_, _, rfl, q.hr.sub.sqT h1.sq, h2⟩
/-- a new frozen list, tuple -/
theorem Run.newL {ds : List D} {vs : List L2.V} {Q : L2.VK} {p : Addr} (h : Run c rpD F ρ (.ok (.lst ds) s) σ Q) (q : SR c.T c.e F ρ s σ H) (z : RepL c.T F ρ vs ds) (hp : H p = none) : Q (.ref p) (L2.upd H p (.lst vs)) :=
  have l : Le F (L2.upd F p (.lst vs)) := Le.upd (q.fnone hp)
  h _ _ _ _ l (List.prefix_refl ρ) (q.alloc hp) (.lst L2.upd_same (z.mono l (List.prefix_refl ρ)))
theorem Run.newT {ds : List D} {vs : List L2.V} {Q : L2.VK} {p : Addr} (h : Run c rpD F ρ (.ok (.tup ds) s) σ Q) (q : SR c.T c.e F ρ s σ H) (z : RepL c.T F ρ vs ds) (hp : H p = none) : Q (.ref p) (L2.upd H p (.tup vs)) :=
  have l : Le F (L2.upd F p (.tup vs)) := Le.upd (q.fnone hp)
  h _ _ _ _ l (List.prefix_refl ρ) (q.alloc hp) (.tup (.inl L2.upd_same) (z.mono l (List.prefix_refl ρ)))
end
theorem Run.guard {α β : Type} {c : Cy} {Rp : RP α β} {F : L2.Hp} {ρ : List Addr} {p : Prop} [Decidable p] {m : M α} {s : S} {σ : L2.St} {Q : β → L2.Hp → Prop} (h : Run c Rp F ρ ((if p then m else mBad) s) σ Q) : p ∧ Run c Rp F ρ (m s) σ Q := by
  by_cases hp : p
  · rw [if_pos hp] at h; exact ⟨hp, h⟩
  · rw [if_neg hp] at h; exact h.elim
/-- an answer, or none -/
def mOpt {α : Type} : Option α → M α
  | some a => mPure a
  | none => mBad
theorem Run.opt {α β : Type} {c : Cy} {Rp : RP α β} {F : L2.Hp} {ρ : List Addr} {o : Option α} {s : S} {σ : L2.St} {Q : β → L2.Hp → Prop} (h : Run c Rp F ρ (mOpt o s) σ Q) : ∃ a, o = some a ∧ Run c Rp F ρ (.ok a s) σ Q := by
  cases o with
  | none => exact h.elim
  | some a => exact ⟨a, rfl, h⟩

/-! ### two-place operators -/
/-- a reading by data -/
def rG2 (c : Cy) (g : D → D → M D) : L2.R2 := fun x y H Q => ∃ F ρ s σ da db, SR c.T c.e F ρ s σ H ∧ Rep c.T F ρ x da ∧ Rep c.T F ρ y db ∧ Run c rpD F ρ (g da db s) σ Q
theorem e_bin {X : L2.Cx} {c : Cy} {op : Operator} {a b : Expr} {pos : Pos} {ma mb : M D} {g : D → D → M D} (ha : L2.PE X a (tG c rpD ma)) (hb : L2.PE X b (tG c rpD mb)) (ho : L2.OpR X (binaryOp op) (rG2 c g)) :
    L2.PE X (.BinOp a op b pos) (tG c rpD (mBind ma fun x => mBind mb (g x))) :=
  pe_imp (L2.pe_op ho ha hb) fun σ H Q h => tG_imp2 (tG_bind2 rpD_mono h) fun x y H2 ⟨F, ρ, s, da, db, q, z1, z2, hh⟩ => ⟨F, ρ, s, σ, da, db, q, z1, z2, hh⟩
theorem opr_of {X : L2.Cx} {f : Value → Value → Sem Value} {r : L2.R2} (h : ∀ x y H Q, r x y H Q → ∃ r', L2.OpR X f r' ∧ r' x y H Q) : L2.OpR X f r := fun pins s σ H x y v u Q I rx ry q => by
  obtain ⟨r', h1, h2⟩ := h x y H Q q
  exact h1 pins s σ H x y v u Q I rx ry h2

/-- an int within 2 ^ 64 -/
def in64 (i : Int) : Bool := decide (-(2 ^ 64) < i) && decide (i < 2 ^ 64)
theorem in64_ok {i : Int} (h : in64 i = true) : -(2 ^ 64) < i ∧ i < 2 ^ 64 := by
  unfold in64 at h
  rw [Bool.and_eq_true, decide_eq_true_eq, decide_eq_true_eq] at h
  exact h
def addD : D → D → M D
  | .int i, .int j => mPure (.int (i + j))
  | .str x, .str y => if x.length + y.length ≤ sizeLine then mPure (.str (x ++ y)) else mBad
  | .lst x, .lst y => if x.length + y.length ≤ sizeLine then mPure (.lst (x ++ y)) else mBad
  | .tup x, .tup y => if x.length + y.length ≤ sizeLine then mPure (.tup (x ++ y)) else mBad
  | _, _ => mBad
def mulD : D → D → M D
  | .int i, .int j => if (in64 i || in64 j) = true then mPure (.int (i * j)) else mBad
  | .lst x, .int k => if in64 k = true ∧ -(2 ^ 63) ≤ k ∧ k < 2 ^ 63 ∧ x.length * k.toNat ≤ sizeLine then mPure (.lst (List.replicate k.toNat x).flatten) else mBad
  | _, _ => mBad
def binD : Operator → D → D → M D
  | .Add, a, b => addD a b
  | .Sub, .int i, .int j => mPure (.int (i - j))
  | .Mult, a, b => mulD a b
  | .FloorDiv, .int i, .int j => if 0 < j ∧ j < 1073741824 then mPure (.int (i / j)) else mBad
  | .Mod, .int i, .int j => if 0 < j then mPure (.int (i % j)) else mBad
  | .Pow, .int i, .int j => if 0 ≤ j ∧ j ≤ 1000000 ∧ i.natAbs < 2 ^ 64 then mPure (.int (i ^ j.toNat)) else mBad
  | .LShift, .int i, .int j => if 0 ≤ j ∧ j ≤ 1000000 ∧ i.natAbs < 2 ^ 64 then mPure (.int (i * 2 ^ j.toNat)) else mBad
  | .RShift, .int i, .int j => if 0 ≤ j then mPure (.int (i / 2 ^ j.toNat)) else mBad
  | .BitAnd, .int i, .int j => mPure (.int (Builtin.bitAnd i j))
  | .BitOr, .int i, .int j => mPure (.int (Builtin.bitOr i j))
  | _, _, _ => mBad
section
variable {X : L2.Cx} {c : Cy}
theorem Run.int {F : L2.Hp} {ρ : List Addr} {s : S} {σ : L2.St} {H : L2.Hp} {Q : L2.VK} {i : Int} (h : Run c rpD F ρ (mPure (.int i) s) σ Q) (q : SR c.T c.e F ρ s σ H) : Q (.int i) H := Run.done h q (Rep.int i)
theorem opr_add (hT : c.T.K = X.K) : L2.OpR X (binaryOp .Add) (rG2 c addD) := opr_of fun x y H Q ⟨F, ρ, s, σ, da, db, q, ra, rb, h⟩ => by
  unfold addD at h
  split at h
  · cases ra; cases rb
    exact ⟨_, L2.op_add, _, _, rfl, rfl, h.int q⟩
  · cases ra; cases rb
    obtain ⟨g, h⟩ := h.guard
    refine ⟨_, L2.op_add_str, _, _, rfl, rfl, by rw [stS_len, stS_len]; exact g, ?_⟩
    rw [stS_app]
    exact Run.done h q (Rep.str _)
  · obtain ⟨g, h⟩ := h.guard
    obtain ⟨a, vs, rfl, h1, r1⟩ := q.asL ra rfl
    obtain ⟨b, ws, rfl, h2, r2⟩ := q.asL rb rfl
    exact ⟨_, L2.op_cat, _, _, _, _, rfl, rfl, h1, h2, by rw [r1.length, r2.length]; exact g, fun p hp => Run.newL h q (r1.append r2) hp⟩
  · obtain ⟨g, h⟩ := h.guard
    obtain ⟨a, vs, rfl, h1, r1⟩ := q.asT ra
    obtain ⟨b, ws, rfl, h2, r2⟩ := q.asT rb
    rw [hT] at h1 h2
    refine ⟨_, L2.op_catA, _, _, _, _, rfl, rfl, h1, h2, by rw [r1.length, r2.length]; exact g, fun e => ?_, fun _ e => ?_, fun _ _ p hp => Run.newT h q (r1.append r2) hp⟩
    · subst e; cases r1
      exact Run.done h q rb
    · subst e; cases r2
      rw [List.append_nil] at h
      exact Run.done h q ra
  · exact h.elim
theorem opr_mul : L2.OpR X (binaryOp .Mult) (rG2 c mulD) := opr_of fun x y H Q ⟨F, ρ, s, σ, da, db, q, ra, rb, h⟩ => by
  unfold mulD at h
  split at h
  · cases ra; cases rb
    obtain ⟨g, h⟩ := h.guard
    refine ⟨_, L2.op_mul, _, _, rfl, rfl, ?_, h.int q⟩
    rw [Bool.or_eq_true] at g
    exact g.imp in64_ok in64_ok
  · cases rb
    obtain ⟨⟨_, g1, g2, g3⟩, h⟩ := h.guard
    obtain ⟨a, vs, rfl, h1, r1⟩ := q.asL ra rfl
    exact ⟨_, L2.op_rep, _, _, _, rfl, rfl, h1, g1, g2, by rw [r1.length]; exact g3, fun p hp => Run.newL h q r1.flat hp⟩
  · exact h.elim
theorem opr_bin (op : Operator) (hT : c.T.K = X.K) : L2.OpR X (binaryOp op) (rG2 c (binD op)) := by
  have two : ∀ {f : Value → Value → Sem Value} {C : Int → Int → Prop} {g : Int → Int → Int} (dec : ∀ i j, Decidable (C i j)) (m : D → D → M D), L2.OpR X f (L2.rI C fun i j => .int (g i j)) →
      (∀ da db s, (∃ i j, da = .int i ∧ db = .int j ∧ m da db = if C i j then mPure (.int (g i j)) else mBad) ∨ m da db s = .bad) → L2.OpR X f (rG2 c m) := by
    intro f C g dec m ho hm
    refine opr_of fun x y H Q ⟨F, ρ, s, σ, da, db, q, ra, rb, h⟩ => ?_
    rcases hm da db s with ⟨i, j, rfl, rfl, e⟩ | e
    · rw [e] at h
      cases ra; cases rb
      obtain ⟨g, h⟩ := h.guard
      exact ⟨_, ho, _, _, rfl, rfl, g, h.int q⟩
    · rw [e] at h; exact h.elim
  have two0 : ∀ {f : Value → Value → Sem Value} {g : Int → Int → Int} (m : D → D → M D), L2.OpR X f (L2.rI0 fun i j => .int (g i j)) →
      (∀ da db s, (∃ i j, da = .int i ∧ db = .int j ∧ m da db = mPure (.int (g i j))) ∨ m da db s = .bad) → L2.OpR X f (rG2 c m) := by
    intro f g m ho hm
    refine opr_of fun x y H Q ⟨F, ρ, s, σ, da, db, q, ra, rb, h⟩ => ?_
    rcases hm da db s with ⟨i, j, rfl, rfl, e⟩ | e
    · rw [e] at h
      cases ra; cases rb
      exact ⟨_, ho, _, _, rfl, rfl, h.int q⟩
    · rw [e] at h; exact h.elim
  cases op with
  | Add => exact opr_add hT
  | Mult => exact opr_mul
  | Sub => exact two0 _ L2.op_sub fun da db s => by cases da <;> cases db <;> first | exact .inr rfl | exact .inl ⟨_, _, rfl, rfl, rfl⟩
  | BitAnd => exact two0 _ L2.op_and fun da db s => by cases da <;> cases db <;> first | exact .inr rfl | exact .inl ⟨_, _, rfl, rfl, rfl⟩
  | BitOr => exact two0 _ L2.op_or fun da db s => by cases da <;> cases db <;> first | exact .inr rfl | exact .inl ⟨_, _, rfl, rfl, rfl⟩
  | FloorDiv => exact two (fun i j => inferInstanceAs (Decidable (_ ∧ _))) _ L2.op_fdiv fun da db s => by cases da <;> cases db <;> first | exact .inr rfl | exact .inl ⟨_, _, rfl, rfl, rfl⟩
  | Mod => exact two (fun i j => inferInstance) _ L2.op_mod fun da db s => by cases da <;> cases db <;> first | exact .inr rfl | exact .inl ⟨_, _, rfl, rfl, rfl⟩
  | Pow => exact two (fun i j => inferInstanceAs (Decidable (_ ∧ _))) _ L2.op_pow fun da db s => by cases da <;> cases db <;> first | exact .inr rfl | exact .inl ⟨_, _, rfl, rfl, rfl⟩
  | LShift => exact two (fun i j => inferInstanceAs (Decidable (_ ∧ _))) _ L2.op_shl fun da db s => by cases da <;> cases db <;> first | exact .inr rfl | exact .inl ⟨_, _, rfl, rfl, rfl⟩
  | RShift => exact two (fun i j => inferInstance) _ L2.op_shr fun da db s => by cases da <;> cases db <;> first | exact .inr rfl | exact .inl ⟨_, _, rfl, rfl, rfl⟩
  | _ => exact opr_of fun x y H Q ⟨F, ρ, s, σ, da, db, q, ra, rb, h⟩ => h.elim
end
end U

/-! U4: comparisons, truth, subscripts, slices. -/
namespace U
open PySem PySem.Spec PyProof.Rows

/-! ### data without cells and instances -/
mutual
def toP : D → Option PyData
  | .non => some .none
  | .bl b => some (.bool b)
  | .int i => some (.int i)
  | .str s => some (.str (stS s))
  | .lst xs => (toPL xs).map .list
  | .tup xs => (toPL xs).map .tuple
  | _ => none
def toPL : List D → Option (List PyData)
  | [] => some []
  | d :: ds => match toP d, toPL ds with
    | some p, some ps => some (p :: ps)
    | _, _ => none
end
section
variable {T : Tab} {F H : L2.Hp} {ρ : List Addr}
mutual
theorem toP_ok {v : L2.V} {d : D} {p : PyData} (l : Le F H) : Rep T F ρ v d → toP d = some p → L2.Dp T.K H v p
  | .non, e => by unfold toP at e; cases e; exact .non
  | .bl b, e => by unfold toP at e; cases e; exact .bl b
  | .int i, e => by unfold toP at e; cases e; exact .int i
  | .str s, e => by unfold toP at e; cases e; exact .str _
  | .lst h r, e => by
    unfold toP at e
    obtain ⟨ps, e1, rfl⟩ := Option.map_eq_some_iff.mp e
    exact .lst (L2.SqL.of (l _ _ h)) (toPL_ok l r e1)
  | .tup h r, e => by
    unfold toP at e
    obtain ⟨ps, e1, rfl⟩ := Option.map_eq_some_iff.mp e
    exact .tup (l.sqT h.sq) (toPL_ok l r e1)
  | .ob _, e => by unfold toP at e; cases e
  | .scr _, e => by unfold toP at e; cases e
  | .ty _, e => by unfold toP at e; cases e
  | .cls, e => by unfold toP at e; cases e
  | .ins _ _ _, e => by unfold toP at e; cases e
theorem toPL_ok {vs : List L2.V} {ds : List D} {ps : List PyData} (l : Le F H) : RepL T F ρ vs ds → toPL ds = some ps → L2.DpAll T.K H vs ps
  | .nil, e => by unfold toPL at e; cases e; exact .nil
  | .cons (d := d) (ds := ds) a b, e => by
    unfold toPL at e
    cases e1 : toP d with
    | none => rw [e1] at e; cases e
    | some p =>
      rw [e1] at e
      cases e2 : toPL ds with
      | none => rw [e2] at e; cases e
      | some qs =>
        rw [e2] at e
        cases e
        exact .cons (toP_ok l a e1) (toPL_ok l b e2)
end
end

/-- two scalars that == tells apart as data does -/
def scalD : D → D → Option Bool
  | .non, .non => some true
  | .int i, .int j => some (decide (i = j))
  | .bl i, .bl j => some (decide (i = j))
  | .str i, .str j => some (decide (i = j))
  | .non, .int _ => some false | .int _, .non => some false | .non, .bl _ => some false | .bl _, .non => some false | .non, .str _ => some false | .str _, .non => some false
  | .int _, .str _ => some false | .str _, .int _ => some false | .bl _, .str _ => some false | .str _, .bl _ => some false
  | _, _ => none
def eqvD (a b : D) : Option Bool := match toP a, toP b with
  | some p, some q => if SeqAt.shaped p && SeqAt.shaped q then some (PyData.eqv p q) else none
  | _, _ => none
def eqD (a b : D) : Option Bool := match scalD a b with
  | some r => some r
  | none => eqvD a b
/-- a cell's list, as it stands -/
def derS (s : S) (d : D) : D := match d with
  | .ob n => (match s.lc n with
    | some xs => .lst xs
    | none => .ob n)
  | d => d
def eqS (s : S) (a b : D) : Option Bool := match scalD a b with
  | some r => some r
  | none => eqvD (derS s a) (derS s b)
theorem derS_ok {T : Tab} {e : En} {F : L2.Hp} {ρ : List Addr} {s : S} {σ : L2.St} {H : L2.Hp} {v : L2.V} {d : D} {p : PyData} (q : SR T e F ρ s σ H) (r : Rep T F ρ v d) (h : toP (derS s d) = some p) : L2.Dp T.K H v p := by
  by_cases hd : ∃ n, d = .ob n
  · obtain ⟨n, rfl⟩ := hd
    cases r with
    | @ob a _ hn =>
      unfold derS at h
      dsimp only at h
      cases e1 : s.lc n with
      | none => rw [e1] at h; unfold toP at h; cases h
      | some xs =>
        rw [e1] at h
        obtain ⟨vs, k1, k2⟩ := q.hr.lc hn e1
        unfold toP at h
        obtain ⟨ps, e2, rfl⟩ := Option.map_eq_some_iff.mp h
        exact .lst (L2.SqL.of k1) (toPL_ok q.hr.sub k2 e2)
  · have : derS s d = d := by
      cases d with
      | ob n => exact absurd ⟨n, rfl⟩ hd
      | _ => rfl
    rw [this] at h
    exact toP_ok q.hr.sub r h
theorem scalD_ok {T : Tab} {F : L2.Hp} {ρ : List Addr} {x y : L2.V} {a b : D} {k : Bool} (ra : Rep T F ρ x a) (rb : Rep T F ρ y b) (e : scalD a b = some k) : L2.scal x y = true ∧ decide (x = y) = k := by
  unfold scalD at e
  split at e <;> (first | (cases e; done) | skip) <;> (cases ra; cases rb; refine ⟨rfl, ?_⟩)
  all_goals first
    | (cases e; simp; done)
    | (rename_i i j; cases e; by_cases hij : i = j <;> simp [hij, stS_inj]; done)
/-! ### in -/
def flatD : D → Bool
  | .non => true
  | .bl _ => true
  | .int _ => true
  | .str _ => true
  | _ => false
def eqF : D → D → Bool
  | .non, .non => true
  | .bl a, .bl b => a == b
  | .bl a, .int b => (if a then 1 else 0) == b
  | .int a, .bl b => a == (if b then 1 else 0)
  | .int a, .int b => a == b
  | .str a, .str b => decide (a = b)
  | _, _ => false
section
variable {T : Tab} {F : L2.Hp} {ρ : List Addr}
theorem flatD_ok {v : L2.V} {d : D} (r : Rep T F ρ v d) (h : flatD d = true) : L2.flatV v = true := by cases r <;> first | rfl | cases h
theorem eqF_ok {v w : L2.V} {d e : D} (r : Rep T F ρ v d) (r2 : Rep T F ρ w e) (h : flatD d = true) (h2 : flatD e = true) : L2.eqV v w = eqF d e := by
  cases r <;> (first | (cases h; done) | skip) <;> (cases r2 <;> (first | (cases h2; done) | skip)) <;> first | rfl | skip
  rename_i s t
  show (stS s == stS t) = decide (s = t)
  by_cases hh : s = t
  · subst hh; simp
  · rw [decide_eq_false hh]; exact beq_eq_false_iff_ne.mpr fun z => hh (stS_inj.mp z)
theorem flatL_ok : ∀ {vs : List L2.V} {ds : List D}, RepL T F ρ vs ds → ds.all flatD = true → vs.all L2.flatV = true
  | _, _, .nil, _ => rfl
  | _, _, .cons a b, h => by
    rw [List.all_cons, Bool.and_eq_true] at h
    rw [List.all_cons, flatD_ok a h.1, flatL_ok b h.2]; rfl
theorem inV_ok {x : L2.V} {d : D} (r : Rep T F ρ x d) (f : flatD d = true) : ∀ {vs : List L2.V} {ds : List D}, RepL T F ρ vs ds → ds.all flatD = true → L2.inV x vs = ds.any fun y => eqF y d
  | _, _, .nil, _ => rfl
  | _, _, .cons a b, h => by
    rw [List.all_cons, Bool.and_eq_true] at h
    unfold L2.inV
    rw [List.any_cons, List.any_cons, eqF_ok a r h.1 f]
    have := inV_ok r f b h.2
    unfold L2.inV at this
    rw [this]
end
/-- x in a list (deep or flat), in a tuple (flat), a sign in a text -/
def inD (s : S) (x y : D) : Option Bool := match y with
  | .str z => (match x with
    | .str [k] => some (decide (k ∈ z))
    | _ => none)
  | .tup ys => if flatD x && ys.all flatD then some (ys.any fun y => eqF y x) else none
  | y => (match asL s y with
    | some ys => if flatD x && ys.all flatD then some (ys.any fun y => eqF y x) else (match toP x, toPL ys with
      | some p, some qs => if SeqAt.shaped p && SeqAt.shaped (.list qs) then some (qs.any fun z => PyData.eqv z p) else none
      | _, _ => none)
    | none => none)
/-! ### the order of ints and texts -/
def ltD (a b : D) : Option Bool := match a, b with
  | .int i, .int j => some (decide (i < j))
  | .str i, .str j => some (ltCps i j)
  | _, _ => none
theorem ltCps_eq : ∀ a b : List Nat, ltCps a b = decide (a < b)
  | [], [] => by simp [ltCps]
  | [], _ :: _ => by simp [ltCps]
  | _ :: _, [] => by simp [ltCps]
  | x :: xs, y :: ys => by
    by_cases e : x = y <;> simp [ltCps, ltCps_eq xs ys, List.cons_lt_cons_iff, e]
def cmpD (op : CmpOp) (a b : D) : M D := fun s => match op with
  | .Eq => mOpt ((eqS s a b).map .bl) s
  | .NotEq => mOpt ((eqS s a b).map fun k => .bl (!k)) s
  | .Lt => mOpt ((ltD a b).map .bl) s
  | .LtE => (match a, b with
    | .int i, .int j => .ok (.bl (decide (i ≤ j))) s
    | _, _ => .bad)
  | .Gt => (match a, b with
    | .int i, .int j => .ok (.bl (decide (j < i))) s
    | _, _ => .bad)
  | .GtE => (match a, b with
    | .int i, .int j => .ok (.bl (decide (j ≤ i))) s
    | _, _ => .bad)
  | .Is => (match a, b with
    | .non, .non => .ok (.bl true) s
    | .own _, .non => .bad
    | .ownI _ _, .non => .bad
    | _, .non => .ok (.bl false) s
    | _, _ => .bad)
  | .IsNot => (match a, b with
    | .non, .non => .ok (.bl false) s
    | .own _, .non => .bad
    | .ownI _ _, .non => .bad
    | _, .non => .ok (.bl true) s
    | _, _ => .bad)
  | .In => mOpt ((inD s a b).map .bl) s
  | .NotIn => mOpt ((inD s a b).map fun k => .bl (!k)) s
theorem Run.bl {c : Cy} {F : L2.Hp} {ρ : List Addr} {s : S} {σ : L2.St} {H : L2.Hp} {Q : L2.VK} {i : Bool} (h : Run c rpD F ρ (.ok (.bl i) s) σ Q) (q : SR c.T c.e F ρ s σ H) : Q (.bl i) H := Run.done h q (Rep.bl i)
section
variable {X : L2.Cx} {c : Cy}
theorem Rep.isNon {T : Tab} {F : L2.Hp} {ρ : List Addr} {v : L2.V} {d : D} (r : Rep T F ρ v d) : decide (v = .non) = (match d with | .non => true | _ => false) := by cases r <;> rfl
theorem opr_eq (hT : c.T.K = X.K) (hu : X.A.units + 64 < cLine) (neg : Bool) : L2.OpR X (compareOp (if neg then .NotEq else .Eq)) (rG2 c (cmpD (if neg then .NotEq else .Eq))) := opr_of fun x y H Q ⟨F, ρ, s, σ, da, db, q, ra, rb, h⟩ => by
  have h : ∃ k, eqS s da db = some k ∧ Run c rpD F ρ (.ok (.bl (if neg then !k else k)) s) σ Q := by
    cases neg
    · obtain ⟨a, e, h⟩ := Run.opt (o := (eqS s da db).map D.bl) h
      obtain ⟨k, e1, rfl⟩ := Option.map_eq_some_iff.mp e
      exact ⟨k, e1, h⟩
    · obtain ⟨a, e, h⟩ := Run.opt (o := (eqS s da db).map fun k => D.bl (!k)) h
      obtain ⟨k, e1, rfl⟩ := Option.map_eq_some_iff.mp e
      exact ⟨k, e1, h⟩
  obtain ⟨k, e, h⟩ := h
  unfold eqS at e
  split at e
  · rename_i r e1
    cases e
    obtain ⟨k1, k2⟩ := scalD_ok ra rb e1
    have h := h.bl q
    cases neg
    · refine ⟨_, L2.op_eq, k1, ?_⟩
      rw [k2]; exact h
    · refine ⟨_, L2.op_ne, k1, ?_⟩
      rw [k2]; exact h
  · unfold eqvD at e
    cases e1 : toP (derS s da) with
    | none => rw [e1] at e; cases e
    | some p =>
      rw [e1] at e
      cases e2 : toP (derS s db) with
      | none => rw [e2] at e; cases e
      | some p2 =>
        rw [e2] at e
        have e : (if SeqAt.shaped p && SeqAt.shaped p2 then some (PyData.eqv p p2) else none) = some k := e
        split at e
        · rename_i g
          rw [Bool.and_eq_true] at g
          cases e
          have d1 := derS_ok q ra e1
          have d2 := derS_ok q rb e2
          rw [hT] at d1 d2
          have h := h.bl q
          cases neg
          · exact ⟨_, L2.op_eqD hu, p, p2, d1, d2, g.1, g.2, h⟩
          · exact ⟨_, L2.op_neD hu, p, p2, d1, d2, g.1, g.2, h⟩
        · cases e
theorem opr_in (hT : c.T.K = X.K) (hu : X.A.units + 65 < cLine) (neg : Bool) : L2.OpR X (compareOp (if neg then .NotIn else .In)) (rG2 c (cmpD (if neg then .NotIn else .In))) := opr_of fun x y H Q ⟨F, ρ, s, σ, da, db, q, ra, rb, h⟩ => by
  have h : ∃ k, inD s da db = some k ∧ Run c rpD F ρ (.ok (.bl (if neg then !k else k)) s) σ Q := by
    cases neg
    · obtain ⟨a, e, h⟩ := Run.opt (o := (inD s da db).map D.bl) h
      obtain ⟨k, e1, rfl⟩ := Option.map_eq_some_iff.mp e
      exact ⟨k, e1, h⟩
    · obtain ⟨a, e, h⟩ := Run.opt (o := (inD s da db).map fun k => D.bl (!k)) h
      obtain ⟨k, e1, rfl⟩ := Option.map_eq_some_iff.mp e
      exact ⟨k, e1, h⟩
  obtain ⟨k, e, h⟩ := h
  have h := h.bl q
  have flat : ∀ {ys : List D} {b : Addr} {vs : List L2.V}, RepL c.T F ρ vs ys → (L2.SqL X.K H b vs ∨ L2.SqT X.K H b vs) → (flatD da && ys.all flatD) = true → k = (ys.any fun y => eqF y da) →
      ∃ r', L2.OpR X (compareOp (if neg then .NotIn else .In)) r' ∧ r' x (.ref b) H Q := by
    intro ys b vs r hb g ek
    rw [Bool.and_eq_true] at g
    have e3 := inV_ok ra g.1 r g.2
    cases neg
    · refine ⟨_, L2.op_in_seq, b, vs, rfl, hb, flatD_ok ra g.1, flatL_ok r g.2, ?_⟩
      rw [e3, ← ek]; exact h
    · refine ⟨_, L2.op_notIn_seq, b, vs, rfl, hb, flatD_ok ra g.1, flatL_ok r g.2, ?_⟩
      rw [e3, ← ek]; exact h
  unfold inD at e
  split at e
  · split at e
    · cases e; cases ra; cases rb
      cases neg
      · exact ⟨_, L2.op_in_sign, _, _, rfl, rfl, h⟩
      · exact ⟨_, L2.op_notIn_sign, _, _, rfl, rfl, h⟩
    · cases e
  · split at e
    · rename_i g
      cases e
      obtain ⟨a, vs, rfl, h1, r1⟩ := q.asT rb
      rw [hT] at h1
      exact flat r1 (.inr h1) g rfl
    · cases e
  · split at e
    · rename_i ys e1
      obtain ⟨a, vs, rfl, h1, r1⟩ := q.asL rb e1
      split at e
      · rename_i g
        cases e
        exact flat r1 (.inl (L2.SqL.of h1)) g rfl
      · split at e
        · rename_i p qs e2 e3
          split at e
          · rename_i g
            rw [Bool.and_eq_true] at g
            cases e
            have d1 := toP_ok q.hr.sub ra e2
            have d2 := toPL_ok q.hr.sub r1 e3
            rw [hT] at d1 d2
            cases neg
            · exact ⟨_, L2.op_inD hu, p, qs, d1, .lst (L2.SqL.of h1) d2, g.1, g.2, h⟩
            · exact ⟨_, L2.op_notInD hu, p, qs, d1, .lst (L2.SqL.of h1) d2, g.1, g.2, h⟩
          · cases e
        · cases e
    · cases e
theorem opr_cmp (op : CmpOp) (hT : c.T.K = X.K) (hu : X.A.units + 65 < cLine) : L2.OpR X (compareOp op) (rG2 c (cmpD op)) := by
  cases op with
  | Eq => exact opr_eq hT (by omega) false
  | NotEq => exact opr_eq hT (by omega) true
  | In => exact opr_in hT hu false
  | NotIn => exact opr_in hT hu true
  | Lt =>
    refine opr_of fun x y H Q ⟨F, ρ, s, σ, da, db, q, ra, rb, h⟩ => ?_
    obtain ⟨a, e, h⟩ := Run.opt (o := (ltD da db).map D.bl) h
    obtain ⟨k, e1, rfl⟩ := Option.map_eq_some_iff.mp e
    have h := h.bl q
    unfold ltD at e1
    split at e1
    · cases e1; cases ra; cases rb
      exact ⟨_, L2.op_lt, _, _, rfl, rfl, h⟩
    · cases e1; cases ra; cases rb
      rw [ltCps_eq] at h
      exact ⟨_, L2.op_lt_str, _, _, rfl, rfl, h⟩
    · cases e1
  | LtE =>
    refine opr_of fun x y H Q ⟨F, ρ, s, σ, da, db, q, ra, rb, h⟩ => ?_
    simp only [cmpD] at h
    split at h
    · cases ra; cases rb
      exact ⟨_, L2.op_le, _, _, rfl, rfl, Run.bl h q⟩
    · exact h.elim
  | Gt =>
    refine opr_of fun x y H Q ⟨F, ρ, s, σ, da, db, q, ra, rb, h⟩ => ?_
    simp only [cmpD] at h
    split at h
    · cases ra; cases rb
      exact ⟨_, L2.op_gt, _, _, rfl, rfl, Run.bl h q⟩
    · exact h.elim
  | GtE =>
    refine opr_of fun x y H Q ⟨F, ρ, s, σ, da, db, q, ra, rb, h⟩ => ?_
    simp only [cmpD] at h
    split at h
    · cases ra; cases rb
      exact ⟨_, L2.op_ge, _, _, rfl, rfl, Run.bl h q⟩
    · exact h.elim
  | Is =>
    refine opr_of fun x y H Q ⟨F, ρ, s, σ, da, db, q, ra, rb, h⟩ => ?_
    simp only [cmpD] at h
    refine ⟨_, L2.op_isN, ?_⟩
    split at h <;> first | exact h.elim | skip
    · cases rb
      refine ⟨rfl, ?_⟩
      rw [ra.isNon]; exact Run.bl h q
    · rename_i hn _ _
      cases rb
      refine ⟨rfl, ?_⟩
      rw [ra.isNon]
      cases da <;> first | exact Run.bl h q | exact absurd rfl hn
  | IsNot =>
    refine opr_of fun x y H Q ⟨F, ρ, s, σ, da, db, q, ra, rb, h⟩ => ?_
    simp only [cmpD] at h
    refine ⟨_, L2.op_notN, ?_⟩
    split at h <;> first | exact h.elim | skip
    · cases rb
      refine ⟨rfl, ?_⟩
      rw [ra.isNon]; exact Run.bl h q
    · rename_i hn _ _
      cases rb
      refine ⟨rfl, ?_⟩
      rw [ra.isNon]
      cases da <;> first | exact Run.bl h q | exact absurd rfl hn
end
/-! ### truth -/
def truD (d : D) : M Bool := fun s => match d with
  | .non => .ok false s
  | .bl b => .ok b s
  | .int i => .ok (i != 0) s
  | .str x => if x.length ≤ sizeLine then .ok ((x.length : Int) != 0) s else .bad
  | .tup xs => .ok (!xs.isEmpty) s
  | .lst xs => .ok (!xs.isEmpty) s
  | .ob n => mOpt ((s.lc n).map fun xs => !xs.isEmpty) s
  | _ => .bad
theorem RepL.isEmpty {T : Tab} {F : L2.Hp} {ρ : List Addr} {vs : List L2.V} {ds : List D} (r : RepL T F ρ vs ds) : vs.isEmpty = ds.isEmpty := by cases r <;> rfl
theorem truD_ok {K : PySem.W.Frag} {c : Cy} {F : L2.Hp} {ρ : List Addr} {s : S} {σ : L2.St} {H : L2.Hp} {v : L2.V} {d : D} {Q : Bool → L2.Hp → Prop} (hT : c.T.K = K) (q : SR c.T c.e F ρ s σ H) (r : Rep c.T F ρ v d) (h : Run c rpB F ρ (truD d s) σ Q) : ∃ k, L2.TruV K v H k ∧ Q k H := by
  subst hT
  unfold truD at h
  cases r with
  | non => exact ⟨false, rfl, Run.done h q rfl⟩
  | bl b => exact ⟨b, rfl, Run.done h q rfl⟩
  | int i => exact ⟨_, rfl, Run.done h q rfl⟩
  | str x =>
    simp only at h
    split at h
    · rename_i g
      exact ⟨_, ⟨by rw [stS_len]; exact g, by rw [stS_len]⟩, Run.done h q rfl⟩
    · exact h.elim
  | tup h1 h2 => exact ⟨_, .inr (.inl ⟨_, q.hr.sub.sqT h1.sq, rfl⟩), by rw [h2.isEmpty]; exact Run.done h q rfl⟩
  | lst h1 h2 => exact ⟨_, .inl ⟨_, L2.SqL.of (q.hr.sub _ _ h1), rfl⟩, by rw [h2.isEmpty]; exact Run.done h q rfl⟩
  | ob h1 =>
    obtain ⟨k, e, h⟩ := Run.opt h
    obtain ⟨xs, e1, rfl⟩ := Option.map_eq_some_iff.mp e
    obtain ⟨vs, k1, k2⟩ := q.hr.lc h1 e1
    exact ⟨_, .inl ⟨_, L2.SqL.of k1, rfl⟩, by rw [k2.isEmpty]; exact Run.done h q rfl⟩
  | scr _ => exact h.elim
  | ty _ => exact h.elim
  | cls => exact h.elim
  | ins _ _ _ => exact h.elim
/-! ### subscripts -/
/-- the place of an index -/
def idxD (a i : D) : M D := fun s => match i with
  | .int k => (match a with
    | .str z => if z.length ≤ sizeLine then mOpt ((L2.atI z k).map fun c => .str [c]) s else .bad
    | .tup xs => mOpt (L2.atI xs k) s
    | .lst xs => mOpt (L2.atI xs k) s
    | .own xs => mOpt (L2.atI xs k) s
    | .ob n => mOpt ((s.lc n).bind fun xs => L2.atI xs k) s
    | _ => .bad)
  | _ => .bad
theorem atI_rep {T : Tab} {F : L2.Hp} {ρ : List Addr} {vs : List L2.V} {ds : List D} (r : RepL T F ρ vs ds) {i : Int} {d : D} (h : L2.atI ds i = some d) : ∃ v, L2.atI vs i = some v ∧ Rep T F ρ v d := by
  unfold L2.atI at h ⊢
  rw [r.length]
  obtain ⟨j, h1, h2⟩ := Option.bind_eq_some_iff.mp h
  obtain ⟨v, k1, k2⟩ := r.get h2
  exact ⟨v, Option.bind_eq_some_iff.mpr ⟨j, h1, k1⟩, k2⟩
theorem ixr_of {X : L2.Cx} {r : L2.R2} (h : ∀ x y H Q, r x y H Q → ∃ r', L2.IxR X r' ∧ r' x y H Q) : L2.IxR X r := fun va sl pins s σ H x y v u Q I rx ry q hs => by
  obtain ⟨r', h1, h2⟩ := h x y H Q q
  exact h1 va sl pins s σ H x y v u Q I rx ry h2 hs
theorem ixr_idx {X : L2.Cx} {c : Cy} (hT : c.T.K = X.K) : L2.IxR X (rG2 c idxD) := ixr_of fun x y H Q ⟨F, ρ, s, σ, da, db, q, ra, rb, h⟩ => by
  unfold idxD at h
  cases rb with
  | int k =>
    simp only at h
    cases ra with
    | str z =>
      simp only at h
      split at h
      · rename_i g
        obtain ⟨d, e, h⟩ := Run.opt h
        obtain ⟨ch, e1, rfl⟩ := Option.map_eq_some_iff.mp e
        exact ⟨_, L2.ix_str, stS z, k, ch, rfl, rfl, by rw [stS_len]; exact g, e1, Run.done h q (Rep.str [ch])⟩
      · exact h.elim
    | tup h1 h2 =>
      obtain ⟨d, e, h⟩ := Run.opt h
      obtain ⟨v, e1, r1⟩ := atI_rep h2 e
      rw [hT] at h1
      exact ⟨_, L2.ix_tup, _, _, k, v, rfl, rfl, q.hr.sub.sqT h1.sq, e1, Run.done h q r1⟩
    | lst h1 h2 =>
      obtain ⟨d, e, h⟩ := Run.opt h
      obtain ⟨v, e1, r1⟩ := atI_rep h2 e
      exact ⟨_, L2.ix_list, _, _, k, v, rfl, rfl, L2.SqL.of (q.hr.sub _ _ h1), e1, Run.done h q r1⟩
    | ob h1 =>
      obtain ⟨d, e, h⟩ := Run.opt h
      obtain ⟨xs, e0, e⟩ := Option.bind_eq_some_iff.mp e
      obtain ⟨vs, k1, k2⟩ := q.hr.lc h1 e0
      obtain ⟨v, e1, r1⟩ := atI_rep k2 e
      exact ⟨_, L2.ix_list, _, _, k, v, rfl, rfl, L2.SqL.of k1, e1, Run.done h q r1⟩
    | _ => exact h.elim
  | _ => exact h.elim
end U

/-! U5: built-in calls. -/
namespace U
open PySem PySem.Spec PyProof.Rows

/-! ### sorting -/
def insI (x : Int) : List Int → List Int
  | [] => [x]
  | y :: r => if x ≤ y then x :: y :: r else y :: insI x r
def sortI (l : List Int) : List Int := l.foldr insI []
theorem insI_perm (x : Int) : ∀ l, (insI x l).Perm (x :: l)
  | [] => List.Perm.refl _
  | y :: r => by
    unfold insI
    split
    · exact List.Perm.refl _
    · exact ((insI_perm x r).cons y).trans (List.Perm.swap x y r)
theorem sortI_perm : ∀ l, (sortI l).Perm l
  | [] => List.Perm.refl _
  | x :: r => (insI_perm x (sortI r)).trans ((sortI_perm r).cons x)
theorem insI_sorted (x : Int) : ∀ l : List Int, l.Pairwise (· ≤ ·) → (insI x l).Pairwise (· ≤ ·)
  | [], _ => List.pairwise_singleton _ _
  | y :: r, h => by
    unfold insI
    rw [List.pairwise_cons] at h
    split
    · rename_i hxy
      refine List.pairwise_cons.mpr ⟨fun z hz => ?_, List.pairwise_cons.mpr h⟩
      rcases List.mem_cons.mp hz with rfl | hz
      · exact hxy
      · exact Int.le_trans hxy (h.1 z hz)
    · rename_i hxy
      refine List.pairwise_cons.mpr ⟨fun z hz => ?_, insI_sorted x r h.2⟩
      rcases List.mem_cons.mp ((insI_perm x r).mem_iff.mp hz) with rfl | hz
      · omega
      · exact h.1 z hz
theorem sortI_sorted : ∀ l : List Int, (sortI l).Pairwise (· ≤ ·)
  | [] => .nil
  | x :: r => insI_sorted x _ (sortI_sorted r)
theorem sortI_only {l m : List Int} (p : m.Perm l) (h : m.Pairwise (· ≤ ·)) : m = sortI l :=
  List.Perm.eq_of_pairwise (fun _ _ _ _ a b => Int.le_antisymm a b) h (sortI_sorted l) (p.trans (sortI_perm l).symm)
/-- texts -/
def insS (x : List Nat) : List (List Nat) → List (List Nat)
  | [] => [x]
  | y :: r => if ltCps y x then y :: insS x r else x :: y :: r
def sortS (l : List (List Nat)) : List (List Nat) := l.foldr insS []
def leS (a b : List Nat) : Prop := ltCps b a = false
theorem leS_iff {a b : List Nat} : leS a b ↔ a ≤ b := by
  unfold leS
  rw [ltCps_eq, decide_eq_false_iff_not]
  exact List.not_lt
theorem leS_trans {a b c : List Nat} (h : leS a b) (k : leS b c) : leS a c := leS_iff.mpr (List.le_trans (leS_iff.mp h) (leS_iff.mp k))
theorem insS_perm (x : List Nat) : ∀ l, (insS x l).Perm (x :: l)
  | [] => List.Perm.refl _
  | y :: r => by
    unfold insS
    split
    · exact ((insS_perm x r).cons y).trans (List.Perm.swap x y r)
    · exact List.Perm.refl _
theorem sortS_perm : ∀ l, (sortS l).Perm l
  | [] => List.Perm.refl _
  | x :: r => (insS_perm x (sortS r)).trans ((sortS_perm r).cons x)
theorem insS_sorted (x : List Nat) : ∀ l : List (List Nat), l.Pairwise leS → (insS x l).Pairwise leS
  | [], _ => List.pairwise_singleton _ _
  | y :: r, h => by
    unfold insS
    rw [List.pairwise_cons] at h
    split
    · rename_i hxy
      have hxy' : leS y x := by
        rw [leS_iff]
        rw [ltCps_eq, decide_eq_true_eq] at hxy
        exact List.le_of_lt hxy
      refine List.pairwise_cons.mpr ⟨fun z hz => ?_, insS_sorted x r h.2⟩
      rcases List.mem_cons.mp ((insS_perm x r).mem_iff.mp hz) with rfl | hz
      · exact hxy'
      · exact h.1 z hz
    · rename_i hxy
      have hxy' : leS x y := by
        unfold leS
        exact Bool.eq_false_iff.mpr hxy
      refine List.pairwise_cons.mpr ⟨fun z hz => ?_, List.pairwise_cons.mpr h⟩
      rcases List.mem_cons.mp hz with rfl | hz
      · exact hxy'
      · exact leS_trans hxy' (h.1 z hz)
theorem sortS_sorted : ∀ l : List (List Nat), (sortS l).Pairwise leS
  | [] => .nil
  | x :: r => insS_sorted x _ (sortS_sorted r)
theorem sortS_only {l m : List (List Nat)} (p : m.Perm l) (h : m.Pairwise leS) : m = sortS l :=
  List.Perm.eq_of_pairwise (fun _ _ _ _ a b => List.le_antisymm (leS_iff.mp a) (leS_iff.mp b)) h (sortS_sorted l) (p.trans (sortS_perm l).symm)
theorem risingS_pw : ∀ {l : List Str} {p : Str}, risingS p l = true → (p :: l).Pairwise (fun a b => leS a.cps.toList b.cps.toList)
  | [], p, _ => List.pairwise_singleton _ _
  | x :: r, p, h => by
    have h : (!ltCps x.cps.toList p.cps.toList && risingS x r) = true := h
    rw [Bool.and_eq_true, Bool.not_eq_true'] at h
    have ih := risingS_pw h.2
    refine List.pairwise_cons.mpr ⟨fun z hz => ?_, ih⟩
    rcases List.mem_cons.mp hz with rfl | hz
    · exact h.1
    · exact leS_trans h.1 ((List.pairwise_cons.mp ih).1 z hz)
theorem sortedS_pw {l : List Str} (h : sortedS l = true) : l.Pairwise (fun a b => leS a.cps.toList b.cps.toList) := by
  cases l with
  | nil => exact .nil
  | cons x r => exact risingS_pw h
theorem map_cps (l : List (List Nat)) : (l.map stS).map (fun s => s.cps.toList) = l := by
  rw [List.map_map]
  exact (List.map_congr_left fun a _ => rfl).trans (List.map_id l)
theorem strs_back {l : List Str} : l = (l.map fun s => s.cps.toList).map stS := by
  rw [List.map_map]
  exact ((List.map_congr_left fun a _ => by obtain ⟨x⟩ := a; simp [stS]).trans (List.map_id l)).symm

/-! ### lists of one kind -/
def asInts : List D → Option (List Int)
  | [] => some []
  | .int i :: r => (asInts r).map (i :: ·)
  | _ :: _ => none
def asStrs : List D → Option (List (List Nat))
  | [] => some []
  | .str i :: r => (asStrs r).map (i :: ·)
  | _ :: _ => none
def asBls : List D → Option (List Bool)
  | [] => some []
  | .bl i :: r => (asBls r).map (i :: ·)
  | _ :: _ => none
theorem asInts_ok : ∀ {ds : List D} {ns : List Int}, asInts ds = some ns → ds = ns.map .int
  | [], _, h => by cases h; rfl
  | .int i :: r, ns, h => by
    obtain ⟨ms, h1, rfl⟩ := Option.map_eq_some_iff.mp (show (asInts r).map (i :: ·) = some ns from h)
    rw [asInts_ok h1]; rfl
theorem asStrs_ok : ∀ {ds : List D} {ns : List (List Nat)}, asStrs ds = some ns → ds = ns.map .str
  | [], _, h => by cases h; rfl
  | .str i :: r, ns, h => by
    obtain ⟨ms, h1, rfl⟩ := Option.map_eq_some_iff.mp (show (asStrs r).map (i :: ·) = some ns from h)
    rw [asStrs_ok h1]; rfl
theorem asBls_ok : ∀ {ds : List D} {ns : List Bool}, asBls ds = some ns → ds = ns.map .bl
  | [], _, h => by cases h; rfl
  | .bl i :: r, ns, h => by
    obtain ⟨ms, h1, rfl⟩ := Option.map_eq_some_iff.mp (show (asBls r).map (i :: ·) = some ns from h)
    rw [asBls_ok h1]; rfl
theorem asInts_map : ∀ ns : List Int, asInts (ns.map .int) = some ns
  | [] => rfl
  | n :: r => by show (asInts (r.map .int)).map (n :: ·) = _; rw [asInts_map r]; rfl
theorem asStrs_map : ∀ ns : List (List Nat), asStrs (ns.map .str) = some ns
  | [] => rfl
  | n :: r => by show (asStrs (r.map .str)).map (n :: ·) = _; rw [asStrs_map r]; rfl
theorem asBls_map : ∀ ns : List Bool, asBls (ns.map .bl) = some ns
  | [] => rfl
  | n :: r => by show (asBls (r.map .bl)).map (n :: ·) = _; rw [asBls_map r]; rfl
/-! ### least, greatest -/
def minI : List Int → Int
  | [] => 0
  | x :: r => r.foldl (fun a b => if b < a then b else a) x
def maxI : List Int → Int
  | [] => 0
  | x :: r => r.foldl (fun a b => if b > a then b else a) x
theorem minI_go : ∀ (r : List Int) (x m : Int), m = r.foldl (fun a b => if b < a then b else a) x → (m = x ∨ m ∈ r) ∧ m ≤ x ∧ ∀ y ∈ r, m ≤ y
  | [], x, m, h => ⟨.inl h, Int.le_of_eq h, fun _ h => nomatch h⟩
  | y :: r, x, m, h => by
    obtain ⟨h1, h2, h3⟩ := minI_go r (if y < x then y else x) m h
    refine ⟨?_, ?_, fun z hz => ?_⟩
    · rcases h1 with h1 | h1
      · split at h1
        · exact .inr (h1 ▸ List.mem_cons_self)
        · exact .inl h1
      · exact .inr (List.mem_cons_of_mem _ h1)
    · split at h2 <;> omega
    · rcases List.mem_cons.mp hz with rfl | hz
      · split at h2 <;> omega
      · exact h3 z hz
theorem maxI_go : ∀ (r : List Int) (x m : Int), m = r.foldl (fun a b => if b > a then b else a) x → (m = x ∨ m ∈ r) ∧ x ≤ m ∧ ∀ y ∈ r, y ≤ m
  | [], x, m, h => ⟨.inl h, Int.le_of_eq h.symm, fun _ h => nomatch h⟩
  | y :: r, x, m, h => by
    obtain ⟨h1, h2, h3⟩ := maxI_go r (if y > x then y else x) m h
    refine ⟨?_, ?_, fun z hz => ?_⟩
    · rcases h1 with h1 | h1
      · split at h1
        · exact .inr (h1 ▸ List.mem_cons_self)
        · exact .inl h1
      · exact .inr (List.mem_cons_of_mem _ h1)
    · split at h2 <;> omega
    · rcases List.mem_cons.mp hz with rfl | hz
      · split at h2 <;> omega
      · exact h3 z hz
theorem minI_mem {ns : List Int} (h : ns ≠ []) : minI ns ∈ ns ∧ ∀ y ∈ ns, minI ns ≤ y := by
  cases ns with
  | nil => exact absurd rfl h
  | cons x r =>
    obtain ⟨h1, h2, h3⟩ := minI_go r x (minI (x :: r)) rfl
    refine ⟨?_, fun y hy => ?_⟩
    · rcases h1 with h1 | h1
      · rw [h1]; exact List.mem_cons_self
      · exact List.mem_cons_of_mem _ h1
    · rcases List.mem_cons.mp hy with rfl | hy
      · exact h2
      · exact h3 y hy
theorem maxI_mem {ns : List Int} (h : ns ≠ []) : maxI ns ∈ ns ∧ ∀ y ∈ ns, y ≤ maxI ns := by
  cases ns with
  | nil => exact absurd rfl h
  | cons x r =>
    obtain ⟨h1, h2, h3⟩ := maxI_go r x (maxI (x :: r)) rfl
    refine ⟨?_, fun y hy => ?_⟩
    · rcases h1 with h1 | h1
      · rw [h1]; exact List.mem_cons_self
      · exact List.mem_cons_of_mem _ h1
    · rcases List.mem_cons.mp hy with rfl | hy
      · exact h2
      · exact h3 y hy

end U

/-! U5: built-in calls. -/
namespace U
open PySem PySem.Spec PyProof.Rows

/-! ### the calls -/
abbrev RC := List L2.V → L2.Hp → L2.VK → Prop
def rGC (c : Cy) (g : List D → M D) : RC := fun xs H Q => ∃ F ρ s σ ds, SR c.T c.e F ρ s σ H ∧ RepL c.T F ρ xs ds ∧ Run c rpD F ρ (g ds s) σ Q
theorem callr_of {X : L2.Cx} {f : Value} {r : RC} (h : ∀ xs H Q, r xs H Q → ∃ r', L2.CallR X f r' ∧ r' xs H Q) : L2.CallR X f r := fun pins s σ H xs us Q I rx q => by
  obtain ⟨r', h1, h2⟩ := h xs H Q q
  exact h1 pins s σ H xs us Q I rx h2
/-- a list of ints | texts | truths, as a list or a cell -/
def lenD (ds : List D) : M D := fun s => match ds with
  | [.str x] => if x.length ≤ sizeLine then .ok (.int x.length) s else .bad
  | [.lst xs] => .ok (.int xs.length) s
  | [.own xs] => .ok (.int xs.length) s
  | [.tup xs] => .ok (.int xs.length) s
  | [.scr xs] => .ok (.int xs.length) s
  | [.ob n] => mOpt ((s.lc n).map fun xs => .int xs.length) s
  | _ => .bad
def listD (ds : List D) : M D := fun s => match ds with
  | [.lst xs] => .ok (.lst xs) s
  | [.tup xs] => .ok (.lst xs) s
  | [.scr xs] => .ok (.lst (xs.map .int)) s
  | [.ob n] => mOpt ((s.lc n).map .lst) s
  | _ => .bad
def tupleD (ds : List D) : M D := fun s => match ds with
  | [.lst xs] => .ok (.tup xs) s
  | [.tup xs] => .ok (.tup xs) s
  | [.ob n] => mOpt ((s.lc n).map .tup) s
  | _ => .bad
def onInts (f : List Int → Option D) (ds : List D) : M D := fun s => match ds with
  | [d] => mOpt ((asL s d).bind fun xs => (asInts xs).bind f) s
  | _ => .bad
def sumD : List D → M D := onInts fun ns => some (.int ns.sum)
def sortedD (ds : List D) : M D := fun s => match ds with
  | [d] => (match asL s d with
    | some xs => (match asInts xs with
      | some ns => .ok (.lst ((sortI ns).map .int)) s
      | none => (match asStrs xs with
        | some ns => if ns.length < 64 then .ok (.lst ((sortS ns).map .str)) s else .bad
        | none => .bad))
    | none => .bad)
  | _ => .bad
def minD (ds : List D) : M D := fun s => match ds with
  | [.int i, .int j] => .ok (.int (if j < i then j else i)) s
  | [d] => mOpt ((asL s d).bind fun xs => (asInts xs).bind fun ns => if ns.isEmpty then none else some (.int (minI ns))) s
  | _ => .bad
def maxD (ds : List D) : M D := fun s => match ds with
  | [.int i, .int j] => .ok (.int (if j > i then j else i)) s
  | [d] => mOpt ((asL s d).bind fun xs => (asInts xs).bind fun ns => if ns.isEmpty then none else some (.int (maxI ns))) s
  | _ => .bad
def onBls (f : List Bool → Bool) (ds : List D) : M D := fun s => match ds with
  | [d] => mOpt ((asL s d).bind fun xs => (asBls xs).map fun bs => .bl (f bs)) s
  | _ => .bad
def intD (ds : List D) : M D := fun s => match ds with
  | [.int i] => .ok (.int i) s
  | [.bl b] => .ok (.int (if b then 1 else 0)) s
  | [.str x] => if x.length ≤ 640 then mOpt ((PySem.intText? (stS x)).map .int) s else .bad
  | _ => .bad
def boolD (ds : List D) : M D := fun s => match ds with
  | [.int i] => .ok (.bl (i != 0)) s
  | [.bl b] => .ok (.bl b) s
  | [.lst xs] => .ok (.bl (!xs.isEmpty)) s
  | _ => .bad
def strOfInt (i : Int) : List Nat := ((toString i : String) : Str).cps.toList
def strD (ds : List D) : M D := fun s => match ds with
  | [.int i] => if i.natAbs.log2 < 1920 then .ok (.str (strOfInt i)) s else .bad
  | [.str z] => .ok (.str z) s
  | _ => .bad
theorem strOfInt_eq (i : Int) : ((toString i : String) : Str) = stS (strOfInt i) := by
  unfold strOfInt stS
  simp
/-- the kinds of data, by name -/
def kindD : D → Option String
  | .non => some "NoneType"
  | .bl _ => some "bool"
  | .int _ => some "int"
  | .str _ => some "str"
  | .lst _ => some "list"
  | .tup _ => some "tuple"
  | _ => none
def kindS (s : S) (d : D) : Option String := match d with
  | .ob n => (s.lc n).map fun _ => "list"
  | d => kindD d
def kinds : List String := ["NoneType", "bool", "int", "str", "list", "tuple"]
/-- a value of the kind a is one of the class b -/
def isKind (a b : String) : Bool := a == b || (a == "bool" && b == "int")
def tyName : D → Option String
  | .ty n => if n = "int" ∨ n = "bool" ∨ n = "str" ∨ n = "list" ∨ n = "tuple" then some n else none
  | _ => none
def tyNames : List D → Option (List String)
  | [] => some []
  | d :: r => match tyName d, tyNames r with
    | some n, some ns => some (n :: ns)
    | _, _ => none
def isiD (ds : List D) : M D := fun s => match ds with
  | [d, .tup ts] => mOpt ((kindS s d).bind fun k => (tyNames ts).map fun ns => .bl (ns.any (isKind k))) s
  | [d, t] => mOpt ((kindS s d).bind fun k => (tyName t).map fun n => .bl (isKind k n)) s
  | _ => .bad
theorem isKind_all : (kinds.all fun a => ["int", "bool", "str", "list", "tuple"].all fun b => decide (L2.kitB a b = some (isKind a b))) = true := by decide +kernel
theorem isKind_ok {a b : String} (ha : a ∈ kinds) (hb : b ∈ ["int", "bool", "str", "list", "tuple"]) : L2.kitB a b = some (isKind a b) :=
  of_decide_eq_true (List.all_eq_true.mp (List.all_eq_true.mp isKind_all a ha) b hb)
theorem tyName_mem {d : D} {n : String} (h : tyName d = some n) : d = .ty n ∧ n ∈ ["int", "bool", "str", "list", "tuple"] := by
  unfold tyName at h
  split at h
  · split at h
    · rename_i g
      cases h
      refine ⟨rfl, ?_⟩
      rcases g with g | g | g | g | g <;> subst g <;> simp
    · cases h
  · cases h
theorem kindD_mem {d : D} {n : String} (h : kindD d = some n) : n ∈ kinds := by
  unfold kindD at h
  split at h <;> (first | (cases h; done) | (cases h; decide))
section
variable {X : L2.Cx} {c : Cy} {F : L2.Hp} {ρ : List Addr} {s : S} {σ : L2.St} {H : L2.Hp}
theorem kindS_ty {v : L2.V} {d : D} {n : String} (hT : c.T.K = X.K) (q : SR c.T c.e F ρ s σ H) (r : Rep c.T F ρ v d) (h : kindS s d = some n) : L2.TyX X.K H v (.type n) := by
  cases r with
  | non => cases h; exact .base .non
  | bl b => cases h; exact .base (.bl b)
  | int i => cases h; exact .base (.int i)
  | str i => cases h; exact .base (.str _)
  | lst h1 h2 => cases h; exact .base (.lst (q.hr.sub _ _ h1))
  | tup h1 h2 =>
    cases h
    rcases h1 with h1 | ⟨o, its, n, h1, h3, _⟩
    · exact .base (.tup (q.hr.sub _ _ h1))
    · rw [hT] at h1
      exact .kTuple h1 h3
  | ob h1 =>
    obtain ⟨xs, e, rfl⟩ := Option.map_eq_some_iff.mp h
    obtain ⟨vs, k, _⟩ := q.hr.lc h1 e
    exact .base (.lst k)
  | _ => cases h
theorem kindS_mem {s : S} {d : D} {n : String} (h : kindS s d = some n) : n ∈ kinds := by
  cases d with
  | ob m =>
    obtain ⟨xs, e, rfl⟩ := Option.map_eq_some_iff.mp h
    decide
  | non => exact kindD_mem (d := .non) h
  | bl b => exact kindD_mem (d := .bl b) h
  | int b => exact kindD_mem (d := .int b) h
  | str b => exact kindD_mem (d := .str b) h
  | lst b => exact kindD_mem (d := .lst b) h
  | tup b => exact kindD_mem (d := .tup b) h
  | _ => cases h
theorem tyNames_ok : ∀ {ts : List D} {vs : List L2.V} {ns : List String}, RepL c.T F ρ vs ts → tyNames ts = some ns → vs = ns.map L2.V.ty ∧ ∀ n ∈ ns, n ∈ ["int", "bool", "str", "list", "tuple"]
  | _, _, _, .nil, h => by cases h; exact ⟨rfl, fun _ z => nomatch z⟩
  | _, _, _, .cons (d := d) (ds := r) a b, h => by
    unfold tyNames at h
    split at h
    · rename_i n ns e1 e2
      cases h
      obtain ⟨rfl, k1⟩ := tyName_mem e1
      obtain ⟨rfl, k2⟩ := tyNames_ok b e2
      cases a
      refine ⟨rfl, fun m hm => ?_⟩
      rcases List.mem_cons.mp hm with rfl | hm
      · exact k1
      · exact k2 m hm
    · cases h
theorem clsV_tys : ∀ ns : List String, PySem.Paired L2.ClsV (ns.map L2.V.ty) (ns.map Value.type)
  | [] => .nil
  | n :: r => .cons (.ty n) (clsV_tys r)
theorem kitAny_tys {k : String} (hk : k ∈ kinds) : ∀ {ns : List String}, (∀ n ∈ ns, n ∈ ["int", "bool", "str", "list", "tuple"]) → PySem.W.kitAny X.K (.type k) (ns.map Value.type) = some (ns.any (isKind k))
  | [], _ => rfl
  | n :: r, h => by
    have e := isKind_ok hk (h n List.mem_cons_self)
    have ih := kitAny_tys hk (ns := r) fun m hm => h m (List.mem_cons_of_mem _ hm)
    refine L2.kitAny_cons (L2.kit_ty e) (fun hb => ?_) fun hb => ?_
    · rw [ih, List.any_cons, hb, Bool.false_or]
    · rw [List.any_cons, hb, Bool.true_or]
end
section
variable {X : L2.Cx} {c : Cy}
theorem RepL.one {T : Tab} {F : L2.Hp} {ρ : List Addr} {xs : List L2.V} {d : D} (h : RepL T F ρ xs [d]) : ∃ v, xs = [v] ∧ Rep T F ρ v d := by
  cases h with
  | cons a b => cases b; exact ⟨_, rfl, a⟩
theorem RepL.two {T : Tab} {F : L2.Hp} {ρ : List Addr} {xs : List L2.V} {d e : D} (h : RepL T F ρ xs [d, e]) : ∃ v w, xs = [v, w] ∧ Rep T F ρ v d ∧ Rep T F ρ w e := by
  cases h with
  | cons a b =>
    obtain ⟨w, rfl, h⟩ := b.one
    exact ⟨_, w, rfl, a, h⟩
theorem c_len (hT : c.T.K = X.K) : L2.CallR X (.builtin "len") (rGC c lenD) := callr_of fun xs H Q ⟨F, ρ, s, σ, ds, q, rs, h⟩ => by
  unfold lenD at h
  split at h
  · obtain ⟨v, rfl, r⟩ := rs.one; cases r
    split at h
    · rename_i g
      exact ⟨_, L2.call_len_str, _, rfl, by rw [stS_len]; exact g, by rw [stS_len]; exact Run.int h q⟩
    · exact h.elim
  · obtain ⟨v, rfl, r⟩ := rs.one
    obtain ⟨a, vs, rfl, h1, r1⟩ := q.asL r rfl
    exact ⟨_, L2.call_len_seq, _, _, rfl, .inl (L2.SqL.of h1), by rw [r1.length]; exact Run.int h q⟩
  · obtain ⟨v, rfl, r⟩ := rs.one; cases r
  · obtain ⟨v, rfl, r⟩ := rs.one
    obtain ⟨a, vs, rfl, h1, r1⟩ := q.asT r
    rw [hT] at h1
    exact ⟨_, L2.call_len_seq, _, _, rfl, .inr h1, by rw [r1.length]; exact Run.int h q⟩
  · obtain ⟨v, rfl, r⟩ := rs.one; cases r
    rename_i ns a h1
    have h1 := q.hr.sub.sqL h1
    rw [hT] at h1
    refine ⟨_, L2.call_len_seq, _, _, rfl, .inl h1, ?_⟩
    rw [List.length_map]
    exact Run.int h q
  · obtain ⟨v, rfl, r⟩ := rs.one
    obtain ⟨d, e, h⟩ := Run.opt h
    obtain ⟨xs, e1, rfl⟩ := Option.map_eq_some_iff.mp e
    obtain ⟨a, vs, rfl, h1, r1⟩ := q.asL r e1
    exact ⟨_, L2.call_len_seq, _, _, rfl, .inl (L2.SqL.of h1), by rw [r1.length]; exact Run.int h q⟩
  · exact h.elim
theorem c_list (hT : c.T.K = X.K) : L2.CallR X (.type "list") (rGC c listD) := callr_of fun xs H Q ⟨F, ρ, s, σ, ds, q, rs, h⟩ => by
  unfold listD at h
  split at h
  · obtain ⟨v, rfl, r⟩ := rs.one
    obtain ⟨a, vs, rfl, h1, r1⟩ := q.asL r rfl
    exact ⟨_, L2.call_list_of, _, _, rfl, .inl (L2.SqL.of h1), fun p hp => Run.newL h q r1 hp⟩
  · obtain ⟨v, rfl, r⟩ := rs.one
    obtain ⟨a, vs, rfl, h1, r1⟩ := q.asT r
    rw [hT] at h1
    exact ⟨_, L2.call_list_of, _, _, rfl, .inr h1, fun p hp => Run.newL h q r1 hp⟩
  · obtain ⟨v, rfl, r⟩ := rs.one; cases r
    rename_i ns a h1
    have h1 := q.hr.sub.sqL h1
    rw [hT] at h1
    exact ⟨_, L2.call_list_of, _, _, rfl, .inl h1, fun p hp => Run.newL h q RepL.ints hp⟩
  · obtain ⟨v, rfl, r⟩ := rs.one
    obtain ⟨d, e, h⟩ := Run.opt h
    obtain ⟨xs, e1, rfl⟩ := Option.map_eq_some_iff.mp e
    obtain ⟨a, vs, rfl, h1, r1⟩ := q.asL r e1
    exact ⟨_, L2.call_list_of, _, _, rfl, .inl (L2.SqL.of h1), fun p hp => Run.newL h q r1 hp⟩
  · exact h.elim
theorem c_tuple (hT : c.T.K = X.K) : L2.CallR X (.type "tuple") (rGC c tupleD) := callr_of fun xs H Q ⟨F, ρ, s, σ, ds, q, rs, h⟩ => by
  unfold tupleD at h
  split at h
  · obtain ⟨v, rfl, r⟩ := rs.one
    obtain ⟨a, vs, rfl, h1, r1⟩ := q.asL r rfl
    exact ⟨_, L2.call_tuple_of, _, _, rfl, .inl ⟨L2.SqL.of h1, fun p hp => Run.newT h q r1 hp⟩⟩
  · obtain ⟨v, rfl, r⟩ := rs.one
    obtain ⟨a, vs, rfl, h1, r1⟩ := q.asT r
    rw [hT] at h1
    exact ⟨_, L2.call_tuple_of, _, _, rfl, .inr ⟨h1, Run.done h q r⟩⟩
  · obtain ⟨v, rfl, r⟩ := rs.one
    obtain ⟨d, e, h⟩ := Run.opt h
    obtain ⟨xs, e1, rfl⟩ := Option.map_eq_some_iff.mp e
    obtain ⟨a, vs, rfl, h1, r1⟩ := q.asL r e1
    exact ⟨_, L2.call_tuple_of, _, _, rfl, .inl ⟨L2.SqL.of h1, fun p hp => Run.newT h q r1 hp⟩⟩
  · exact h.elim
theorem on_ints {F : L2.Hp} {ρ : List Addr} {s : S} {σ : L2.St} {H : L2.Hp} {xs : List L2.V} {ds : List D} {f : List Int → Option D} {Q : L2.VK} (q : SR c.T c.e F ρ s σ H) (rs : RepL c.T F ρ xs ds) (h : Run c rpD F ρ (onInts f ds s) σ Q) :
    ∃ a ns d, xs = [.ref a] ∧ H a = some (.lst (ns.map L2.V.int)) ∧ f ns = some d ∧ Run c rpD F ρ (.ok d s) σ Q := by
  unfold onInts at h
  split at h
  · obtain ⟨v, rfl, r⟩ := rs.one
    obtain ⟨d, e, h⟩ := Run.opt h
    obtain ⟨xs, e1, e⟩ := Option.bind_eq_some_iff.mp e
    obtain ⟨ns, e2, e⟩ := Option.bind_eq_some_iff.mp e
    obtain ⟨a, vs, rfl, h1, r1⟩ := q.asL r e1
    rw [asInts_ok e2] at r1
    rw [r1.ofInts] at h1
    exact ⟨a, ns, d, rfl, h1, e, h⟩
  · exact h.elim
theorem c_sum (hc : X.calm = true) : L2.CallR X (.builtin "sum") (rGC c sumD) := callr_of fun xs H Q ⟨F, ρ, s, σ, ds, q, rs, h⟩ => by
  obtain ⟨a, ns, d, rfl, h1, e, h⟩ := on_ints q rs h
  cases e
  exact ⟨_, L2.cr_sum hc, a, ns, rfl, L2.SqL.of h1, Run.int h q⟩
theorem c_sorted : L2.CallR X (.builtin "sorted") (rGC c sortedD) := callr_of fun xs H Q ⟨F, ρ, s, σ, ds, q, rs, h⟩ => by
  unfold sortedD at h
  split at h
  · obtain ⟨v, rfl, r⟩ := rs.one
    split at h
    · rename_i ys e1
      obtain ⟨a, vs, rfl, h1, r1⟩ := q.asL r e1
      split at h
      · rename_i ns e2
        rw [asInts_ok e2] at r1
        rw [r1.ofInts] at h1
        refine ⟨_, L2.cr_sortedI, a, ns, rfl, L2.SqL.of h1, fun ns' p hp hs hn => ?_⟩
        rw [sortI_only hp hs]
        exact Run.newL h q RepL.ints hn
      · split at h
        · rename_i ns e2
          split at h
          · rename_i g
            rw [asStrs_ok e2] at r1
            rw [r1.ofStrs] at h1
            refine ⟨_, L2.cr_sortedS, a, ns.map stS, rfl, L2.SqL.of h1, by rw [List.length_map]; exact g, fun ys' p hp hs hn => ?_⟩
            have hp2 := hp.map fun s => s.cps.toList
            rw [map_cps] at hp2
            have := sortS_only hp2 (List.pairwise_map.mpr (sortedS_pw hs))
            rw [strs_back (l := ys'), this]
            exact Run.newL h q RepL.strs hn
          · exact h.elim
        · exact h.elim
    · exact h.elim
  · exact h.elim
theorem c_min (hc : X.calm = true) : L2.CallR X (.builtin "min") (rGC c minD) := callr_of fun xs H Q ⟨F, ρ, s, σ, ds, q, rs, h⟩ => by
  unfold minD at h
  split at h
  · obtain ⟨v, w, rfl, r1, r2⟩ := rs.two
    cases r1; cases r2
    exact ⟨_, L2.call_min2 hc, _, _, rfl, Run.int h q⟩
  · obtain ⟨v, rfl, r⟩ := rs.one
    obtain ⟨d, e, h⟩ := Run.opt h
    obtain ⟨xs, e1, e⟩ := Option.bind_eq_some_iff.mp e
    obtain ⟨ns, e2, e⟩ := Option.bind_eq_some_iff.mp e
    obtain ⟨a, vs, rfl, h1, r1⟩ := q.asL r e1
    rw [asInts_ok e2] at r1
    rw [r1.ofInts] at h1
    split at e
    · cases e
    · rename_i hne
      cases e
      have hne : ns ≠ [] := fun z => hne (by rw [z]; rfl)
      obtain ⟨m1, m2⟩ := minI_mem hne
      refine ⟨_, L2.cr_min hc, a, ns, rfl, L2.SqL.of h1, List.length_pos_iff.mpr hne, fun m hm hle => ?_⟩
      rw [Int.le_antisymm (hle _ m1) (m2 m hm)]
      exact Run.int h q
  · exact h.elim
theorem c_max (hc : X.calm = true) : L2.CallR X (.builtin "max") (rGC c maxD) := callr_of fun xs H Q ⟨F, ρ, s, σ, ds, q, rs, h⟩ => by
  unfold maxD at h
  split at h
  · obtain ⟨v, w, rfl, r1, r2⟩ := rs.two
    cases r1; cases r2
    exact ⟨_, L2.call_max2 hc, _, _, rfl, Run.int h q⟩
  · obtain ⟨v, rfl, r⟩ := rs.one
    obtain ⟨d, e, h⟩ := Run.opt h
    obtain ⟨xs, e1, e⟩ := Option.bind_eq_some_iff.mp e
    obtain ⟨ns, e2, e⟩ := Option.bind_eq_some_iff.mp e
    obtain ⟨a, vs, rfl, h1, r1⟩ := q.asL r e1
    rw [asInts_ok e2] at r1
    rw [r1.ofInts] at h1
    split at e
    · cases e
    · rename_i hne
      cases e
      have hne : ns ≠ [] := fun z => hne (by rw [z]; rfl)
      obtain ⟨m1, m2⟩ := maxI_mem hne
      refine ⟨_, L2.cr_max hc, a, ns, rfl, L2.SqL.of h1, List.length_pos_iff.mpr hne, fun m hm hle => ?_⟩
      rw [Int.le_antisymm (m2 m hm) (hle _ m1)]
      exact Run.int h q
  · exact h.elim
theorem on_bls {F : L2.Hp} {ρ : List Addr} {s : S} {σ : L2.St} {H : L2.Hp} {xs : List L2.V} {ds : List D} {f : List Bool → Bool} {Q : L2.VK} (q : SR c.T c.e F ρ s σ H) (rs : RepL c.T F ρ xs ds) (h : Run c rpD F ρ (onBls f ds s) σ Q) :
    ∃ a bs, xs = [.ref a] ∧ H a = some (.lst (bs.map L2.V.bl)) ∧ Q (.bl (f bs)) H := by
  unfold onBls at h
  split at h
  · obtain ⟨v, rfl, r⟩ := rs.one
    obtain ⟨d, e, h⟩ := Run.opt h
    obtain ⟨xs, e1, e⟩ := Option.bind_eq_some_iff.mp e
    obtain ⟨ns, e2, rfl⟩ := Option.map_eq_some_iff.mp e
    obtain ⟨a, vs, rfl, h1, r1⟩ := q.asL r e1
    rw [asBls_ok e2] at r1
    rw [r1.ofBls] at h1
    exact ⟨a, ns, rfl, h1, Run.bl h q⟩
  · exact h.elim
theorem c_all (hc : X.calm = true) : L2.CallR X (.builtin "all") (rGC c (onBls fun bs => bs.all id)) := callr_of fun xs H Q ⟨F, ρ, s, σ, ds, q, rs, h⟩ => by
  obtain ⟨a, ns, rfl, h1, h⟩ := on_bls q rs h
  exact ⟨_, L2.cr_all hc, a, ns, rfl, L2.SqL.of h1, h⟩
theorem c_any (hc : X.calm = true) : L2.CallR X (.builtin "any") (rGC c (onBls fun bs => bs.any id)) := callr_of fun xs H Q ⟨F, ρ, s, σ, ds, q, rs, h⟩ => by
  obtain ⟨a, ns, rfl, h1, h⟩ := on_bls q rs h
  exact ⟨_, L2.cr_any hc, a, ns, rfl, L2.SqL.of h1, h⟩
theorem c_int : L2.CallR X (.type "int") (rGC c intD) := callr_of fun xs H Q ⟨F, ρ, s, σ, ds, q, rs, h⟩ => by
  unfold intD at h
  split at h
  · obtain ⟨v, rfl, r⟩ := rs.one; cases r
    exact ⟨_, L2.call_int1, .inl ⟨_, rfl, Run.int h q⟩⟩
  · obtain ⟨v, rfl, r⟩ := rs.one; cases r
    exact ⟨_, L2.call_int1, .inr ⟨_, rfl, Run.int h q⟩⟩
  · obtain ⟨v, rfl, r⟩ := rs.one; cases r
    split at h
    · rename_i g
      obtain ⟨d, e, h⟩ := Run.opt h
      obtain ⟨n, e1, rfl⟩ := Option.map_eq_some_iff.mp e
      exact ⟨_, L2.call_int_str, _, n, rfl, e1, by rw [stS_len]; exact g, Run.int h q⟩
    · exact h.elim
  · exact h.elim
theorem c_bool : L2.CallR X (.type "bool") (rGC c boolD) := callr_of fun xs H Q ⟨F, ρ, s, σ, ds, q, rs, h⟩ => by
  unfold boolD at h
  split at h
  · obtain ⟨v, rfl, r⟩ := rs.one; cases r
    exact ⟨_, L2.call_bool1, .inl ⟨_, rfl, Run.bl h q⟩⟩
  · obtain ⟨v, rfl, r⟩ := rs.one; cases r
    exact ⟨_, L2.call_bool1, .inr ⟨_, rfl, Run.bl h q⟩⟩
  · obtain ⟨v, rfl, r⟩ := rs.one
    obtain ⟨a, vs, rfl, h1, r1⟩ := q.asL r rfl
    exact ⟨_, L2.call_boolL, a, vs, rfl, L2.SqL.of h1, by rw [r1.isEmpty]; exact Run.bl h q⟩
  · exact h.elim
theorem c_str : L2.CallR X (.type "str") (rGC c strD) := callr_of fun xs H Q ⟨F, ρ, s, σ, ds, q, rs, h⟩ => by
  unfold strD at h
  split at h
  · obtain ⟨v, rfl, r⟩ := rs.one; cases r
    split at h
    · rename_i g
      refine ⟨_, L2.call_str_int, _, rfl, g, ?_⟩
      rw [strOfInt_eq]
      exact Run.done h q (Rep.str _)
    · exact h.elim
  · obtain ⟨v, rfl, r⟩ := rs.one; cases r
    exact ⟨_, SkE.call_str_str, _, rfl, Run.done h q (Rep.str _)⟩
  · exact h.elim
theorem c_isi (hT : c.T.K = X.K) : L2.CallR X (.builtin "isinstance") (rGC c isiD) := callr_of fun xs H Q ⟨F, ρ, s, σ, ds, q, rs, h⟩ => by
  unfold isiD at h
  split at h
  · obtain ⟨v, w, rfl, r1, r2⟩ := rs.two
    obtain ⟨d, e, h⟩ := Run.opt h
    obtain ⟨k, e1, e⟩ := Option.bind_eq_some_iff.mp e
    obtain ⟨ns, e2, rfl⟩ := Option.map_eq_some_iff.mp e
    have ty := kindS_ty hT q r1 e1
    cases r2 with
    | tup h1 h2 =>
      obtain ⟨rfl, hn⟩ := tyNames_ok h2 e2
      have ka := kitAny_tys (X := X) (kindS_mem e1) hn
      have h := Run.bl h q
      rcases h1 with h1 | ⟨o, its, n, h1, h3, h4, h5, h6⟩
      · exact ⟨_, L2.call_isiT, v, _, _, .type k, _, _, rfl, q.hr.sub _ _ h1, clsV_tys ns, ty, ka, h⟩
      · rw [hT] at h1
        obtain ⟨oc, od, dt, sl⟩ := o
        cases h3; cases h4
        have e3 := L2.ClsV.all (clsV_tys ns) h6
        refine ⟨_, L2.call_isiK, v, _, od, ns.map Value.type, n, sl, .type k, _, rfl, ?_, ty, ka, h⟩
        rw [← e3]
        exact h1
  · obtain ⟨v, w, rfl, r1, r2⟩ := rs.two
    obtain ⟨d', e, h'⟩ := Run.opt h
    obtain ⟨k, e1, e⟩ := Option.bind_eq_some_iff.mp e
    obtain ⟨n, e2, rfl⟩ := Option.map_eq_some_iff.mp e
    have ty := kindS_ty hT q r1 e1
    obtain ⟨rfl, hn⟩ := tyName_mem e2
    cases r2
    exact ⟨_, L2.call_isi, v, _, .type k, .type n, _, rfl, .ty n, ty, L2.kit_ty (isKind_ok (kindS_mem e1) hn), Run.bl h' q⟩
  · exact h.elim
end
end U

/-! U6: arguments, displays, tests, short-circuits, conditional expressions. -/
namespace U
open PySem PySem.Spec PyProof.Rows

/-! ### arguments -/
def mSeq {α : Type} : List (M α) → M (List α)
  | [] => mPure []
  | m :: r => mBind m fun d => mBind (mSeq r) fun ds => mPure (d :: ds)
def notStar : Expr → Bool
  | .Starred _ _ => false
  | _ => true
theorem starEach_cons {e : Expr} (h : notStar e = true) (es : List Expr) (env : Env) : starEach (e :: es) env = (false, eval e env) :: starEach es env := by
  cases e <;> first | rfl | cases h
theorem backTo_plain {pos : Pos} {env : Env} : ∀ {es : List Expr}, es.all notStar = true → (backTo pos (starEach es env)).any (·.1) = false
  | [], _ => rfl
  | e :: r, h => by
    rw [List.all_cons, Bool.and_eq_true] at h
    rw [starEach_cons h.1]
    show (false || (backTo pos (starEach r env)).any (·.1)) = false
    rw [backTo_plain h.2]; rfl
section
variable {X : L2.Cx} {c : Cy} {pos : Pos}
theorem e_args {f : Expr → M D} : ∀ {es : List Expr}, es.all notStar = true → (∀ e ∈ es, L2.PE X e (tG c rpD (f e))) → L2.PA X es (tG c rpL (mSeq (es.map f)))
  | [], _, _ => pa_imp L2.pa_nil fun σ H Q ⟨F, ρ, s, q, h⟩ => Run.done h q RepL.nil
  | e :: r, hs, h => by
    rw [List.all_cons, Bool.and_eq_true] at hs
    refine pa_imp (L2.pa_cons (h e List.mem_cons_self) (e_args hs.2 fun e' he => h e' (List.mem_cons_of_mem _ he)) (starEach_cons hs.1 _ _)) fun σ H Q hq => ?_
    refine tG_imp2 (tG_bind2 rpD_mono hq) fun x xs H2 ⟨F, ρ, s, d, ds, q, z1, z2, hh⟩ => ?_
    exact Run.done hh q (RepL.cons z1 z2)
/-- m, then f of it, where the second part is no reading -/
theorem tG_map {α β α' β' : Type} {c : Cy} {Rp : RP α β} {Rp' : RP α' β'} {m : M α} {f : α → M α'} {σ : L2.St} {H : L2.Hp} {Q : β' → L2.Hp → Prop} {Q' : β → L2.Hp → Prop}
    (h : tG c Rp' (mBind m f) σ H Q) (i : ∀ b H1 F1 ρ1 s1 a, SR c.T c.e F1 ρ1 s1 σ H1 → Rp c F1 ρ1 b a → Run c Rp' F1 ρ1 (f a s1) σ Q → Q' b H1) : tG c Rp m σ H Q' :=
  tG_imp (tG_bind h) fun b H1 ⟨F1, ρ1, s1, a, q, z, hh⟩ => i b H1 F1 ρ1 s1 a q z hh
def mTup (ds : List D) : M D := if ds.length ≤ sizeLine then mPure (.tup ds) else mBad
def mLst (ds : List D) : M D := if ds.length ≤ sizeLine then mPure (.lst ds) else mBad
theorem e_tup {es : List Expr} {k : Nat} {m : M (List D)} (h : L2.PA X es (tG c rpL m)) : L2.PE X (.Tuple es k pos) (tG c rpD (mBind m mTup)) :=
  pe_imp (L2.pe_tup h) fun σ H Q hq => tG_map hq fun vs H1 F ρ s ds q z hh => by
    obtain ⟨g, hh⟩ := hh.guard
    exact ⟨by rw [RepL.length z]; exact g, fun p hp => Run.newT hh q z hp⟩
theorem e_lst {es : List Expr} {m : M (List D)} (h : L2.PA X es (tG c rpL m)) : L2.PE X (.List es pos) (tG c rpD (mBind m mLst)) :=
  pe_imp (L2.pe_lst h) fun σ H Q hq => tG_map hq fun vs H1 F ρ s ds q z hh => by
    obtain ⟨g, hh⟩ := hh.guard
    exact ⟨by rw [RepL.length z]; exact g, fun p hp => Run.newL hh q z hp⟩
/-! ### built-in calls by name -/
theorem e_callB {x : Str} {id : String} {e : Expr} {es : List Expr} {m : M (List D)} {g : List D → M D} {p : Pos} (hc : L2.CallR X (.builtin id) (rGC c g)) (hg : L2.Gl X x) (hm : X.mg x = none) (hv : bootBuiltins x = some (.builtin id)) (hn : x ≠ "__name__") (hdb : (x == ("__debug__" : Str)) = false)
    (hs : (e :: es).all notStar = true) (ha : L2.PA X (e :: es) (tG c rpL m)) : L2.PE X (.Call (.Name x p) (e :: es) [] pos) (tG c rpD (mBind m g)) := by
  rw [List.all_cons, Bool.and_eq_true] at hs
  exact pe_imp (L2.pe_callB hc hg hm hv ha hn hdb (starEach_cons hs.1 _ _) (backTo_plain hs.2)) fun σ H Q hq => tG_map hq fun vs H1 F ρ s ds q z hh => ⟨F, ρ, s, σ, ds, q, z, hh⟩
theorem e_callT {x : Str} {id : String} {e : Expr} {es : List Expr} {m : M (List D)} {g : List D → M D} {p : Pos} (hc : L2.CallR X (.type id) (rGC c g)) (hg : L2.Gl X x) (hm : X.mg x = none) (hv : bootBuiltins x = some (.type id)) (hn : x ≠ "__name__") (hdb : (x == ("__debug__" : Str)) = false)
    (hs : (e :: es).all notStar = true) (ha : L2.PA X (e :: es) (tG c rpL m)) : L2.PE X (.Call (.Name x p) (e :: es) [] pos) (tG c rpD (mBind m g)) := by
  rw [List.all_cons, Bool.and_eq_true] at hs
  exact pe_imp (L2.pe_callTy hc hg hm hv ha hn hdb (starEach_cons hs.1 _ _) (backTo_plain hs.2)) fun σ H Q hq => tG_map hq fun vs H1 F ρ s ds q z hh => ⟨F, ρ, s, σ, ds, q, z, hh⟩

/-! ### subscripts -/
def notSlice : Expr → Bool
  | .Slice _ _ _ _ => false
  | _ => true
theorem plainIx {b : Expr} (h : notSlice b = true) : L2.PlainIx b := fun o i => by
  cases b <;> first | rfl | cases h
theorem e_idx {a b : Expr} {ma mb : M D} (hT : c.T.K = X.K) (ha : L2.PE X a (tG c rpD ma)) (hb : L2.PE X b (tG c rpD mb)) (hs : notSlice b = true) : L2.PE X (.Subscript a b pos) (tG c rpD (mBind ma fun x => mBind mb (idxD x))) :=
  pe_imp (L2.pe_ix (ixr_idx hT) ha hb (plainIx hs)) fun σ H Q h => tG_imp2 (tG_bind2 rpD_mono h) fun x y H2 ⟨F, ρ, s, da, db, q, z1, z2, hh⟩ => ⟨F, ρ, s, σ, da, db, q, z1, z2, hh⟩
/-- a slot read in passing: what it holds is not kept -/
def peek (i : Nat) : M D := fun s => match s.sl[i]? with
  | some (some d) => .ok d s
  | _ => .bad
/-- what a peeked slot stands for -/
theorem SR.peekL {F : L2.Hp} {ρ : List Addr} {s : S} {σ : L2.St} {H : L2.Hp} {i : Nat} {xs : List D} (q : SR c.T c.e F ρ s σ H) (e : s.sl[i]? = some (some (.own xs))) : ∃ a vs, σ[i]? = some (some (.ref a)) ∧ H a = some (.lst vs) ∧ RepL c.T F ρ vs xs := by
  obtain ⟨v, h1, a, vs, rfl, h2, h3, _⟩ := q.sl i _ e
  exact ⟨a, vs, h1, h2, h3⟩
/-- x[i], x a slot -/
theorem e_idxV {i : Nat} {x : Str} {b : Expr} {mb : M D} {p : Pos} (hT : c.T.K = X.K) (hN : X.N[i]? = some x) (hv : L2.Vis X.env.scope x) (hd : (x == ("__debug__" : Str)) = false) (hcd : (x == ("__classdict__" : Str)) = false)
    (hb : L2.PE X b (tG c rpD mb)) (hs : notSlice b = true) : L2.PE X (.Subscript (.Name x p) b pos) (tG c rpD (mBind (peek i) fun _ => mBind mb fun y => mBind (peek i) fun x => idxD x y)) := by
  refine ⟨fun pins st σ H Q I h => ?_⟩
  obtain ⟨F, ρ, s, q, h⟩ := h
  -- the slot has a value
  have hx : ∃ v, σ[i]? = some (some v) := by
    unfold mBind at h
    cases e : peek i s with
    | bad => rw [e] at h; exact h.elim
    | exc x s' => unfold peek at e; split at e <;> cases e
    | ok d s' =>
      unfold peek at e
      split at e
      · rename_i d' e1
        obtain ⟨v, hv, _⟩ := q.sl i _ e1
        exact ⟨v, hv⟩
      · cases e
  obtain ⟨v, hx⟩ := hx
  have h : Run c rpD F ρ (mBind mb (fun y => mBind (peek i) fun x => idxD x y) s) σ Q := by
    unfold mBind at h
    cases e : peek i s with
    | bad => rw [e] at h; exact h.elim
    | exc x s' => unfold peek at e; split at e <;> cases e
    | ok d s' =>
      rw [e] at h
      unfold peek at e
      split at e
      · cases e; exact h
      · cases e
  -- by what the slot holds behind the index
  let r : L2.R2 := fun x y H Q => x = v ∧ ((∃ F ρ s da db, SR c.T c.e F ρ s σ H ∧ Rep c.T F ρ x da ∧ Rep c.T F ρ y db ∧ Run c rpD F ρ (idxD da db s) σ Q) ∨ ∃ a vs k w, x = .ref a ∧ y = .int k ∧ L2.SqL X.K H a vs ∧ L2.atI vs k = some w ∧ Q w H)
  have hr : L2.IxR X r := ixr_of fun x y H Q ⟨_, hq⟩ => by
    rcases hq with ⟨F, ρ, s, da, db, q, ra, rb, h⟩ | ⟨a, vs, k, w, h1, h2, h3, h4, h5⟩
    · exact ⟨_, ixr_idx hT, F, ρ, s, σ, da, db, q, ra, rb, h⟩
    · exact ⟨_, L2.ix_list, a, vs, k, w, h1, h2, h3, h4, h5⟩
  refine (L2.pe_ix hr (L2.pe_var hN hv hd hcd) hb (plainIx hs)).run pins st σ H Q I ⟨v, hx, F, ρ, s, q, Run.imp (Run.bind h) fun y H2 ⟨F2, ρ2, s2, db, l, p, q2, rb, h2⟩ => ⟨rfl, ?_⟩⟩
  unfold mBind peek at h2
  cases e : s2.sl[i]? with
  | none => rw [e] at h2; exact h2.elim
  | some o =>
    rw [e] at h2
    cases o with
    | none => exact h2.elim
    | some d =>
      cases d with
      | own xs =>
        right
        obtain ⟨a, vs, k1, k2, k3⟩ := q2.peekL e
        rw [hx] at k1; cases k1
        cases db with
        | int k =>
          cases rb
          obtain ⟨d', e', h2⟩ := Run.opt h2
          obtain ⟨w, e1, r1⟩ := atI_rep k3 e'
          exact ⟨a, vs, k, w, rfl, rfl, L2.SqL.of k2, e1, Run.done h2 q2 r1⟩
        | _ => exact h2.elim
      | ownI k fs => cases db <;> exact h2.elim
      | _ =>
        left
        obtain ⟨w, k1, k2⟩ := q2.sl i _ e
        rw [hx] at k1; cases k1
        exact ⟨F2, ρ2, s2, _, db, q2, k2, rb, h2⟩
/-! ### tests -/
def mNot (m : M Bool) : M Bool := mBind m fun b => mPure (!b)
def mAndT : List (M Bool) → M Bool
  | [] => mBad
  | [m] => m
  | m :: r => mBind m fun b => if b then mAndT r else mPure false
def mOrT : List (M Bool) → M Bool
  | [] => mBad
  | [m] => m
  | m :: r => mBind m fun b => if b then mPure true else mOrT r
def mIte {α : Type} (t : M Bool) (a b : M α) : M α := mBind t fun k => if k then a else b
def asB : D → M Bool
  | .bl b => mPure b
  | _ => mBad
theorem tG_ite {α β : Type} {Rp : RP α β} {k : Bool} {a b : M α} {F : L2.Hp} {ρ : List Addr} {s : S} {σ : L2.St} {H : L2.Hp} {Q : β → L2.Hp → Prop} (q : SR c.T c.e F ρ s σ H) (h : Run c Rp F ρ ((if k then a else b) s) σ Q) : if k = true then tG c Rp a σ H Q else tG c Rp b σ H Q := by
  cases k
  · exact ⟨F, ρ, s, q, h⟩
  · exact ⟨F, ρ, s, q, h⟩
theorem t_not {a : Expr} {m : M Bool} (h : L2.PT X a (tG c rpB m)) : L2.PT X (.UnaryOp .Not a pos) (tG c rpB (mNot m)) :=
  pt_imp (L2.pt_not h) fun σ H Q hq => tG_map hq fun b H1 F ρ s k q z hh => by cases z; exact Run.done hh q rfl
theorem t_and {f : Expr → M Bool} : ∀ {es : List Expr}, es ≠ [] → (∀ e ∈ es, L2.PT X e (tG c rpB (f e))) → L2.PW X (.BoolOp .And es pos) (tG c rpB (mAndT (es.map f)))
  | [], h, _ => absurd rfl h
  | [e], _, h => L2.pw_and1 (h e List.mem_cons_self)
  | e :: e2 :: r, _, h => by
    refine pw_imp (L2.pw_and (h e List.mem_cons_self) (t_and (es := e2 :: r) (List.cons_ne_nil _ _) fun e' he => h e' (List.mem_cons_of_mem _ he))) fun σ H Q hq => ?_
    refine tG_map (f := fun b => if b then mAndT ((e2 :: r).map f) else mPure false) hq fun b H1 F ρ s k q z hh => ?_
    cases z
    cases b
    · exact Run.done hh q rfl
    · exact ⟨F, ρ, s, q, hh⟩
theorem t_or {f : Expr → M Bool} : ∀ {es : List Expr}, es ≠ [] → (∀ e ∈ es, L2.PT X e (tG c rpB (f e))) → L2.PW X (.BoolOp .Or es pos) (tG c rpB (mOrT (es.map f)))
  | [], h, _ => absurd rfl h
  | [e], _, h => L2.pw_or1 (h e List.mem_cons_self)
  | e :: e2 :: r, _, h => by
    refine pw_imp (L2.pw_or (h e List.mem_cons_self) (t_or (es := e2 :: r) (List.cons_ne_nil _ _) fun e' he => h e' (List.mem_cons_of_mem _ he))) fun σ H Q hq => ?_
    refine tG_map (f := fun b => if b then mPure true else mOrT ((e2 :: r).map f)) hq fun b H1 F ρ s k q z hh => ?_
    cases z
    cases b
    · exact ⟨F, ρ, s, q, hh⟩
    · exact Run.done hh q rfl
/-- an expression whose test is its value's truth -/
def plainT : Expr → Bool
  | .UnaryOp .Not _ _ => false
  | .BoolOp _ _ _ => false
  | .IfExp _ _ _ _ => false
  | .Compare _ _ _ _ => false
  | _ => true
theorem isTrue_of {e : Expr} (h : plainT e = true) (env : Env) (whole : Sem Value) : isTrue e env whole = (do let v ← whole; standAt e.pos; holding [v] (truthy v)) := by
  cases e <;> first | rfl | (cases h; done) | skip
  rename_i op x p
  cases op <;> first | rfl | cases h
theorem t_truth {e : Expr} {m : M D} (hT : c.T.K = X.K) (h : L2.PE X e (tG c rpD m)) (hp : plainT e = true) : L2.PT X e (tG c rpB (mBind m truD)) :=
  pt_imp (L2.pt_truth h (isTrue_of hp _)) fun σ H Q hq => tG_map hq fun v H1 F ρ s d q z hh => truD_ok hT q z hh
theorem t_ifExp {t a b : Expr} {mt ma mb : M Bool} (ht : L2.PT X t (tG c rpB mt)) (ha : L2.PT X a (tG c rpB ma)) (hb : L2.PT X b (tG c rpB mb)) : L2.PT X (.IfExp t a b pos) (tG c rpB (mIte mt ma mb)) := by
  refine ⟨fun pins s σ H Q I h => ?_⟩
  show wpAny _ _ (do if ← isTrue t X.env (eval t X.env) then isTrue a X.env (eval a X.env) else isTrue b X.env (eval b X.env)) _ _ s
  refine wpAny_bind (L2.thn (ht.run pins s σ H _ I (tG_map (Q' := fun k H1 => if k = true then tG c rpB ma σ H1 Q else tG c rpB mb σ H1 Q) h fun k H1 F ρ s1 k' q z hh => by cases z; exact tG_ite q hh)) fun k s1 ⟨H1, I1, q1⟩ => ?_)
  cases k
  · exact hb.run pins s1 σ H1 Q I1 q1
  · exact ha.run pins s1 σ H1 Q I1 q1
theorem e_ifExp {t a b : Expr} {mt : M Bool} {ma mb : M D} (ht : L2.PT X t (tG c rpB mt)) (ha : L2.PE X a (tG c rpD ma)) (hb : L2.PE X b (tG c rpD mb)) : L2.PE X (.IfExp t a b pos) (tG c rpD (mIte mt ma mb)) :=
  pe_imp (L2.pe_ifExp ht ha hb) fun σ H Q hq => tG_map hq fun k H1 F ρ s k' q z hh => by cases z; exact tG_ite q hh
/-! ### comparisons -/
def notSet : Expr → Bool
  | .Set _ _ _ => false
  | _ => true
theorem noMarks {op : CmpOp} {b : Expr} (h : notSet b = true) : behindInMarks op b = false := by
  cases b <;> first | rfl | cases h
theorem e_cmp {op : CmpOp} {a b : Expr} {ma mb : M D} {g : D → D → M D} (ho : L2.OpR X (compareOp op) (rG2 c g)) (ha : L2.PE X a (tG c rpD ma)) (hb : L2.PE X b (tG c rpD mb)) (hs : notSet b = true) : L2.PE X (.Compare a [op] [b] pos) (tG c rpD (mBind ma fun x => mBind mb (g x))) :=
  pe_imp (L2.pe_cmpR ho ha hb (noMarks hs)) fun σ H Q h => tG_imp2 (tG_bind2 rpD_mono h) fun x y H2 ⟨F, ρ, s, da, db, q, z1, z2, hh⟩ => ⟨F, ρ, s, σ, da, db, q, z1, z2, hh⟩
theorem Run.asB {F : L2.Hp} {ρ : List Addr} {m : M D} {s : S} {σ : L2.St} {Q : Bool → L2.Hp → Prop} (h : Run c rpB F ρ (mBind m asB s) σ Q) : Run c rpD F ρ (m s) σ fun v H => ∃ k, v = .bl k ∧ Q k H := by
  unfold mBind at h
  cases e : m s with
  | bad => rw [e] at h; exact h
  | exc x s => rw [e] at h; exact h
  | ok d s =>
    rw [e] at h
    intro v H' F' ρ' l p q z
    cases d with
    | bl b => cases z; exact ⟨b, rfl, h b H' F' ρ' l p q rfl⟩
    | _ => exact h.elim
theorem t_cmp {op : CmpOp} {a b : Expr} {ma mb : M D} {g : D → D → M D} (ho : L2.OpR X (compareOp op) (rG2 c g)) (ha : L2.PE X a (tG c rpD ma)) (hb : L2.PE X b (tG c rpD mb)) (hs : notSet b = true) : L2.PT X (.Compare a [op] [b] pos) (tG c rpB (mBind ma fun x => mBind mb fun y => mBind (g x y) asB)) :=
  pt_imp (L2.pt_cmpR ho ha hb (noMarks hs)) fun σ H Q h => tG_imp2 (tG_bind2 rpD_mono h) fun x y H2 ⟨F, ρ, s, da, db, q, z1, z2, hh⟩ => ⟨F, ρ, s, σ, da, db, q, z1, z2, Run.asB hh⟩
/-- a < b < c -/
def mChain (ma mb mc : M D) (g g' : D → D → M D) : M D := mBind ma fun x => mBind mb fun y => mBind (g x y) fun z => mBind (asB z) fun k => if k then mBind mc (g' y) else mPure z
theorem chain_end {α β : Type} {Rp : RP α β} {mc : M D} {g : D → D → M D} {k' : D → M α} {K : D → Bool → M α} {F : L2.Hp} {ρ : List Addr} {s : S} {σ : L2.St} {m : M D} {Q : β → L2.Hp → Prop} {R : Bool → L2.Hp → Prop}
    (h : Run c Rp F ρ (mBind m (fun z => mBind (asB z) fun k => K z k) s) σ Q) (hR : ∀ k F1 ρ1 s1 H1, Le F F1 → ρ <+: ρ1 → SR c.T c.e F1 ρ1 s1 σ H1 → Run c Rp F1 ρ1 (K (.bl k) k s1) σ Q → R k H1) : Run c rpD F ρ (m s) σ fun z H3 => ∃ k, z = .bl k ∧ R k H3 := by
  refine Run.imp (Run.bind h) fun z H1 ⟨F1, ρ1, s1, d, l, p, q, rz, hh⟩ => ?_
  cases d with
  | bl b => cases rz; exact ⟨b, rfl, hR b F1 ρ1 s1 H1 l p q hh⟩
  | _ => exact hh.elim
theorem e_chain {op op' : CmpOp} {a b d : Expr} {ma mb mc : M D} {g g' : D → D → M D} (ho : L2.OpR X (compareOp op) (rG2 c g)) (ho' : L2.OpR X (compareOp op') (rG2 c g')) (ha : L2.PE X a (tG c rpD ma)) (hb : L2.PE X b (tG c rpD mb)) (hd : L2.PE X d (tG c rpD mc)) (hs : notSet b = true) (hs' : notSet d = true) :
    L2.PE X (.Compare a [op, op'] [b, d] pos) (tG c rpD (mChain ma mb mc g g')) :=
  pe_imp (L2.pe_chain ho ho' ha hb hd (noMarks hs')) fun σ H Q h => tG_imp2 (tG_bind2 rpD_mono h) fun x y H2 ⟨F, ρ, s, da, db, q, z1, z2, hh⟩ => ⟨F, ρ, s, σ, da, db, q, z1, z2, chain_end (mc := mc) (g := g) (k' := mPure) hh fun k F1 ρ1 s1 H1 l p q1 h1 => by
    cases k
    · exact Run.done h1 q1 (Rep.bl false)
    · exact ⟨F1, ρ1, s1, q1, Run.imp (Run.bind h1) fun w H4 ⟨F4, ρ4, s4, dc, l4, p4, q4, z4, h4⟩ => ⟨F4, ρ4, s4, σ, db, dc, q4, (z2.mono l p).mono l4 p4, z4, h4⟩⟩⟩
def mChainT (ma mb mc : M D) (g g' : D → D → M D) : M Bool := mBind ma fun x => mBind mb fun y => mBind (g x y) fun z => mBind (asB z) fun k => if k then mBind mc fun w => mBind (g' y w) asB else mPure false
theorem t_chain {op op' : CmpOp} {a b d : Expr} {ma mb mc : M D} {g g' : D → D → M D} (ho : L2.OpR X (compareOp op) (rG2 c g)) (ho' : L2.OpR X (compareOp op') (rG2 c g')) (ha : L2.PE X a (tG c rpD ma)) (hb : L2.PE X b (tG c rpD mb)) (hd : L2.PE X d (tG c rpD mc)) (hs : notSet b = true) (hs' : notSet d = true) :
    L2.PT X (.Compare a [op, op'] [b, d] pos) (tG c rpB (mChainT ma mb mc g g')) :=
  pt_imp (L2.pt_chain ho ho' ha hb hd (noMarks hs')) fun σ H Q h => tG_imp2 (tG_bind2 rpD_mono h) fun x y H2 ⟨F, ρ, s, da, db, q, z1, z2, hh⟩ => ⟨F, ρ, s, σ, da, db, q, z1, z2, chain_end (mc := mc) (g := g) (k' := fun _ => mBad (α := Bool)) hh fun k F1 ρ1 s1 H1 l p q1 h1 => by
    cases k
    · exact ⟨false, rfl, Run.done h1 q1 rfl⟩
    · exact ⟨F1, ρ1, s1, q1, Run.imp (Run.bind h1) fun w H4 ⟨F4, ρ4, s4, dc, l4, p4, q4, z4, h4⟩ => ⟨F4, ρ4, s4, σ, db, dc, q4, (z2.mono l p).mono l4 p4, z4, Run.asB h4⟩⟩⟩
end
end U

/-! U7: what is walked, targets, statements. -/
namespace U
open PySem PySem.Spec PyProof.Rows

/-! ### the slots -/
section
variable {T : Tab} {e : En} {F : L2.Hp} {ρ : List Addr} {s : S} {σ : L2.St} {H : L2.Hp}
theorem Rep.notOwn {v : L2.V} {d : D} (r : Rep T F ρ v d) : isOwn d = false := by cases r <;> rfl
theorem Rep.slr {v : L2.V} {d : D} (r : Rep T F ρ v d) : SlR T e F ρ H v d := by cases r <;> (first | exact .non | exact .bl _ | exact .int _ | exact .str _ | exact .lst (by assumption) (by assumption) | exact .tup (by assumption) (by assumption) | exact .ob (by assumption) | exact .scr (by assumption) | exact .ty _ | exact .cls | exact .ins (by assumption) (by assumption) (by assumption))
theorem SR.put (q : SR T e F ρ s σ H) {v : L2.V} {d : D} (r : Rep T F ρ v d) (i : Nat) : SR T e F ρ { s with sl := s.sl.set i (some d) } (σ.set i (some v)) H := by
  refine ⟨q.hr, by simpa using q.len, fun j d' hj => ?_, fun j k d1 d2 w hjk h3 h4 o1 o2 => ?_, q.keep, q.fz, q.fnew, q.old, q.new⟩
  · have hj : (s.sl.set i (some d))[j]? = some (some d') := hj
    by_cases hij : i = j
    · subst hij
      have hlt : i < s.sl.length := by
        have := (List.getElem?_eq_some_iff.mp hj).1
        simpa using this
      rw [List.getElem?_set_self hlt] at hj
      cases hj
      exact ⟨v, by rw [List.getElem?_set_self (by rw [← q.len]; exact hlt)], r.slr⟩
    · rw [List.getElem?_set_ne hij] at hj ⊢
      exact q.sl j d' hj
  · have h3 : (s.sl.set i (some d))[j]? = some (some d1) := h3
    have h4 : (s.sl.set i (some d))[k]? = some (some d2) := h4
    have ne : ∀ {m d'}, (s.sl.set i (some d))[m]? = some (some d') → isOwn d' = true → i ≠ m := fun {m d'} hm o z => by
      subst z
      have hlt : i < s.sl.length := by
        have := (List.getElem?_eq_some_iff.mp hm).1
        simpa using this
      rw [List.getElem?_set_self hlt] at hm
      cases hm; rw [r.notOwn] at o; cases o
    have n1 := ne h3 o1
    have n2 := ne h4 o2
    rw [List.getElem?_set_ne n1] at h3
    rw [List.getElem?_set_ne n2] at h4
    intro hs
    rw [List.getElem?_set_ne n1] at hs
    rw [List.getElem?_set_ne n2]
    exact q.apart j k d1 d2 w hjk h3 h4 o1 o2 hs
/-- a slot forgotten -/
theorem SR.drop (q : SR T e F ρ s σ H) (i : Nat) : SR T e F ρ { s with sl := s.sl.set i none } σ H := by
  have go : ∀ {m d'}, (s.sl.set i none)[m]? = some (some d') → s.sl[m]? = some (some d') := fun {m d'} hm => by
    by_cases z : i = m
    · subst z
      have hlt : i < s.sl.length := by
        have := (List.getElem?_eq_some_iff.mp hm).1
        simpa using this
      rw [List.getElem?_set_self hlt] at hm
      cases hm
    · rwa [List.getElem?_set_ne z] at hm
  exact ⟨q.hr, by simpa using q.len, fun j d' hj => q.sl j d' (go hj), fun j k d1 d2 w hjk h3 h4 o1 o2 => q.apart j k d1 d2 w hjk (go h3) (go h4) o1 o2, q.keep, q.fz, q.fnew, q.old, q.new⟩
/-- a new list, held by one slot alone -/
theorem SR.putOwn (q : SR T e F ρ s σ H) {vs : List L2.V} {ds : List D} (r : RepL T F ρ vs ds) (i : Nat) {p : Addr} (hp : H p = none) : SR T e F ρ { s with sl := s.sl.set i (some (.own ds)) } (σ.set i (some (.ref p))) (L2.upd H p (.lst vs)) := by
  have hF := q.fnone hp
  have hr := q.rnone hp
  have ne : ∀ {b o}, H b = some o → b ≠ p := fun {b o} h => L2.ne_of_none h hp
  have old : ∀ {v : L2.V} {d' : D}, SlR T e F ρ H v d' → SlR T e F ρ (L2.upd H p (.lst vs)) v d' := fun {v d'} h => h.upd (Le.refl F) (List.prefix_refl ρ) fun a u k1 k2 k3 k4 => ⟨by rw [L2.upd_ne (ne k1)]; exact k1, k4, k3⟩
  refine ⟨⟨fun b u z => ?_, q.hr.len, fun n b c k1 k2 => ?_, q.hr.nd, q.hr.out⟩, by simpa using q.len, fun j d' hj => ?_, fun j k d1 d2 w hjk h3 h4 o1 o2 hs => ?_, fun b u z hb => ?_, q.fz, q.fnew, q.old, q.new⟩
  · have := q.hr.sub b u z
    rw [L2.upd_ne (ne this)]; exact this
  · exact (q.hr.cell n b c k1 k2).mono (Le.refl F) (List.prefix_refl ρ) fun o m1 => by rw [L2.upd_ne (ne m1)]; exact m1
  · have hj : (s.sl.set i (some (.own ds)))[j]? = some (some d') := hj
    by_cases hij : i = j
    · subst hij
      have hlt : i < s.sl.length := by
        have := (List.getElem?_eq_some_iff.mp hj).1
        simpa using this
      rw [List.getElem?_set_self hlt] at hj
      cases hj
      exact ⟨.ref p, by rw [List.getElem?_set_self (by rw [← q.len]; exact hlt)], p, vs, rfl, L2.upd_same, r, hF, hr, q.bnone hp⟩
    · rw [List.getElem?_set_ne hij] at hj ⊢
      obtain ⟨v, h1, h2⟩ := q.sl j d' hj
      exact ⟨v, h1, old h2⟩
  · have h3 : (s.sl.set i (some (.own ds)))[j]? = some (some d1) := h3
    have h4 : (s.sl.set i (some (.own ds)))[k]? = some (some d2) := h4
    -- another own slot has another place
    have other : ∀ {m : Nat} {d' : D}, i ≠ m → s.sl[m]? = some (some d') → isOwn d' = true → σ[m]? ≠ some (some (.ref p)) := fun {m d'} him hm o z => by
      obtain ⟨v, k1, k2⟩ := q.sl m d' hm
      rw [z] at k1; cases k1
      cases d' with
      | own xs =>
        obtain ⟨a, ws, e1, m1, _⟩ := k2
        cases e1; rw [hp] at m1; cases m1
      | ownI c fs =>
        obtain ⟨a, dx, ws, e1, m1, _⟩ := k2
        cases e1; rw [hp] at m1; cases m1
      | _ => cases o
    have inl : ∀ {x : L2.V}, (σ.set i (some (.ref p)))[i]? = some (some x) → x = .ref p := fun {x} h => by
      by_cases hl : i < σ.length
      · rw [List.getElem?_set_self hl] at h; cases h; rfl
      · rw [List.getElem?_eq_none (by simpa using hl)] at h; cases h
    by_cases hij : i = j
    · subst hij
      rw [List.getElem?_set_ne hjk] at h4
      rw [List.getElem?_set_ne hjk]
      intro z
      have hw : w = .ref p := by
        by_cases hl : i < σ.length
        · exact inl (show (σ.set i (some (.ref p)))[i]? = some (some w) from hs)
        · exact inl (show (σ.set i (some (.ref p)))[i]? = some (some w) from hs)
      subst hw
      exact other hjk h4 o2 z
    · rw [List.getElem?_set_ne hij] at h3
      intro z
      by_cases hik : i = k
      · subst hik
        have hw := inl z
        subst hw
        have := hs
        rw [List.getElem?_set_ne hij] at this
        exact other hij h3 o1 this
      · rw [List.getElem?_set_ne hik] at h4 z
        have := hs
        rw [List.getElem?_set_ne hij] at this
        exact q.apart j k d1 d2 w hjk h3 h4 o1 o2 this z
  · have := q.keep b u z hb
    rw [L2.upd_ne (ne this)]; exact this
end
end U

/-! V1: enumerate of a tuple. -/
namespace V
open PySem PySem.Spec PyProof.Rows L2

set_option maxHeartbeats 1000000 in
theorem meets_enumB {v : Value} {o : Obj} {H : Heap → Prop} (B : Begins v o H) :
    Meets (Builtin.«enumerate.__new__» ⟨[.type "enumerate", v], []⟩) (fun _ R s => H s.heap ∧
      R (.ok (.ret (.ref (s.heap.push o).objs.size))) { s with heap := (s.heap.push o).push { cls := .type "enumerate", data := .fields #[.none, .bool false, .ref s.heap.objs.size, rawInt 0, .none, .none] } }) :=
  .of_wp fun prog w A R s h => by
    obtain ⟨hp, g, d, tk, os⟩ := s; obtain ⟨h1, h⟩ := h
    have hsub := sub_enumerate
    have q1 : ∀ {A' : Around} {E : Value → Shared → Prop} {Q : Value → Shared → Prop}, Q (.ref hp.objs.size) ⟨hp.push o, g, d, tk, os⟩ → wpAny (model prog w) A' (pyIter v) Q E ⟨hp, g, d, tk, os⟩ :=
      fun q => B.iter prog w _ _ ⟨hp, g, d, tk, os⟩ _ h1 q
    wp_walk using q1
    refine wpAny_stack_any fun st => wpAny_pure ?_
    split
    · rename_i c _ _ _ _ _
      cases (c == Value.type "enumerate")
      · wp_walk using q1
        exact ⟨_, rfl, h⟩
      · wp_walk using q1
        exact ⟨_, rfl, h⟩
    · wp_walk using q1
      exact ⟨_, rfl, h⟩
theorem call_enumB {prog : Program} {w : World} {A : Around} {E : Value → Shared → Prop} {s : Shared} {v : Value} {o : Obj} {H : Heap → Prop} {Q : Value → Shared → Prop} (B : Begins v o H) (h1 : H s.heap)
    (h : ∀ h', IsEnum h' (s.heap.objs.size + 1) s.heap.objs.size 0 .none → h'.get? s.heap.objs.size = some o → h'.objs.size = s.heap.objs.size + 2 →
      (∀ b o, s.heap.get? b = some o → h'.get? b = some o) → Q (.ref (s.heap.objs.size + 1)) { s with heap := h' }) :
    wpAny (model prog w) A (call (.type "enumerate") [v]) Q E s := by
  refine callType_new F.called_enumerate (by decide) (F.typeCall_enumerate_1 _) (F.newCall_enumerate_1 _) (fun obj => F.args_object_init_2 obj _) F.entry_enumerate_new
    (meets_enumB B) ⟨h1, ?_⟩
  have hz : (s.heap.push o).objs.size = s.heap.objs.size + 1 := Heap.size_push ..
  show _ ∧ _
  rw [hz]
  have he : IsEnum ((s.heap.push o).push { cls := .type "enumerate", data := .fields #[.none, .bool false, .ref s.heap.objs.size, rawInt 0, .none, .none] }) (s.heap.objs.size + 1) s.heap.objs.size 0 .none := by
    have := Heap.get?_push_size (s.heap.push o) (o := { cls := .type "enumerate", data := .fields #[.none, .bool false, .ref s.heap.objs.size, rawInt 0, .none, .none] }) rfl
    rw [hz] at this; exact this
  refine ⟨⟨_, he, rfl⟩, h _ he (Heap.get?_push_of_some _ (Heap.get?_push_size _ B.free)) (by rw [Heap.size_push, hz]) fun b o x => Heap.get?_push_of_some _ (Heap.get?_push_of_some _ x)⟩
theorem V_enum_end {prog : Program} {w : World} {A : Around} {E : Value → Shared → Prop} {s : Shared} {e it t : Addr} {i : Nat} {k : Int} {items : Array Value} {old : Value} {Q : Option Value → Shared → Prop} (hh : A.in1.handled = none)
    (he : IsEnum s.heap e it k old) (hit : s.heap.IsTupleIter it t i) (ht : s.heap.IsTuple t items) (hx : items[i]? = none)
    (hQ : ∀ h', Heap.ExtBut it s.heap h' → Q none { s with heap := h' }) : wpAny (model prog w) A (pyNext (.ref e)) Q E s := by
  have hT : s.TypeIs (.ref e) "enumerate" := ⟨_, he, rfl⟩
  unfold pyNext
  refine wpAny_bind (wpAny_attempt (wpAny_callSpecial?_slot (name := Str.ofString "__next__") hT F.slot_enumerate_next
    (wpAny_call_entry F.slot_enumerate_next hT F.entry_enumerate_next ?_ (F.args_enumerate_next_1 _))))
  show wpAny _ _ (field (.ref e) 2 >>= _) _ _ _
  refine wpAny_bind (wpAny_field he rfl (x := .ref it) rfl ?_)
  refine wpAny_bind (wpAny_nextOf_tuple_end hh hit ht hx fun h' x he' hx' => ?_)
  obtain ⟨o, ho, hc⟩ := hx'
  refine wpAny_bind (wpAny_isInstance (T := "StopIteration") (b := true) ⟨o, ho, hc⟩ isSubtype_stop ?_)
  exact wpAny_pure (hQ _ he')
def IteT (K : PySem.W.Frag) (a : Addr) : It :=
  ⟨fun i H => ∃ (xs : List L2.V) (x : L2.V), SqT K H a xs ∧ xs[i]? = some x, fun i H v H' => ∃ T x, v = .ref T ∧ H T = none ∧ H' = upd H T (.tup [.int (i : Nat), x]) ∧ ∀ xs, SqT K H a xs → xs[i]? = some x, fun i H => ∃ xs : List L2.V, SqT K H a xs ∧ xs.length ≤ i⟩
theorem turn_enumT {P : Program} {w : World} {K : PySem.W.Frag} {elts : List Expr} {kk : Nat} {tpos : Pos} (a e it : Addr) :
    Turn P w K (.Tuple elts kk tpos) (IteT K a) [e, it] e (fun i h => (∃ old, IsEnum h e it ((i : Nat) : Int) old) ∧ h.IsTupleIter it a i ∧ e ≠ it ∧ e ≠ a ∧ it ≠ a) where
  mem := by simp
  obj := fun i h st b hb => by
    obtain ⟨⟨old, he⟩, ⟨o, ho, hc, hd⟩, _⟩ := st
    have e' : b = e ∨ b = it := by simpa using hb
    rcases e' with z | z
    · rw [z]; exact ⟨_, he, fun v q => nomatch q⟩
    · rw [z]; exact ⟨o, ho, fun v q => by rw [hd] at q; cases q⟩
  keep := fun i h h' st k => let ⟨⟨old, he⟩, hi, hne⟩ := st; ⟨⟨old, k e (by simp) _ he⟩, hi.at fun o q => k it (by simp) o q, hne⟩
  item := by
    intro X hP hw hK hc i pins s σ H E I hf st hg
    subst hP hw hK
    obtain ⟨⟨old, he⟩, hit, hne, hea, hia⟩ := st
    obtain ⟨xs, x, hq, hx⟩ := hg
    obtain ⟨its, rv, p, hz⟩ := I.tuple hq
    obtain ⟨u, hu, ru⟩ := rv.get hx
    have hel : e < s.heap.objs.size := Heap.lt_size he
    have hil : it < s.heap.objs.size := by obtain ⟨_, q, _⟩ := hit; exact Heap.lt_size q
    have hlt : i < its.toArray.size := by
      have := (List.getElem?_eq_some_iff.mp hu).1
      simpa using this
    have D := Draws.tuple (prog := X.prog) (w := X.w) (A := X.A.in1) (I.ok.hd hc) it a (Ne.symm hia) its.toArray
    refine wpAny_pyNext_enum_itemD D he ⟨hit, p⟩ hlt hne (by simp [hne, hea]) fun u' h' tk hu' ho hit' hT hsz hk => ?_
    have hue : u' = u := by
      have h2 : its.toArray[i]? = some u := by simpa using hu
      rw [h2] at hu'
      exact (Option.some.inj hu').symm
    subst hue
    refine ⟨_, rfl, wpAny_letOwnedTupleGo_enum (s := { s with heap := h', toks := tk + 1 }) ho fun h'' he' sb => ?_⟩
    have hT2 : h''.get? s.heap.objs.size = some { cls := .type "tuple", data := .seq #[.int i tk, u'] } := (sb.2 _ (Nat.ne_of_gt hel)).trans hT
    have new : ObjOk X.prog X.w (upd H s.heap.objs.size (.tup [.int (i : Nat), x])) h'' s.heap.objs.size (.tup [.int (i : Nat), x]) :=
      ⟨by show 2 ≤ sizeLine; decide, [.int i tk, u'], .cons ⟨_, rfl⟩ (.cons ru .nil), ⟨_, hT2, rfl, _, rfl⟩⟩
    have I1 : Inv X pins σ (upd H s.heap.objs.size (.tup [.int (i : Nat), x])) { s with heap := h'', toks := tk + 1 } :=
      I.turnedNew (ch := [e, it]) (fun b ob hb q => (sb.2 b (fun z => hb (by simp [z]))).trans (hk b ob (fun z => hb (by simp [z])) (fun z => hb (by simp [z])) q)) hf (Nat.le_refl _) new
    refine ⟨.ref s.heap.objs.size, _, I1, rfl, ⟨_, x, rfl, I.hok.fresh (Nat.le_refl _), rfl, fun ys hy => by rw [I.tuple_inj hy hq]; exact hx⟩, ⟨⟨u', ?_⟩, hit'.1.at fun o q => (sb.2 it (Ne.symm hne)).trans q, hne, hea, hia⟩, fun b hb => ?_⟩
    · have e1 : ((i + 1 : Nat) : Int) = (i : Int) + 1 := by omega
      rw [e1]; exact he'
    · have hb' : b < s.heap.objs.size := by
        have e' : b = e ∨ b = it := by simpa using hb
        rcases e' with z | z
        · rw [z]; exact hel
        · rw [z]; exact hil
      rw [upd_ne (Nat.ne_of_lt hb')]
      exact (hf b hb).1
  done := by
    intro X hP hw hK hc i pins s σ H E I hf st hg
    subst hP hw hK
    obtain ⟨⟨old, he⟩, hit, hne, hea, hia⟩ := st
    obtain ⟨xs, hq, hx⟩ := hg
    obtain ⟨its, rv, p, hz⟩ := I.tuple hq
    obtain ⟨f0, f1, f2, f3, f4, f5⟩ := hf it (by simp)
    have hl := rv.length
    exact V_enum_end (I.ok.hd hc) he hit p (by simp; omega) fun h' eb => ⟨rfl, I.turned (t' := s.toks) (fun b o hb q => eb b o hb q) f0 f1 f3 f4 f5⟩
  self := fun A i s Q E st h => let ⟨⟨_, he⟩, _⟩ := st; wpAny_pyIter_enum he h
def iEnumA (K : PySem.W.Frag) (ta : TA) : TI := fun σ H R => ta σ H fun vs H1 => ∃ a xs, vs = [.ref a] ∧ ((SqL K H1 a xs ∧ R (Ite K a) H1) ∨ (SqT K H1 a xs ∧ R (IteT K a) H1))
theorem pi_enumA {X : Cx} {e : Expr} {ta : TA} {p pos tpos : Pos} {elts : List Expr} {kk : Nat} (hg : Gl X "enumerate") (hm : X.mg "enumerate" = none) (ha : PA X [e] ta) (hs : starEach [e] X.env = [(false, eval e X.env)] := by rfl) :
    PI X (.Tuple elts kk tpos) (.Call (.Name "enumerate" p) [e] [] pos) (iEnumA X.K ta) := by
  refine ⟨fun pins s σ H R I h => ?_⟩
  refine Call_ (ld_blt I hg hm boot_enumerate (PyProof.Rows.callWith_type1 (thn (ha.run pos pins s σ H _ I h) fun us s1 ⟨vs, H1, I1, r1, q1⟩ => ?_) hs rfl))
  obtain ⟨a, xs, ex, q1⟩ := q1
  subst ex
  cases r1 with
  | cons r rr =>
    cases rr
    cases r
    rcases q1 with ⟨hq, q⟩ | ⟨hq, q⟩
    · obtain ⟨its, rv, p', hz⟩ := I1.list hq
      refine call_enumerate_list p'.isList fun h' he hit hsz hk => wpAny_pyIter_enum he ?_
      have I2 : Inv X pins σ H1 { s1 with heap := h' } := I1.kept (t' := s1.toks) hk
      refine ⟨s1.heap.objs.size + 1, [s1.heap.objs.size + 1, s1.heap.objs.size], _, _, H1, rfl, I2, turn_enum a (s1.heap.objs.size + 1) s1.heap.objs.size, ⟨⟨.none, he⟩, hit, Nat.succ_ne_self _⟩, fun b hb => ?_, q⟩
      have e' : b = s1.heap.objs.size + 1 ∨ b = s1.heap.objs.size := by simpa using hb
      have hle : s1.heap.objs.size ≤ b := by
        rcases e' with z | z
        · rw [z]; exact Nat.le_add_right _ _
        · rw [z]; exact Nat.le_refl _
      exact I1.fpOk hle (I1.hok.fresh hle)
    · obtain ⟨its, rv, p', hz⟩ := I1.tuple hq
      have hal : a < s1.heap.objs.size := by obtain ⟨o, ho, _⟩ := p'; exact Heap.lt_size ho
      refine call_enumB (begins_tuple a its.toArray) p' fun h' he hit hsz hk => wpAny_pyIter_enum he ?_
      have I2 : Inv X pins σ H1 { s1 with heap := h' } := I1.kept (t' := s1.toks) hk
      refine ⟨s1.heap.objs.size + 1, [s1.heap.objs.size + 1, s1.heap.objs.size], _, _, H1, rfl, I2, turn_enumT a (s1.heap.objs.size + 1) s1.heap.objs.size, ⟨⟨.none, he⟩, ⟨_, hit, rfl, rfl⟩, Nat.succ_ne_self _, Nat.ne_of_gt (Nat.lt_succ_of_lt hal), Nat.ne_of_gt hal⟩, fun b hb => ?_, q⟩
      have e' : b = s1.heap.objs.size + 1 ∨ b = s1.heap.objs.size := by simpa using hb
      have hle : s1.heap.objs.size ≤ b := by
        rcases e' with z | z
        · rw [z]; exact Nat.le_add_right _ _
        · rw [z]; exact Nat.le_refl _
      exact I1.fpOk hle (I1.hok.fresh hle)
end V

/-! U8: statements, targets, what is walked, for. -/
namespace U
open PySem PySem.Spec PyProof.Rows

/-! ### statements -/
inductive RS where
  | bad
  | nx (s : S) | rt (d : D) (s : S) | bk (s : S) | ct (s : S)
  | exc (x : D) (s : S)
abbrev MS := S → RS
def RunS (c : Cy) (F : L2.Hp) (ρ : List Addr) (r : RS) (D : L2.Ends) : Prop :=
  match r with
  | .bad => False
  | .nx s => ∀ σ' H' F' ρ', Le F F' → ρ <+: ρ' → SR c.T c.e F' ρ' s σ' H' → D.nx σ' H'
  | .rt d s => ∀ v σ' H' F' ρ', Le F F' → ρ <+: ρ' → SR c.T c.e F' ρ' s σ' H' → Rep c.T F' ρ' v d → D.rt v H'
  | .bk s => ∀ σ' H' F' ρ', Le F F' → ρ <+: ρ' → SR c.T c.e F' ρ' s σ' H' → D.bk σ' H'
  | .ct s => ∀ σ' H' F' ρ', Le F F' → ρ <+: ρ' → SR c.T c.e F' ρ' s σ' H' → D.ct σ' H'
  | .exc x s => ∀ cls dd σ' H' F' ρ', Le F F' → ρ <+: ρ' → SR c.T c.e F' ρ' s σ' H' → XR c.T F' ρ' H' cls dd x → c.W cls dd σ' H'
theorem RunS.mono {c : Cy} {F F1 : L2.Hp} {ρ ρ1 : List Addr} {r : RS} {D : L2.Ends} (l : Le F F1) (p : ρ <+: ρ1) (h : RunS c F ρ r D) : RunS c F1 ρ1 r D := by
  cases r with
  | bad => exact h
  | nx s => exact fun σ' H' F' ρ' l' p' q => h σ' H' F' ρ' (l.trans l') (p.trans p') q
  | rt d s => exact fun v σ' H' F' ρ' l' p' q z => h v σ' H' F' ρ' (l.trans l') (p.trans p') q z
  | bk s => exact fun σ' H' F' ρ' l' p' q => h σ' H' F' ρ' (l.trans l') (p.trans p') q
  | ct s => exact fun σ' H' F' ρ' l' p' q => h σ' H' F' ρ' (l.trans l') (p.trans p') q
  | exc x s => exact fun cls dd σ' H' F' ρ' l' p' q z => h cls dd σ' H' F' ρ' (l.trans l') (p.trans p') q z
/-- the reading of a statement -/
def tS (c : Cy) (m : MS) : L2.TS := fun D σ H => ∃ F ρ s, SR c.T c.e F ρ s σ H ∧ RunS c F ρ (m s) D
theorem s_bad {X : L2.Cx} {c : Cy} {st : Stmt} : L2.PS X st (tS c fun _ => .bad) := ⟨fun _ _ _ _ _ _ h => by obtain ⟨_, _, _, _, r⟩ := h; exact r.elim⟩
def sSeq : List MS → MS
  | [], s => .nx s
  | m :: r, s => match m s with
    | .nx s' => sSeq r s'
    | x => x
theorem RunS.seq {c : Cy} {F : L2.Hp} {ρ : List Addr} {m : MS} {r : List MS} {s : S} {D : L2.Ends} (h : RunS c F ρ (sSeq (m :: r) s) D) : RunS c F ρ (m s) { D with nx := tS c (sSeq r) D } := by
  unfold sSeq at h
  cases e : m s with
  | nx s' =>
    rw [e] at h
    exact fun σ' H' F' ρ' l p q => ⟨F', ρ', s', q, RunS.mono l p h⟩
  | _ => rw [e] at h; exact h
theorem s_seq {X : L2.Cx} {c : Cy} {f : Stmt → MS} : ∀ {sts : List Stmt}, (∀ st ∈ sts, L2.PS X st (tS c (f st))) → L2.PSs X sts (tS c (sSeq (sts.map f)))
  | [], _ => pss_imp L2.pss_nil fun D σ H ⟨F, ρ, s, q, h⟩ => h σ H F ρ (Le.refl F) (List.prefix_refl ρ) q
  | st :: r, h => pss_imp (L2.pss_cons (h st List.mem_cons_self) (s_seq fun st' hst => h st' (List.mem_cons_of_mem _ hst))) fun D σ H ⟨F, ρ, s, q, hh⟩ => ⟨F, ρ, s, q, RunS.seq hh⟩
/-- behind an expression -/
def sB {α : Type} (m : M α) (f : α → MS) : MS := fun s => match m s with
  | .bad => .bad
  | .ok a s' => f a s'
  | .exc x s' => .exc x s'
theorem RunS.bind {α β : Type} {c : Cy} {Rp : RP α β} {F : L2.Hp} {ρ : List Addr} {m : M α} {f : α → MS} {s : S} {σ : L2.St} {D : L2.Ends} (h : RunS c F ρ (sB m f s) D) :
    Run c Rp F ρ (m s) σ fun b H1 => ∃ F1 ρ1 s1 a, Le F F1 ∧ ρ <+: ρ1 ∧ SR c.T c.e F1 ρ1 s1 σ H1 ∧ Rp c F1 ρ1 b a ∧ RunS c F1 ρ1 (f a s1) D := by
  unfold sB at h
  cases e : m s with
  | bad => rw [e] at h; exact h
  | ok a s1 =>
    rw [e] at h
    exact fun b H1 F1 ρ1 l p q z => ⟨F1, ρ1, s1, a, l, p, q, z, RunS.mono l p h⟩
  | exc x s1 =>
    rw [e] at h
    exact fun cls dd H' F' ρ' l p q z => h cls dd σ H' F' ρ' l p q z
theorem tS_bind {α β : Type} {c : Cy} {Rp : RP α β} {m : M α} {f : α → MS} {σ : L2.St} {H : L2.Hp} {D : L2.Ends} {Q : β → L2.Hp → Prop} (h : tS c (sB m f) D σ H)
    (i : ∀ b H1 F1 ρ1 s1 a, SR c.T c.e F1 ρ1 s1 σ H1 → Rp c F1 ρ1 b a → RunS c F1 ρ1 (f a s1) D → Q b H1) : tG c Rp m σ H Q := by
  obtain ⟨F, ρ, s, q, h⟩ := h
  exact ⟨F, ρ, s, q, Run.imp (RunS.bind h) fun b H1 ⟨F1, ρ1, s1, a, _, _, q1, z, hh⟩ => i b H1 F1 ρ1 s1 a q1 z hh⟩
theorem RunS.done {c : Cy} {F : L2.Hp} {ρ : List Addr} {s : S} {D : L2.Ends} {σ : L2.St} {H : L2.Hp} (h : RunS c F ρ (.nx s) D) (q : SR c.T c.e F ρ s σ H) : D.nx σ H := h σ H F ρ (Le.refl F) (List.prefix_refl ρ) q
section
variable {X : L2.Cx} {c : Cy} {pos : Pos}
theorem s_pass : L2.PS X (.Pass pos) (tS c .nx) := ps_imp L2.ps_pass fun D σ H ⟨F, ρ, s, q, h⟩ => h.done q
theorem s_break : L2.PS X (.Break pos) (tS c .bk) := ps_imp L2.ps_break fun D σ H ⟨F, ρ, s, q, h⟩ => h σ H F ρ (Le.refl F) (List.prefix_refl ρ) q
theorem s_cont : L2.PS X (.Continue pos) (tS c .ct) := ps_imp L2.ps_continue fun D σ H ⟨F, ρ, s, q, h⟩ => h σ H F ρ (Le.refl F) (List.prefix_refl ρ) q
theorem s_doc {x : Str} {k : Nat} {p : Pos} : L2.PS X (.Expr (.Constant (.str x) k p) pos) (tS c .nx) := ps_imp L2.ps_doc fun D σ H ⟨F, ρ, s, q, h⟩ => h.done q
theorem s_ret {e : Expr} {m : M D} (he : L2.PE X e (tG c rpD m)) : L2.PS X (.Return (some e) pos) (tS c (sB m .rt)) :=
  ps_imp (L2.ps_ret he) fun D σ H h => tS_bind h fun v H1 F ρ s d q z hh => hh v σ H1 F ρ (Le.refl F) (List.prefix_refl ρ) q z
theorem s_retN : L2.PS X (.Return none pos) (tS c (.rt .non)) := ps_imp L2.ps_retN fun D σ H ⟨F, ρ, s, q, h⟩ => h .non σ H F ρ (Le.refl F) (List.prefix_refl ρ) q .non
/-- no comprehension -/
def notComp : Expr → Bool
  | .ListComp _ _ _ _ => false
  | .SetComp _ _ _ _ => false
  | .DictComp _ _ _ _ _ => false
  | _ => true
theorem swaps_no {e : Expr} (h : notComp e = true) (t : Option Expr) (l : Nat) (env : Env) : swapsWith e t l env = pure false := by
  cases e <;> first | rfl | cases h
theorem s_expr {e : Expr} {m : M D} (he : L2.PE X e (tG c rpD m)) (hn : notComp e = true) : L2.PS X (.Expr e pos) (tS c (sB m fun _ => .nx)) :=
  ps_imp (L2.ps_expr he (swaps_no hn _ _ _)) fun D σ H h => tS_bind h fun v H1 F ρ s d q z hh => hh.done q
def sIte (t : M Bool) (a b : MS) : MS := sB t fun k => if k then a else b
theorem s_if {t : Expr} {a b : List Stmt} {mt : M Bool} {ma mb : MS} (ht : L2.PT X t (tG c rpB mt)) (ha : L2.PSs X a (tS c ma)) (hb : L2.PSs X b (tS c mb)) : L2.PS X (.If t a b pos) (tS c (sIte mt ma mb)) :=
  ps_imp (L2.ps_if ht ha hb) fun D σ H h => tS_bind h fun k H1 F ρ s k' q z hh => by
    cases z
    cases k
    · exact ⟨F, ρ, s, q, hh⟩
    · exact ⟨F, ρ, s, q, hh⟩
end

/-! ### targets -/
def setSlot (i : Nat) (d : D) : M Unit := fun s => .ok () { s with sl := s.sl.set i (some d) }
def setSlots : List Nat → List D → M Unit
  | [], [] => mPure ()
  | i :: is, d :: ds => mBind (setSlot i d) fun _ => setSlots is ds
  | _, _ => mBad
/-- a name, several names -/
inductive Tg where
  | nm (i : Nat)
  | tp (is : List Nat)
def asgT : Tg → D → M Unit
  | .nm i, d => setSlot i d
  | .tp is, .tup ds => setSlots is ds
  | _, _ => mBad
/-- the same but for the slots is -/
def Off (is : List Nat) (σ σ' : L2.St) : Prop := σ'.length = σ.length ∧ ∀ j, j ∉ is → σ'[j]? = σ[j]?
theorem Off.refl (is : List Nat) (σ : L2.St) : Off is σ σ := ⟨rfl, fun _ _ => rfl⟩
theorem Off.trans {is : List Nat} {σ σ' σ'' : L2.St} (a : Off is σ σ') (b : Off is σ' σ'') : Off is σ σ'' := ⟨b.1.trans a.1, fun j h => (b.2 j h).trans (a.2 j h)⟩
theorem Off.sub {is js : List Nat} {σ σ' : L2.St} (a : Off is σ σ') (h : ∀ i ∈ is, i ∈ js) : Off js σ σ' := ⟨a.1, fun j hj => a.2 j fun z => hj (h j z)⟩
theorem Off.set (i : Nat) (σ : L2.St) (o : Option L2.V) : Off [i] σ (σ.set i o) := ⟨List.length_set, fun j hj => List.getElem?_set_ne fun z => hj (by rw [z]; exact List.mem_singleton_self j)⟩
/-- behind a target -/
def TgE (c : Cy) (is : List Nat) (σ : L2.St) (F : L2.Hp) (ρ : List Addr) (r : R Unit) (Q : L2.St → L2.Hp → Prop) : Prop := match r with
  | .ok _ s' => ∀ σ' H' F' ρ', Off is σ σ' → Le F F' → ρ <+: ρ' → SR c.T c.e F' ρ' s' σ' H' → Q σ' H'
  | _ => False
theorem TgE.mono {c : Cy} {is : List Nat} {σ : L2.St} {F F1 : L2.Hp} {ρ ρ1 : List Addr} {r : R Unit} {Q : L2.St → L2.Hp → Prop} (l : Le F F1) (p : ρ <+: ρ1) (h : TgE c is σ F ρ r Q) : TgE c is σ F1 ρ1 r Q := by
  cases r with
  | ok u s' => exact fun σ' H' F' ρ' o l' p' q => h σ' H' F' ρ' o (l.trans l') (p.trans p') q
  | _ => exact h
theorem TgE.off {c : Cy} {is js : List Nat} {σ σ1 : L2.St} {F : L2.Hp} {ρ : List Addr} {r : R Unit} {Q : L2.St → L2.Hp → Prop} (h : TgE c is σ F ρ r Q) (o : Off is σ σ1) (sub : ∀ i ∈ js, i ∈ is) : TgE c js σ1 F ρ r Q := by
  cases r with
  | ok u s' => exact fun σ' H' F' ρ' o' l' p' q => h σ' H' F' ρ' (o.trans (o'.sub sub)) l' p' q
  | _ => exact h
def Tg.slots : Tg → List Nat
  | .nm i => [i]
  | .tp is => is
/-- the reading of a target -/
def tT (c : Cy) (is : List Nat) (g : D → M Unit) : L2.TG := fun v σ H Q => ∃ F ρ s d, SR c.T c.e F ρ s σ H ∧ Rep c.T F ρ v d ∧ TgE c is σ F ρ (g d s) Q
def tTs (c : Cy) (is : List Nat) (g : List D → M Unit) : L2.TGs := fun v σ H Q => ∃ F ρ s d, SR c.T c.e F ρ s σ H ∧ RepL c.T F ρ v d ∧ TgE c is σ F ρ (g d s) Q
theorem pg_imp {X : L2.Cx} {e : Expr} {t t' : L2.TG} (h : L2.PG X e t) (i : ∀ v σ H Q, t' v σ H Q → t v σ H Q) : L2.PG X e t' :=
  ⟨fun pins s σ H v u Q I r q => h.run pins s σ H v u Q I r (i v σ H Q q)⟩
theorem pgs_imp {X : L2.Cx} {e : List Expr} {t t' : L2.TGs} (h : L2.PGs X e t) (i : ∀ v σ H Q, t' v σ H Q → t v σ H Q) : L2.PGs X e t' :=
  ⟨fun pins s σ H v u Q I r q => h.run pins s σ H v u Q I r (i v σ H Q q)⟩
section
variable {X : L2.Cx} {c : Cy} {pos : Pos}
/-- names with their slots -/
structure NmOk (X : L2.Cx) (x : Str) (i : Nat) : Prop where
  nd : X.N.Nodup
  at_ : X.N[i]? = some x
  loc : L2.Loc X.env.scope x
  fn : X.fn x = true ∨ X.env.scope.names.lookup x = some .local
theorem g_name {x : Str} {i : Nat} (h : NmOk X x i) : L2.PG X (.Name x pos) (tT c [i] (setSlot i)) :=
  pg_imp (L2.pg_name h.nd h.at_ h.loc h.fn) fun v σ H Q ⟨F, ρ, s, d, q, r, hh⟩ => hh _ H F ρ (Off.set i σ _) (Le.refl F) (List.prefix_refl ρ) (q.put r i)
theorem gs_names : ∀ {es : List Expr} {is : List Nat}, (∀ (e : Expr), e ∈ es → ∃ x p, e = .Name x p) → es.length = is.length → (∀ (j : Nat) (x : Str) (p : Pos) (i : Nat), es[j]? = some (.Name x p) → is[j]? = some i → NmOk X x i) → L2.PGs X es (tTs c is (setSlots is))
  | [], [], _, _, _ => pgs_imp L2.pgs_nil fun vs σ H Q ⟨F, ρ, s, d, q, r, hh⟩ => by
    cases r with
    | nil => exact ⟨rfl, hh σ H F ρ (Off.refl _ _) (Le.refl F) (List.prefix_refl ρ) q⟩
    | cons a b => exact hh.elim
  | e :: es, i :: is, hn, hl, h => by
    obtain ⟨x, p, rfl⟩ := hn e List.mem_cons_self
    have ih := gs_names (es := es) (is := is) (fun e' he => hn e' (List.mem_cons_of_mem _ he)) (by simpa using hl) fun j y p' k h1 h2 => h (j + 1) y p' k (by simpa using h1) (by simpa using h2)
    refine pgs_imp (L2.pgs_cons (g_name (c := c) (h 0 x p i rfl rfl)) ih rfl) fun vs σ H Q ⟨F, ρ, s, d, q, r, hh⟩ => ?_
    cases r with
    | nil => exact hh.elim
    | @cons v0 vs0 d0 ds0 a b => exact ⟨v0, vs0, rfl, F, ρ, s, d0, q, a, fun σ' H' F' ρ' o l p q' => ⟨F', ρ', _, ds0, q', b.mono l p, (TgE.mono l p hh).off (o.sub fun j hj => by rw [List.mem_singleton.mp hj]; exact List.mem_cons_self) fun j hj => List.mem_cons_of_mem _ hj⟩⟩
  | [], _ :: _, _, hl, _ => by cases hl
  | _ :: _, [], _, hl, _ => by cases hl
theorem assignEach_names {env : Env} : ∀ {es : List Expr}, (∀ (e : Expr), e ∈ es → ∃ x p, e = .Name x p) → (assignEach es env).length = es.length ∧ (assignEach es env).findIdx? (·.1) = none
  | [], _ => ⟨rfl, rfl⟩
  | e :: es, h => by
    obtain ⟨x, p, rfl⟩ := h e List.mem_cons_self
    obtain ⟨h1, h2⟩ := assignEach_names (env := env) (es := es) fun e' he => h e' (List.mem_cons_of_mem _ he)
    refine ⟨by show (assignEach es env).length + 1 = _; rw [h1]; rfl, ?_⟩
    show ((false, assign (.Name x p) env) :: assignEach es env).findIdx? (·.1) = none
    rw [List.findIdx?_cons, h2]; rfl
theorem setSlots_len : ∀ {is : List Nat} {ds : List D} {s s' : S}, setSlots is ds s = .ok () s' → ds.length = is.length
  | [], [], _, _, _ => rfl
  | i :: is, d :: ds, s, s', h => by
    rw [List.length_cons, List.length_cons, setSlots_len (is := is) (ds := ds) (s := { s with sl := s.sl.set i (some d) }) h]
  | [], _ :: _, _, _, h => by cases h
  | _ :: _, [], _, _, h => by cases h
theorem g_tup {es : List Expr} {is : List Nat} {k : Nat} (hc : X.calm = true) (hT : c.T.K = X.K) (hn : ∀ (e : Expr), e ∈ es → ∃ x p, e = .Name x p) (hl : es.length = is.length)
    (h : ∀ (j : Nat) (x : Str) (p : Pos) (i : Nat), es[j]? = some (.Name x p) → is[j]? = some i → NmOk X x i) : L2.PG X (.Tuple es k pos) (tT c is (asgT (.tp is))) := by
  obtain ⟨h1, h2⟩ := assignEach_names (env := X.env) hn
  refine pg_imp (L2.pg_tup hc (gs_names (c := c) hn hl h) h1 h2) fun v σ H Q ⟨F, ρ, s, d, q, r, hh⟩ => ?_
  cases d with
  | tup ds =>
    obtain ⟨a, vs, rfl, k1, k2⟩ := q.asT r
    rw [hT] at k1
    have hh : TgE c is σ F ρ (setSlots is ds s) Q := hh
    refine ⟨a, vs, rfl, k1, ?_, F, ρ, s, ds, q, k2, hh⟩
    cases e : setSlots is ds s with
    | ok u s' => rw [k2.length, setSlots_len e, hl]
    | _ => rw [e] at hh; exact hh.elim
  | _ => exact hh.elim
end

/-! ### what is walked -/
structure ItOk (c : Cy) (F0 : L2.Hp) (ρ0 : List Addr) (J : L2.It) (items : List D) : Prop where
  go : ∀ e F ρ s σ H i, Le F0 F → ρ0 <+: ρ → SR c.T e F ρ s σ H → i < items.length → J.go i H
  stop : ∀ e F ρ s σ H, Le F0 F → ρ0 <+: ρ → SR c.T e F ρ s σ H → J.stop items.length H
  yld : ∀ e F ρ s σ H i v H', Le F0 F → ρ0 <+: ρ → SR c.T e F ρ s σ H → i < items.length → J.yld i H v H' → ∃ d F', items[i]? = some d ∧ Le F F' ∧ SR c.T e F' ρ s σ H' ∧ Rep c.T F' ρ v d
def rpI : RP (List D) L2.It := fun c F ρ J items => ItOk c F ρ J items
theorem ItOk.same {c : Cy} {F0 : L2.Hp} {ρ0 : List Addr} {J : L2.It} {items : List D} {G : L2.Hp → Prop} {Y : Nat → L2.V → Prop} (w : L2.Walk J items.length G fun i H v H' => H' = H ∧ Y i v)
    (hG : ∀ e F ρ s σ H, Le F0 F → ρ0 <+: ρ → SR c.T e F ρ s σ H → G H) (hY : ∀ i v F ρ, Le F0 F → ρ0 <+: ρ → i < items.length → Y i v → ∃ d, items[i]? = some d ∧ Rep c.T F ρ v d) : ItOk c F0 ρ0 J items :=
  ⟨fun e F ρ s σ H i l p q hi => w.goes i H hi (hG e F ρ s σ H l p q), fun e F ρ s σ H l p q => w.stops H (hG e F ρ s σ H l p q), fun e F ρ s σ H i v H' l p q hi y => by
    obtain ⟨rfl, y2⟩ := w.yields i H v H' hi (hG e F ρ s σ H l p q) y
    obtain ⟨d, h1, h2⟩ := hY i v F ρ l p hi y2
    exact ⟨d, F, h1, Le.refl F, q, h2⟩⟩
/-- new pairs -/
theorem ItOk.pair {c : Cy} {F0 : L2.Hp} {ρ0 : List Addr} {J : L2.It} {items : List D} {G : L2.Hp → Prop} {xs ys : Nat → Option L2.V} (w : L2.Walk J items.length G (L2.YPair xs ys))
    (hG : ∀ e F ρ s σ H, Le F0 F → ρ0 <+: ρ → SR c.T e F ρ s σ H → G H) (hY : ∀ i x y F ρ, Le F0 F → ρ0 <+: ρ → xs i = some x → ys i = some y → ∃ d d', items[i]? = some (.tup [d, d']) ∧ Rep c.T F ρ x d ∧ Rep c.T F ρ y d') : ItOk c F0 ρ0 J items :=
  ⟨fun e F ρ s σ H i l p q hi => w.goes i H hi (hG e F ρ s σ H l p q), fun e F ρ s σ H l p q => w.stops H (hG e F ρ s σ H l p q), fun e F ρ s σ H i v H' l p q hi yy => by
    obtain ⟨T, x, y, rfl, h1, rfl, h2, h3⟩ := w.yields i H v H' hi (hG e F ρ s σ H l p q) yy
    obtain ⟨d, d', k1, k2, k3⟩ := hY i x y F ρ l p h2 h3
    have l2 : Le F (L2.upd F T (.tup [x, y])) := Le.upd (q.fnone h1)
    exact ⟨_, _, k1, l2, q.alloc h1, .tup (.inl L2.upd_same) (.cons (k2.mono l2 (List.prefix_refl ρ)) (.cons (k3.mono l2 (List.prefix_refl ρ)) .nil))⟩⟩
theorem pi_imp {X : L2.Cx} {tg e : Expr} {t t' : L2.TI} (h : L2.PI X tg e t) (i : ∀ σ H Q, t' σ H Q → t σ H Q) : L2.PI X tg e t' :=
  ⟨fun pins s σ H Q I q => h.run pins s σ H Q I (i σ H Q q)⟩
theorem pi_cases {X : L2.Cx} {tg e : Expr} {t : L2.TI} (h : ∀ σ H R, t σ H R → ∃ t', L2.PI X tg e t' ∧ t' σ H R) : L2.PI X tg e t := ⟨fun pins s σ H R I q => by
  obtain ⟨t', h1, h2⟩ := h σ H R q
  exact h1.run pins s σ H R I h2⟩
def signs (z : List Nat) : List D := z.map fun k => .str [k]
def itemsD : D → M (List D)
  | .lst xs => mPure xs
  | .tup xs => mPure xs
  | .str z => mPure (signs z)
  | _ => mBad
section
variable {X : L2.Cx} {c : Cy} {pos : Pos} {tg : Expr}
theorem i_seq {e : Expr} {m : M D} (hT : c.T.K = X.K) (h : L2.PE X e (tG c rpD m)) : L2.PI X tg e (tG c rpI (mBind m itemsD)) := pi_cases fun σ H R hq => by
  obtain ⟨F, ρ, s, q, hq⟩ := hq
  -- what the expression gives
  have hq := Run.bind (Rp := rpD) hq
  cases e1 : m s with
  | bad => rw [e1] at hq; exact hq.elim
  | exc x s' =>
    rw [e1] at hq
    exact ⟨_, L2.pi_list h, F, ρ, s, q, by rw [e1]; exact hq⟩
  | ok d s' =>
    rw [e1] at hq
    -- by its kind
    have end_ : ∀ {P : L2.V → L2.Hp → Prop}, (∀ v H1 F1 ρ1, Le F F1 → ρ <+: ρ1 → SR c.T c.e F1 ρ1 s' σ H1 → Rep c.T F1 ρ1 v d → Run c rpI F1 ρ1 (itemsD d s') σ R → P v H1) → tG c rpD m σ H P := fun {P} hp => ⟨F, ρ, s, q, by
      rw [e1]
      intro v H1 F1 ρ1 l p q1 z
      refine hp v H1 F1 ρ1 l p q1 z ?_
      have e2 : mBind m itemsD s = itemsD d s' := by unfold mBind; rw [e1]
      have := ‹Run c rpI F ρ (mBind m itemsD s) σ R›
      rw [e2] at this
      exact Run.mono l p this⟩
    cases d with
    | lst xs =>
      refine ⟨_, L2.pi_list h, end_ fun v H1 F1 ρ1 l p q1 z hh => ?_⟩
      cases z with
      | @lst a vs _ h1 h2 =>
        refine ⟨a, rfl, ⟨vs, L2.SqL.of (q1.hr.sub _ _ h1)⟩, Run.done hh q1 ?_⟩
        refine ItOk.same (G := fun H => L2.SqL X.K H a vs) (Y := fun i v => vs[i]? = some v) (h2.length ▸ L2.walk_list) (fun e F2 ρ2 s2 σ2 H2 l2 p2 q2 => L2.SqL.of (q2.hr.sub _ _ (l2 _ _ h1))) fun i v F2 ρ2 l2 p2 hi hv => ?_
        exact (h2.mono l2 p2).getV hv
    | tup xs =>
      refine ⟨_, L2.pi_tup h, end_ fun v H1 F1 ρ1 l p q1 z hh => ?_⟩
      cases z with
      | @tup a vs _ h1 h2 =>
        rw [hT] at h1
        refine ⟨a, rfl, ⟨vs, q1.hr.sub.sqT h1.sq⟩, Run.done hh q1 ?_⟩
        refine ItOk.same (G := fun H => L2.SqT X.K H a vs) (Y := fun i v => vs[i]? = some v) (h2.length ▸ L2.walk_tup) (fun e F2 ρ2 s2 σ2 H2 l2 p2 q2 => q2.hr.sub.sqT (l2.sqT h1.sq)) fun i v F2 ρ2 l2 p2 hi hv => ?_
        exact (h2.mono l2 p2).getV hv
    | str z =>
      refine ⟨_, L2.pi_str h, end_ fun v H1 F1 ρ1 l p q1 r hh => ?_⟩
      cases r
      refine ⟨_, rfl, Run.done hh q1 ?_⟩
      have hz : (signs z).length = (stS z).cps.size := by
        show (z.map _).length = z.toArray.size
        simp
      refine ItOk.same (G := fun _ => True) (Y := fun i v => ∃ k, (stS z).cps[i]? = some k ∧ v = .str ⟨#[k]⟩) (hz ▸ L2.walk_str) (fun _ _ _ _ _ _ _ _ _ => True.intro) fun i v F2 ρ2 l2 p2 hi hv => ?_
      obtain ⟨k, h1, rfl⟩ := hv
      refine ⟨.str [k], ?_, Rep.str [k]⟩
      have h1 : z.toArray[i]? = some k := h1
      show (z.map fun k => D.str [k])[i]? = some (.str [k])
      rw [List.getElem?_map]
      rw [show z[i]? = some k by simpa using h1]
      rfl
    | _ =>
      exfalso
      have e2 : mBind m itemsD s = .bad := by unfold mBind; rw [e1]; rfl
      have := ‹Run c rpI F ρ (mBind m itemsD s) σ R›
      rw [e2] at this
      exact this
def in62 (i : Int) : Bool := decide (-(2 ^ 62) ≤ i) && decide (i < 2 ^ 62)
theorem in62_ok {i : Int} (h : in62 i = true) : -(2 ^ 62) ≤ i ∧ i < 2 ^ 62 := by
  unfold in62 at h
  rw [Bool.and_eq_true, decide_eq_true_eq, decide_eq_true_eq] at h
  exact h
def rangeL (lo : Int) (n : Nat) : List D := (List.range n).map fun (k : Nat) => .int (lo + (k : Int))
def range1D (ds : List D) : M (List D) := match ds with
  | [.int j] => if in62 j = true then mPure (rangeL 0 j.toNat) else mBad
  | _ => mBad
def range2D (ds : List D) : M (List D) := match ds with
  | [.int i, .int j] => if (in62 i && in62 j) = true then mPure (rangeL i (j - i).toNat) else mBad
  | _ => mBad
theorem rangeL_it {F : L2.Hp} {ρ : List Addr} {lo : Int} {n : Nat} : ItOk c F ρ (L2.Itr lo n) (rangeL lo n) := by
  have hl : (rangeL lo n).length = n := by unfold rangeL; rw [List.length_map, List.length_range]
  refine ItOk.same (G := fun _ => True) (Y := fun i v => v = .int (lo + i)) (hl.symm ▸ L2.walk_range) (fun _ _ _ _ _ _ _ _ _ => True.intro) fun i v F2 ρ2 l2 p2 hi hv => ?_
  subst hv
  refine ⟨.int (lo + i), ?_, .int _⟩
  rw [hl] at hi
  unfold rangeL
  rw [List.getElem?_map, List.getElem?_range hi]
  rfl
theorem i_range1 {a : Expr} {m : M (List D)} {p : Pos} (hg : L2.Gl X "range") (hm : X.mg "range" = none) (hs : notStar a = true) (ha : L2.PA X [a] (tG c rpL m)) : L2.PI X tg (.Call (.Name "range" p) [a] [] pos) (tG c rpI (mBind m range1D)) :=
  pi_imp (L2.pi_range1 hg hm ha (starEach_cons hs [] _)) fun σ H R hq => by
    refine tG_map hq fun vs H1 F ρ s ds q z hh => ?_
    unfold range1D at hh
    split at hh
    · obtain ⟨v, rfl, zz⟩ := RepL.one z
      cases zz
      obtain ⟨g, hh⟩ := hh.guard
      exact ⟨_, rfl, (in62_ok g).1, (in62_ok g).2, Run.done hh q rangeL_it⟩
    · exact hh.elim
theorem i_range2 {a b : Expr} {m : M (List D)} {p : Pos} (hg : L2.Gl X "range") (hm : X.mg "range" = none) (hs : notStar a = true) (hs' : notStar b = true) (ha : L2.PA X [a, b] (tG c rpL m)) : L2.PI X tg (.Call (.Name "range" p) [a, b] [] pos) (tG c rpI (mBind m range2D)) :=
  pi_imp (L2.pi_range2 hg hm ha (by rw [starEach_cons hs, starEach_cons hs']; rfl) (starEach_cons hs' [] _)) fun σ H R hq => by
    refine tG_map hq fun vs H1 F ρ s ds q z hh => ?_
    unfold range2D at hh
    split at hh
    · obtain ⟨v, w, rfl, zz, zz'⟩ := RepL.two z
      cases zz; cases zz'
      obtain ⟨g, hh⟩ := hh.guard
      rw [Bool.and_eq_true] at g
      exact ⟨_, _, rfl, ⟨(in62_ok g.1).1, (in62_ok g.1).2, (in62_ok g.2).1, (in62_ok g.2).2⟩, Run.done hh q rangeL_it⟩
    · exact hh.elim
/-- enumerate, zip: to a target of several names -/
def enumL (xs : List D) : List D := (List.range xs.length).map fun (i : Nat) => .tup [.int (i : Int), xs.getD i .non]
theorem enumL_len (xs : List D) : (enumL xs).length = xs.length := by unfold enumL; rw [List.length_map, List.length_range]
theorem enumL_get {xs : List D} {i : Nat} {d : D} (h : xs[i]? = some d) : (enumL xs)[i]? = some (.tup [.int (i : Int), d]) := by
  have hi := (List.getElem?_eq_some_iff.mp h).1
  unfold enumL
  rw [List.getElem?_map, List.getElem?_range hi]
  show some (D.tup [.int (i : Int), xs.getD i .non]) = _
  rw [List.getD_eq_getElem?_getD, h]; rfl
def enumD (ds : List D) : M (List D) := match ds with
  | [.lst xs] => mPure (enumL xs)
  | [.tup xs] => mPure (enumL xs)
  | _ => mBad
theorem walk_enumT {K : PySem.W.Frag} {a : Addr} {xs : List L2.V} : L2.Walk (V.IteT K a) xs.length (fun H => L2.SqT K H a xs) (L2.YPair (fun i => some (.int (i : Int))) (fun i => xs[i]?)) := by
  refine ⟨fun i _ hi q => ?_, fun _ q => ⟨xs, q, Nat.le_refl _⟩, fun i H v H' _ q y => ?_⟩
  · exact ⟨xs, xs[i], q, by simp [hi]⟩
  · obtain ⟨T, x, h1, h2, h3, h4⟩ := y
    exact ⟨T, _, x, h1, h2, h3, rfl, h4 xs q⟩
theorem i_enum {e : Expr} {m : M (List D)} {p tpos : Pos} {elts : List Expr} {kk : Nat} (hT : c.T.K = X.K) (hg : L2.Gl X "enumerate") (hm : X.mg "enumerate" = none) (hs : notStar e = true) (ha : L2.PA X [e] (tG c rpL m)) :
    L2.PI X (.Tuple elts kk tpos) (.Call (.Name "enumerate" p) [e] [] pos) (tG c rpI (mBind m enumD)) :=
  pi_imp (V.pi_enumA hg hm ha (starEach_cons hs [] _)) fun σ H R hq => by
    refine tG_map hq fun vs H1 F ρ s ds q z hh => ?_
    unfold enumD at hh
    split at hh
    · rename_i xs
      obtain ⟨v, rfl, zz⟩ := RepL.one z
      cases zz with
      | @lst a vs _ h1 h2 =>
        refine ⟨a, vs, rfl, .inl ⟨L2.SqL.of (q.hr.sub _ _ h1), Run.done hh q ?_⟩⟩
        have hl : (enumL xs).length = vs.length := by rw [enumL_len, h2.length]
        refine ItOk.pair (G := fun H => L2.SqL X.K H a vs) (hl ▸ L2.walk_enum) (fun e F2 ρ2 s2 σ2 H2 l2 p2 q2 => L2.SqL.of (q2.hr.sub _ _ (l2 _ _ h1))) fun i x y F2 ρ2 l2 p2 hx hy => ?_
        cases hx
        obtain ⟨d, k1, k2⟩ := (h2.mono l2 p2).getV hy
        exact ⟨.int (i : Int), d, enumL_get k1, .int _, k2⟩
    · rename_i xs
      obtain ⟨v, rfl, zz⟩ := RepL.one z
      cases zz with
      | @tup a vs _ h1 h2 =>
        rw [hT] at h1
        have up : ∀ {F2 H2 : L2.Hp}, Le F F2 → Le F2 H2 → L2.SqT X.K H2 a vs := fun l l' => ((l'.tupAt (l.tupAt h1))).sq
        refine ⟨a, vs, rfl, .inr ⟨up (Le.refl _) q.hr.sub, Run.done hh q ?_⟩⟩
        have hl : (enumL xs).length = vs.length := by rw [enumL_len, h2.length]
        refine ItOk.pair (G := fun H => L2.SqT X.K H a vs) (hl ▸ walk_enumT) (fun e F2 ρ2 s2 σ2 H2 l2 p2 q2 => up l2 q2.hr.sub) fun i x y F2 ρ2 l2 p2 hx hy => ?_
        cases hx
        obtain ⟨d, k1, k2⟩ := (h2.mono l2 p2).getV hy
        exact ⟨.int (i : Int), d, enumL_get k1, .int _, k2⟩
    · exact hh.elim
def zipL (xs ys : List D) : List D := xs.zipWith (fun a b => .tup [a, b]) ys
def zipD (ds : List D) : M (List D) := match ds with
  | [.lst xs, .lst ys] => mPure (zipL xs ys)
  | [.tup xs, .tup ys] => mPure (zipL xs ys)
  | _ => mBad
theorem zipL_get {xs ys : List D} {i : Nat} {d d' : D} (h : xs[i]? = some d) (h' : ys[i]? = some d') : (zipL xs ys)[i]? = some (.tup [d, d']) := by
  unfold zipL
  rw [List.getElem?_zipWith, h, h']
theorem zipL_len (xs ys : List D) : (zipL xs ys).length = min xs.length ys.length := by unfold zipL; rw [List.length_zipWith]
theorem walk_zipT {K : PySem.W.Frag} {a b : Addr} {xs ys : List L2.V} {n : Nat} (hn : n = min xs.length ys.length) : L2.Walk (RZ.ItzT K a b) n (fun H => L2.SqT K H a xs ∧ L2.SqT K H b ys) (L2.YPair (fun i => xs[i]?) (fun i => ys[i]?)) := by
  subst hn
  refine ⟨fun i _ hi q => ?_, fun _ q => ⟨xs, ys, q.1, q.2, by omega⟩, fun i H v H' _ q y => ?_⟩
  · have h1 : i < xs.length := by omega
    have h2 : i < ys.length := by omega
    exact ⟨xs, ys, xs[i], ys[i], q.1, q.2, by simp [h1], by simp [h2]⟩
  · obtain ⟨T, x, z, h1, h2, h3, h4, h5⟩ := y
    exact ⟨T, x, z, h1, h2, h3, h4 xs q.1, h5 ys q.2⟩
theorem i_zip {e e2 : Expr} {m : M (List D)} {p tpos : Pos} {elts : List Expr} {kk : Nat} (hT : c.T.K = X.K) (hg : L2.Gl X "zip") (hm : X.mg "zip" = none) (hs : notStar e = true) (hs' : notStar e2 = true) (ha : L2.PA X [e, e2] (tG c rpL m)) :
    L2.PI X (.Tuple elts kk tpos) (.Call (.Name "zip" p) [e, e2] [] pos) (tG c rpI (mBind m zipD)) :=
  pi_imp (RZ.pi_zipA hg hm ha (starEach_cons hs _ _) (backTo_plain (by rw [List.all_cons, hs']; rfl))) fun σ H R hq => by
    refine tG_map hq fun vs H1 F ρ s ds q z hh => ?_
    unfold zipD at hh
    split at hh
    · obtain ⟨v, w, rfl, z1, z2⟩ := RepL.two z
      cases z1 with
      | @lst a vs _ h1 h2 =>
        cases z2 with
        | @lst b ws _ k1 k2 =>
          refine ⟨a, b, vs, ws, rfl, .inl ⟨L2.SqL.of (q.hr.sub _ _ h1), L2.SqL.of (q.hr.sub _ _ k1), Run.done hh q ?_⟩⟩
          refine ItOk.pair (L2.walk_zip (by rw [zipL_len, h2.length, k2.length])) (fun e F2 ρ2 s2 σ2 H2 l2 p2 q2 => ⟨L2.SqL.of (q2.hr.sub _ _ (l2 _ _ h1)), L2.SqL.of (q2.hr.sub _ _ (l2 _ _ k1))⟩) fun i x y F2 ρ2 l2 p2 hx hy => ?_
          obtain ⟨d, m1, m2⟩ := (h2.mono l2 p2).getV hx
          obtain ⟨d', n1, n2⟩ := (k2.mono l2 p2).getV hy
          exact ⟨d, d', zipL_get m1 n1, m2, n2⟩
    · obtain ⟨v, w, rfl, z1, z2⟩ := RepL.two z
      cases z1 with
      | @tup a vs _ h1 h2 =>
        cases z2 with
        | @tup b ws _ k1 k2 =>
          rw [hT] at h1 k1
          refine ⟨a, b, vs, ws, rfl, .inr ⟨q.hr.sub.sqT h1.sq, q.hr.sub.sqT k1.sq, Run.done hh q ?_⟩⟩
          refine ItOk.pair (walk_zipT (by rw [zipL_len, h2.length, k2.length])) (fun e F2 ρ2 s2 σ2 H2 l2 p2 q2 => ⟨q2.hr.sub.sqT (l2.sqT h1.sq), q2.hr.sub.sqT (l2.sqT k1.sq)⟩) fun i x y F2 ρ2 l2 p2 hx hy => ?_
          obtain ⟨d, m1, m2⟩ := (h2.mono l2 p2).getV hx
          obtain ⟨d', n1, n2⟩ := (k2.mono l2 p2).getV hy
          exact ⟨d, d', zipL_get m1 n1, m2, n2⟩
    · exact hh.elim
/-! ### for -/
def forL (tgt : D → M Unit) (body : MS) : List D → MS
  | [], s => .nx s
  | d :: r, s => match tgt d s with
    | .ok _ s1 => (match body s1 with
      | .nx s2 => forL tgt body r s2
      | .ct s2 => forL tgt body r s2
      | .bk s2 => .nx s2
      | x => x)
    | _ => .bad
def notSetD : Expr → Bool
  | .Set _ _ _ => false
  | _ => true
theorem folded_no {e : Expr} (h : notSetD e = true) (env : Env) (x : Value) : foldedSetIterable e env x = pure x := by
  cases e <;> first | rfl | cases h
theorem s_for {iter : Expr} {body : List Stmt} {mi : M (List D)} {tgt : D → M Unit} {mb : MS} (hp : PassesOwn (model X.prog X.w) X.A X.env X.xe) (hc : X.calm = true) (hi : L2.PI X tg iter (tG c rpI mi)) {is : List Nat} (hg : L2.PG X tg (tT c is tgt)) (hb : L2.PSs X body (tS c mb)) (hs : notSetD iter = true) :
    L2.PS X (.For tg iter body [] pos) (tS c (sB mi (forL tgt mb))) :=
  ps_imp (L2.ps_for hp hc hi hg hb (folded_no hs _)) fun D σ H h => by
    refine tS_bind (Rp := rpI) h fun J H1 F1 ρ1 s1 items q1 it hh => ?_
    refine ⟨fun i m σ H => m = items.length - i ∧ i ≤ items.length ∧ ∃ F ρ s, Le F1 F ∧ ρ1 <+: ρ ∧ SR c.T c.e F ρ s σ H ∧ RunS c F ρ (forL tgt mb (items.drop i) s) D,
      ⟨items.length, by simp, Nat.zero_le _, F1, ρ1, s1, Le.refl F1, List.prefix_refl ρ1, q1, hh⟩, ?_⟩
    rintro i m σ H ⟨rfl, hi, F, ρ, s, l, p, q, hr⟩
    by_cases hlt : i < items.length
    · refine .inr ⟨it.go _ F ρ s σ H i l p q hlt, fun σ' H' => ∃ F' ρ' s', Le F1 F' ∧ ρ1 <+: ρ' ∧ SR c.T c.e F' ρ' s' σ' H' ∧ RunS c F' ρ' (forL tgt mb (items.drop (i + 1)) s') D,
        fun σ' H' ⟨F', ρ', s', l', p', q', h'⟩ => ⟨items.length - (i + 1), by omega, rfl, hlt, F', ρ', s', l', p', q', h'⟩, fun x H' hy => ?_⟩
      obtain ⟨d, F2, hd, l2, q2, r2⟩ := it.yld _ F ρ s σ H i x H' l p q hlt hy
      rw [List.drop_eq_getElem_cons hlt] at hr
      have hd2 : items[i] = d := by
        rw [List.getElem?_eq_getElem hlt] at hd
        exact Option.some.inj hd
      rw [hd2] at hr
      have hr := RunS.mono l2 (List.prefix_refl ρ) hr
      refine ⟨F2, ρ, s, d, q2, r2, ?_⟩
      unfold forL at hr
      cases e1 : tgt d s with
      | bad => rw [e1] at hr; exact hr.elim
      | exc x s' => rw [e1] at hr; exact hr.elim
      | ok u s3 =>
        rw [e1] at hr
        intro σ3 H3 F3 ρ3 o3 l3 p3 q3
        refine ⟨F3, ρ3, s3, q3, ?_⟩
        have hr := RunS.mono l3 p3 hr
        dsimp only at hr
        cases e2 : mb s3 with
        | nx s4 =>
          rw [e2] at hr
          exact fun σ' H' F' ρ' l' p' q' => ⟨F', ρ', s4, ((l.trans l2).trans l3).trans l', (p.trans p3).trans p', q', RunS.mono l' p' hr⟩
        | ct s4 =>
          rw [e2] at hr
          exact fun σ' H' F' ρ' l' p' q' => ⟨F', ρ', s4, ((l.trans l2).trans l3).trans l', (p.trans p3).trans p', q', RunS.mono l' p' hr⟩
        | _ => rw [e2] at hr; exact hr
    · have e : i = items.length := by omega
      subst e
      rw [List.drop_length] at hr
      exact .inl ⟨it.stop _ F ρ s σ H l p q, hr.done q⟩
end
end U

/-! U9: list comprehensions. -/
namespace U
open PySem PySem.Spec PyProof.Rows

/-! ### one more object that stays -/
def En.with (e : En) (Dz : Addr) (o : L2.HO) : En := { e with B := L2.upd e.B Dz o }
section
variable {T : Tab} {e : En} {F : L2.Hp} {ρ : List Addr} {s : S} {σ : L2.St} {H : L2.Hp} {Dz : Addr} {o o' : L2.HO}
/-- nothing of the state stands at Dz -/
structure Apart (e : En) (F : L2.Hp) (ρ : List Addr) (s : S) (σ : L2.St) (Dz : Addr) : Prop where
  f : F Dz = none
  r : Dz ∉ ρ
  b : e.B Dz = none
theorem SlR.ent {v : L2.V} {d : D} {e' : En} (h : SlR T e F ρ H v d) (hb : ∀ a o, H a = some o → F a = none → e.B a = none → e'.B a = none) : SlR T e' F ρ H v d := by
  cases d with
  | own xs =>
    obtain ⟨a, vs, rfl, h1, h2, h3, h4, h5⟩ := h
    exact ⟨a, vs, rfl, h1, h2, h3, h4, hb a _ h1 h3 h5⟩
  | ownI c fs =>
    obtain ⟨a, dx, vs, rfl, h1, hd, h2, ⟨h3, h4, h5⟩, h6, h7, h8⟩ := h
    exact ⟨a, dx, vs, rfl, h1, hd, h2, ⟨h3, h4, hb a _ h1 h3 h5⟩, h6, h7, hb dx _ hd h6 h8⟩
  | _ => exact h
/-- Dz is new: it stands beside -/
theorem SR.ext (q : SR T e F ρ s σ H) (h : H Dz = none) : SR T (e.with Dz o) F ρ s σ (L2.upd H Dz o) := by
  have hF := q.fnone h
  have hr := q.rnone h
  have ne : ∀ {b u}, H b = some u → b ≠ Dz := fun {b u} z => L2.ne_of_none z h
  refine ⟨⟨fun b u z => ?_, q.hr.len, fun n b c k1 k2 => ?_, q.hr.nd, q.hr.out⟩, q.len, fun j d hj => ?_, q.apart, fun b u z hb => ?_, q.fz, fun b u z => by
    rcases q.fnew b u z with k | k
    · exact .inl k
    · right
      show L2.upd e.B Dz o b = none
      rw [L2.upd_ne (L2.ne_of_none z hF)]; exact k, q.old, fun b hb => ?_⟩
  · have := q.hr.sub b u z
    rw [L2.upd_ne (ne this)]; exact this
  · exact (q.hr.cell n b c k1 k2).mono (Le.refl F) (List.prefix_refl ρ) fun o m1 => by rw [L2.upd_ne (ne m1)]; exact m1
  · obtain ⟨v, h1, h2⟩ := q.sl j d hj
    refine ⟨v, h1, ?_⟩
    have h3 : SlR T e F ρ (L2.upd H Dz o) v d := h2.upd (Le.refl F) (List.prefix_refl ρ) fun a u k1 k2 k3 k4 => ⟨by rw [L2.upd_ne (ne k1)]; exact k1, k4, k3⟩
    have h4 : SlR T (e.with Dz o) F ρ H v d := h2.ent fun a u k1 k2 k3 => by
      show L2.upd e.B Dz o a = none
      rw [L2.upd_ne (ne k1)]; exact k3
    cases d with
    | own xs =>
      obtain ⟨a, vs, rfl, h1, h2, _⟩ := h3
      obtain ⟨a', vs', e1, _, _, h5⟩ := h4
      cases e1
      exact ⟨a, vs, rfl, h1, h2, h5⟩
    | ownI c fs =>
      obtain ⟨a, dx, vs, rfl, h1, h2, h3, _⟩ := h3
      obtain ⟨a', dx', vs', e1, k1, k2, _, h5, h6⟩ := h4
      cases e1
      rw [L2.upd_ne (ne k1)] at h1
      rw [h1] at k1
      cases k1
      exact ⟨a, dx, vs, rfl, by rw [L2.upd_ne (L2.ne_of_none h1 h)]; exact h1, h2, h3, h5, h6⟩
    | _ => exact h3
  · have z : L2.upd e.B Dz o b = some u := z
    by_cases hbD : b = Dz
    · subst hbD; rw [L2.upd_same] at z ⊢; exact z
    · rw [L2.upd_ne hbD] at z ⊢; exact q.keep b u z hb
  · rcases q.new b hb with z | z
    · exact .inl z
    · right
      show L2.upd e.B Dz o b = none
      rw [L2.upd_ne fun z2 : b = Dz => hr (z2 ▸ hb)]; exact z
/-- Dz stays apart -/
theorem SR.atD (q : SR T (e.with Dz o) F ρ s σ H) (hD : Dz ∉ e.ρ) : H Dz = some o ∧ Dz ∉ ρ := by
  have hn : Dz ∉ ρ := fun z => by
    rcases q.new Dz z with k | k
    · exact hD k
    · have k : L2.upd e.B Dz o Dz = none := k
      rw [L2.upd_same] at k; cases k
  refine ⟨q.keep Dz o ?_ hn, hn⟩
  show L2.upd e.B Dz o Dz = some o
  exact L2.upd_same
/-- .. and is not frozen -/
theorem SR.freeD (q : SR T (e.with Dz o) F ρ s σ H) (hF : e.F Dz = none) : F Dz = none := by
  cases z : F Dz with
  | none => rfl
  | some u =>
    rcases q.fnew Dz u z with k | k
    · have k : e.F Dz = some u := k
      rw [hF] at k; cases k
    · have k : L2.upd e.B Dz o Dz = none := k
      rw [L2.upd_same] at k; cases k
/-- Dz is changed -/
theorem SR.chg (q : SR T (e.with Dz o) F ρ s σ H) (hD : Dz ∉ e.ρ) (hF : F Dz = none) : SR T (e.with Dz o') F ρ s σ (L2.upd H Dz o') := by
  obtain ⟨h1, h2⟩ := q.atD hD
  have own : ∀ {a}, (e.with Dz o).B a = none → a ≠ Dz := fun {a} k z => by
    subst z
    have k : L2.upd e.B a o a = none := k
    rw [L2.upd_same] at k; cases k
  have bb : ∀ {a}, (e.with Dz o).B a = none → (e.with Dz o').B a = none := fun {a} k => by
    have ne := own k
    have k : L2.upd e.B Dz o a = none := k
    show L2.upd e.B Dz o' a = none
    rw [L2.upd_ne ne] at k ⊢; exact k
  refine ⟨⟨fun b u z => ?_, q.hr.len, fun n b c k1 k2 => ?_, q.hr.nd, q.hr.out⟩, q.len, fun j d hj => ?_, q.apart, fun b u z hb => ?_, q.fz, fun b u z => (q.fnew b u z).imp id bb, q.old, fun b hb => ?_⟩
  · rw [L2.upd_ne (L2.ne_of_none z hF)]; exact q.hr.sub b u z
  · exact (q.hr.cell n b c k1 k2).mono (Le.refl F) (List.prefix_refl ρ) fun o m1 => by rw [L2.upd_ne fun z : b = Dz => h2 (z ▸ List.mem_of_getElem? k1)]; exact m1
  · obtain ⟨v, k1, k2⟩ := q.sl j d hj
    refine ⟨v, k1, ?_⟩
    cases d with
    | own xs =>
      obtain ⟨a, vs, rfl, m1, m2, m3, m4, m5⟩ := k2
      exact ⟨a, vs, rfl, by rw [L2.upd_ne (own m5)]; exact m1, m2, m3, m4, bb m5⟩
    | ownI c fs =>
      obtain ⟨a, dx, vs, rfl, m1, md, m2, ⟨m3, m4, m5⟩, m6, m7, m8⟩ := k2
      exact ⟨a, dx, vs, rfl, by rw [L2.upd_ne (own m5)]; exact m1, by rw [L2.upd_ne (own m8)]; exact md, m2, ⟨m3, m4, bb m5⟩, m6, m7, bb m8⟩
    | _ => exact k2
  · have z : L2.upd e.B Dz o' b = some u := z
    by_cases hbD : b = Dz
    · subst hbD; rw [L2.upd_same] at z ⊢; exact z
    · rw [L2.upd_ne hbD] at z ⊢
      refine q.keep b u ?_ hb
      show L2.upd e.B Dz o b = some u
      rw [L2.upd_ne hbD]; exact z
  · rcases q.new b hb with z | z
    · exact .inl z
    · exact .inr (bb z)
/-- Dz is frozen, and leaves the entry -/
theorem SR.frzD (q : SR T (e.with Dz o) F ρ s σ H) (hD : Dz ∉ e.ρ) (hF : F Dz = none) (hB : e.B Dz = none) : SR T e (L2.upd F Dz o) ρ s σ H := by
  obtain ⟨h1, h2⟩ := q.atD hD
  have l : Le F (L2.upd F Dz o) := Le.upd hF
  have own : ∀ {a}, (e.with Dz o).B a = none → a ≠ Dz ∧ e.B a = none := fun {a} k => by
    have ne : a ≠ Dz := fun z => by
      subst z
      have k : L2.upd e.B a o a = none := k
      rw [L2.upd_same] at k; cases k
    have k : L2.upd e.B Dz o a = none := k
    rw [L2.upd_ne ne] at k
    exact ⟨ne, k⟩
  refine ⟨⟨fun b u z => ?_, q.hr.len, fun n b c k1 k2 => ?_, q.hr.nd, fun b hb => ?_⟩, q.len, fun j d hj => ?_, q.apart, fun b u z hb => ?_, q.fz.trans l, fun b u z => by
    by_cases hbD : b = Dz
    · subst hbD; exact .inr hB
    · rw [L2.upd_ne hbD] at z; exact (q.fnew b u z).imp id fun k => (own k).2, q.old, fun b hb => ?_⟩
  · by_cases hbD : b = Dz
    · subst hbD; rw [L2.upd_same] at z; cases z; exact h1
    · rw [L2.upd_ne hbD] at z; exact q.hr.sub b u z
  · exact (q.hr.cell n b c k1 k2).mono l (List.prefix_refl ρ) fun _ m1 => m1
  · rw [L2.upd_ne fun z : b = Dz => h2 (z ▸ hb)]; exact q.hr.out b hb
  · obtain ⟨v, k1, k2⟩ := q.sl j d hj
    refine ⟨v, k1, ?_⟩
    cases d with
    | own xs =>
      obtain ⟨a, vs, rfl, m1, m2, m3, m4, m5⟩ := k2
      obtain ⟨n1, n2⟩ := own m5
      exact ⟨a, vs, rfl, m1, m2.mono l (List.prefix_refl ρ), by rw [L2.upd_ne n1]; exact m3, m4, n2⟩
    | ownI c fs =>
      obtain ⟨a, dx, vs, rfl, m1, md, m2, ⟨m3, m4, m5⟩, m6, m7, m8⟩ := k2
      obtain ⟨n1, n2⟩ := own m5
      obtain ⟨n3, n4⟩ := own m8
      exact ⟨a, dx, vs, rfl, m1, md, m2.mono l (List.prefix_refl ρ), ⟨by rw [L2.upd_ne n1]; exact m3, m4, n2⟩, by rw [L2.upd_ne n3]; exact m6, m7, n4⟩
    | _ => exact Rep.mono l (List.prefix_refl ρ) k2
  · by_cases hbD : b = Dz
    · subst hbD; rw [hB] at z; cases z
    · refine q.keep b u ?_ hb
      show L2.upd e.B Dz o b = some u
      rw [L2.upd_ne hbD]; exact z
  · rcases q.new b hb with z | z
    · exact .inl z
    · exact .inr (own z).2
/-- .. or is left as a list that nobody else holds: the state without it -/
theorem SR.unext (q : SR T (e.with Dz o) F ρ s σ H) (hD : Dz ∉ e.ρ) (hF : F Dz = none) (hB : e.B Dz = none) : ∃ H0 : L2.Hp, H0 Dz = none ∧ H = L2.upd H0 Dz o ∧ SR T e F ρ s σ H0 := by
  obtain ⟨h1, h2⟩ := q.atD hD
  let H0 : L2.Hp := fun b => if b = Dz then none else H b
  have hne : ∀ {b}, b ≠ Dz → H0 b = H b := fun {b} h => if_neg h
  have own : ∀ {a}, (e.with Dz o).B a = none → a ≠ Dz ∧ e.B a = none := fun {a} k => by
    have ne : a ≠ Dz := fun z => by
      subst z
      have k : L2.upd e.B a o a = none := k
      rw [L2.upd_same] at k; cases k
    have k : L2.upd e.B Dz o a = none := k
    rw [L2.upd_ne ne] at k
    exact ⟨ne, k⟩
  refine ⟨H0, if_pos rfl, ?_, ⟨fun b u z => ?_, q.hr.len, fun n b c k1 k2 => ?_, q.hr.nd, q.hr.out⟩, q.len, fun j d hj => ?_, q.apart, fun b u z hb => ?_, q.fz, fun b u z => (q.fnew b u z).imp id fun k => (own k).2, q.old, fun b hb => ?_⟩
  · funext b
    by_cases hb : b = Dz
    · subst hb; rw [L2.upd_same]; exact h1
    · rw [L2.upd_ne hb, hne hb]
  · rw [hne (L2.ne_of_none z hF)]; exact q.hr.sub b u z
  · exact (q.hr.cell n b c k1 k2).mono (Le.refl F) (List.prefix_refl ρ) fun o m1 => by rw [hne fun z : b = Dz => h2 (z ▸ List.mem_of_getElem? k1)]; exact m1
  · obtain ⟨v, k1, k2⟩ := q.sl j d hj
    refine ⟨v, k1, ?_⟩
    cases d with
    | own xs =>
      obtain ⟨a, vs, rfl, m1, m2, m3, m4, m5⟩ := k2
      obtain ⟨n1, n2⟩ := own m5
      exact ⟨a, vs, rfl, by rw [hne n1]; exact m1, m2, m3, m4, n2⟩
    | ownI c fs =>
      obtain ⟨a, dx, vs, rfl, m1, md, m2, ⟨m3, m4, m5⟩, m6, m7, m8⟩ := k2
      obtain ⟨n1, n2⟩ := own m5
      obtain ⟨n3, n4⟩ := own m8
      exact ⟨a, dx, vs, rfl, by rw [hne n1]; exact m1, by rw [hne n3]; exact md, m2, ⟨m3, m4, n2⟩, m6, m7, n4⟩
    | _ => exact k2
  · have hbD : b ≠ Dz := fun z2 => by subst z2; rw [hB] at z; cases z
    rw [hne hbD]
    refine q.keep b u ?_ hb
    show L2.upd e.B Dz o b = some u
    rw [L2.upd_ne hbD]; exact z
  · rcases q.new b hb with z | z
    · exact .inl z
    · exact .inr (own z).2
end

/-! ### the slots of a block -/
def wipeS (is : List Nat) (s : S) : S := { s with sl := is.foldr (fun i l => l.set i none) s.sl }
theorem wipe_foldr (σ : L2.St) : ∀ is : List Nat, L2.wipe σ is = is.foldr (fun i l => l.set i none) σ
  | [] => rfl
  | i :: r => by
    show (L2.wipe σ r).set i none = _
    rw [wipe_foldr σ r]; rfl
theorem wipe_get {α : Type} (l : List (Option α)) (j : Nat) : ∀ is : List Nat, (is.foldr (fun i l => l.set i none) l)[j]? = if j ∈ is ∧ j < l.length then some none else l[j]?
  | [] => by simp
  | i :: r => by
    have hl : ∀ is : List Nat, (is.foldr (fun i l => l.set i none) l).length = l.length := fun is => by
      induction is with
      | nil => rfl
      | cons a b ih => rw [List.foldr_cons, List.length_set, ih]
    rw [List.foldr_cons]
    by_cases hij : i = j
    · subst hij
      by_cases hlt : i < l.length
      · rw [List.getElem?_set_self (by rw [hl]; exact hlt), if_pos ⟨List.mem_cons_self, hlt⟩]
      · rw [List.getElem?_eq_none (by rw [List.length_set, hl]; omega), if_neg fun z => hlt z.2, List.getElem?_eq_none (by omega)]
    · rw [List.getElem?_set_ne hij, wipe_get l j r]
      by_cases h : j ∈ r ∧ j < l.length
      · rw [if_pos h, if_pos ⟨List.mem_cons_of_mem _ h.1, h.2⟩]
      · rw [if_neg h, if_neg fun z => h ⟨(List.mem_cons.mp z.1).resolve_left fun z2 => hij z2.symm, z.2⟩]
theorem wipe_off {is vs : List Nat} {σ σ' : L2.St} (o : Off is σ σ') (h : ∀ i ∈ is, i ∈ vs) : L2.wipe σ' vs = L2.wipe σ vs := by
  rw [wipe_foldr, wipe_foldr]
  refine List.ext_getElem? fun j => ?_
  rw [wipe_get, wipe_get, o.1]
  by_cases hj : j ∈ vs ∧ j < σ.length
  · rw [if_pos hj, if_pos hj]
  · rw [if_neg hj, if_neg hj]
    by_cases hi : j ∈ is
    · have : ¬ j < σ.length := fun z => hj ⟨h j hi, z⟩
      rw [List.getElem?_eq_none (by rw [o.1]; omega), List.getElem?_eq_none (by omega)]
    · exact o.2 j hi
theorem wipe_wipe (σ : L2.St) (vs : List Nat) : L2.wipe (L2.wipe σ vs) vs = L2.wipe σ vs := by
  rw [wipe_foldr, wipe_foldr]
  refine List.ext_getElem? fun j => ?_
  have hl : (vs.foldr (fun i l => l.set i none) σ).length = σ.length := by rw [← wipe_foldr, L2.wipe_length]
  rw [wipe_get, wipe_get, hl]
  split <;> rfl
theorem wipeS_get (is : List Nat) (s : S) (j : Nat) : (wipeS is s).sl[j]? = if j ∈ is ∧ j < s.sl.length then some none else s.sl[j]? := wipe_get s.sl j is
section
variable {T : Tab} {e : En} {F : L2.Hp} {ρ : List Addr} {s : S} {σ : L2.St} {H : L2.Hp}
theorem wipeS_len (is : List Nat) (s : S) : (wipeS is s).sl.length = s.sl.length := by
  unfold wipeS
  induction is with
  | nil => rfl
  | cons a b ih => rw [List.foldr_cons, List.length_set]; exact ih
/-- into the block -/
theorem SR.wipe (q : SR T e F ρ s σ H) (is : List Nat) : SR T e F ρ (wipeS is s) (L2.wipe σ is) H := by
  have g1 : ∀ {j d}, (wipeS is s).sl[j]? = some (some d) → s.sl[j]? = some (some d) ∧ j ∉ is := fun {j d} h => by
    rw [wipeS_get] at h
    split at h
    · cases h
    · rename_i hn
      exact ⟨h, fun z => hn ⟨z, (List.getElem?_eq_some_iff.mp h).1⟩⟩
  have g2 : ∀ {j}, j ∉ is → (L2.wipe σ is)[j]? = σ[j]? := fun {j} h => by
    rw [wipe_foldr, wipe_get, if_neg fun z => h z.1]
  refine ⟨q.hr, by rw [wipeS_len, L2.wipe_length]; exact q.len, fun j d hj => ?_, fun j k d1 d2 w hjk h3 h4 o1 o2 => ?_, q.keep, q.fz, q.fnew, q.old, q.new⟩
  · obtain ⟨h1, h2⟩ := g1 hj
    rw [g2 h2]
    exact q.sl j d h1
  · obtain ⟨h5, h6⟩ := g1 h3
    obtain ⟨h7, h8⟩ := g1 h4
    rw [g2 h6, g2 h8]
    exact q.apart j k d1 d2 w hjk h5 h7 o1 o2
/-- the slots is as they were in s0, the others as in s -/
def backS (is : List Nat) (s0 s : S) : S := { s with sl := is.foldr (fun i l => l.set i (s0.sl.getD i none)) s.sl }
theorem back_get (l0 l : List (Option D)) (j : Nat) (hl : l.length = l0.length) : ∀ is : List Nat, (is.foldr (fun i l => l.set i (l0.getD i none)) l)[j]? = if j ∈ is then l0[j]? else l[j]?
  | [] => by simp
  | i :: r => by
    have hl2 : ∀ is : List Nat, (is.foldr (fun i l => l.set i (l0.getD i none)) l).length = l.length := fun is => by
      induction is with
      | nil => rfl
      | cons a b ih => rw [List.foldr_cons, List.length_set, ih]
    rw [List.foldr_cons]
    by_cases hij : i = j
    · subst hij
      rw [if_pos List.mem_cons_self]
      by_cases hlt : i < l.length
      · rw [List.getElem?_set_self (by rw [hl2]; exact hlt), List.getD_eq_getElem?_getD, List.getElem?_eq_getElem (by omega)]; rfl
      · rw [List.getElem?_eq_none (by rw [List.length_set, hl2]; omega), List.getElem?_eq_none (by omega)]
    · rw [List.getElem?_set_ne hij, back_get l0 l j hl r]
      by_cases h : j ∈ r
      · rw [if_pos h, if_pos (List.mem_cons_of_mem _ h)]
      · rw [if_neg h, if_neg fun z => h ((List.mem_cons.mp z).resolve_left fun z2 => hij z2.symm)]
/-- out of the block -/
theorem SR.back {F0 : L2.Hp} {ρ0 : List Addr} {s0 : S} {H0 : L2.Hp} {is : List Nat} {e0 : En} (q0 : SR T e0 F0 ρ0 s0 σ H0) (hn : ∀ i ∈ is, ∀ d, s0.sl[i]? = some (some d) → isOwn d = false) (q : SR T e F ρ s (L2.wipe σ is) H) (l : Le F0 F) (p : ρ0 <+: ρ) : SR T e F ρ (backS is s0 s) σ H := by
  have hl : s.sl.length = s0.sl.length := by rw [q.len, L2.wipe_length, q0.len]
  have hlen : (backS is s0 s).sl.length = s.sl.length := by
    unfold backS
    show (is.foldr _ s.sl).length = _
    induction is with
    | nil => rfl
    | cons a b ih => rw [List.foldr_cons, List.length_set]; exact ih (fun i hi => hn i (List.mem_cons_of_mem _ hi)) (by
        have := q
        exact ⟨q.hr, by rw [q.len, L2.wipe_length, L2.wipe_length], fun j d hj => by
          obtain ⟨v, k1, k2⟩ := q.sl j d hj
          refine ⟨v, ?_, k2⟩
          obtain ⟨k3, k4⟩ := L2.wipe_some k1
          rw [wipe_foldr, wipe_get, if_neg fun z => k4 (List.mem_cons_of_mem _ z.1)]; exact k3, fun j k d1 d2 w hjk h3 h4 o1 o2 h5 h6 => by
          obtain ⟨v, k1, _⟩ := q.sl j d1 h3
          obtain ⟨k3, k4⟩ := L2.wipe_some k1
          obtain ⟨v', k1', _⟩ := q.sl k d2 h4
          obtain ⟨k3', k4'⟩ := L2.wipe_some k1'
          rw [wipe_foldr, wipe_get, if_neg fun z => k4 (List.mem_cons_of_mem _ z.1)] at h5
          rw [wipe_foldr, wipe_get, if_neg fun z => k4' (List.mem_cons_of_mem _ z.1)] at h6
          refine q.apart j k d1 d2 w hjk h3 h4 o1 o2 ?_ ?_
          · rw [k1, ← k3, h5]
          · rw [k1', ← k3', h6], q.keep, q.fz, q.fnew, q.old, q.new⟩)
  have get : ∀ j, (backS is s0 s).sl[j]? = if j ∈ is then s0.sl[j]? else s.sl[j]? := fun j => back_get s0.sl s.sl j hl is
  have off : ∀ {j d}, j ∉ is → (backS is s0 s).sl[j]? = some (some d) → s.sl[j]? = some (some d) := fun {j d} hj h => by rw [get, if_neg hj] at h; exact h
  have inn : ∀ {j d}, j ∈ is → (backS is s0 s).sl[j]? = some (some d) → isOwn d = false ∧ s0.sl[j]? = some (some d) := fun {j d} hj h => by
    rw [get, if_pos hj] at h
    exact ⟨hn j hj d h, h⟩
  have σo : ∀ {j}, j ∉ is → (L2.wipe σ is)[j]? = σ[j]? := fun {j} h => by rw [wipe_foldr, wipe_get, if_neg fun z => h z.1]
  refine ⟨q.hr, by rw [hlen, q.len, L2.wipe_length], fun j d hj => ?_, fun j k d1 d2 w hjk h3 h4 o1 o2 => ?_, q.keep, q.fz, q.fnew, q.old, q.new⟩
  · by_cases hjs : j ∈ is
    · obtain ⟨k1, k2⟩ := inn hjs hj
      obtain ⟨v, m1, m2⟩ := q0.sl j d k2
      refine ⟨v, m1, ?_⟩
      cases d with
      | own xs => cases k1
      | ownI c fs => cases k1
      | _ => exact Rep.mono l p m2
    · rw [← σo hjs]; exact q.sl j d (off hjs hj)
  · by_cases hjs : j ∈ is
    · have := (inn hjs h3).1
      rw [o1] at this; cases this
    · by_cases hks : k ∈ is
      · have := (inn hks h4).1
        rw [o2] at this; cases this
      · rw [← σo hjs, ← σo hks]
        exact q.apart j k d1 d2 w hjk (off hjs h3) (off hks h4) o1 o2
end
end U

/-! U10: list comprehensions. -/
namespace U
open PySem PySem.Spec PyProof.Rows

/-- the turns of a comprehension -/
def lcL (is : List Nat) (tgt : D → M Unit) (cond : M Bool) (elt : M D) : List D → List D → M (List D)
  | [], acc, s => .ok acc s
  | d :: r, acc, s => match tgt d s with
    | .ok _ s1 => (match cond s1 with
      | .ok true s2 => (match elt s2 with
        | .ok y s3 => if acc.length < sizeLine then lcL is tgt cond elt r (acc ++ [y]) (wipeS is s3) else .bad
        | _ => .bad)
      | .ok false s2 => lcL is tgt cond elt r acc (wipeS is s2)
      | _ => .bad)
    | _ => .bad
theorem lcL_cons (is : List Nat) (tgt : D → M Unit) (cond : M Bool) (elt : M D) (d : D) (r acc : List D) (s : S) : lcL is tgt cond elt (d :: r) acc s = (match tgt d s with
    | .ok _ s1 => (match cond s1 with
      | .ok true s2 => (match elt s2 with
        | .ok y s3 => if acc.length < sizeLine then lcL is tgt cond elt r (acc ++ [y]) (wipeS is s3) else .bad
        | _ => .bad)
      | .ok false s2 => lcL is tgt cond elt r acc (wipeS is s2)
      | _ => .bad)
    | _ => .bad) := rfl
def freeSlots (is : List Nat) (s : S) : Bool := is.all fun i => match s.sl[i]? with
  | some (some d) => !isOwn d
  | _ => true
def lcM (is : List Nat) (mi : M (List D)) (tgt : D → M Unit) (cond : M Bool) (elt : M D) : M (List D) := mBind mi fun items s => if freeSlots is s then (match lcL is tgt cond elt items [] (wipeS is s) with
    | .ok acc s' => .ok acc (backS is s s')
    | _ => .bad) else .bad
theorem freeSlots_ok {is : List Nat} {s : S} (h : freeSlots is s = true) : ∀ i ∈ is, ∀ d, s.sl[i]? = some (some d) → isOwn d = false := fun i hi d hd => by
  have := List.all_eq_true.mp h i hi
  rw [hd] at this
  simpa using this

/-- a reading whatever the entry is -/
def tGX {α β : Type} (T : Tab) (Rp : RP α β) (m : M α) : L2.St → L2.Hp → (β → L2.Hp → Prop) → Prop := fun σ H Q => ∃ c : Cy, c.T = T ∧ (∀ a b d e, ¬ c.W a b d e) ∧ tG c Rp m σ H Q
def tTX (T : Tab) (is : List Nat) (g : D → M Unit) : L2.TG := fun v σ H Q => ∃ c : Cy, c.T = T ∧ (∀ a b d e, ¬ c.W a b d e) ∧ tT c is g v σ H Q
def nW : L2.WX := fun _ _ _ _ => False

section
variable {X : L2.Cx} {c : Cy}
/-- a run that a comprehension goes on with is no exception -/
theorem Run.nox {α β : Type} {Rp : RP α β} {F : L2.Hp} {ρ : List Addr} {r : R α} {σ : L2.St} {Q : β → L2.Hp → Prop} (hn : ∀ x s, r ≠ .exc x s) (hb : r ≠ .bad) (h : ∀ a s, r = .ok a s → ∀ b H' F' ρ', Le F F' → ρ <+: ρ' → SR c.T c.e F' ρ' s σ H' → Rp c F' ρ' b a → Q b H') : Run c Rp F ρ r σ Q := by
  cases r with
  | bad => exact absurd rfl hb
  | exc x s => exact absurd rfl (hn x s)
  | ok a s => exact h a s rfl

/-- the turns, over the list at D -/
theorem lc_turns {J : L2.It} {is js : List Nat} {tgt : D → M Unit} {mt : M Bool} {me : M D} {σ : L2.St} {H1 F1 : L2.Hp} {ρ1 : List Addr} {s1 : S} {items : List D} {Qd : L2.Hp → Prop} {Dz : Addr}
    (q1 : SR c.T c.e F1 ρ1 s1 (L2.wipe σ is) H1) (it : ItOk c F1 ρ1 J items) (hjs : ∀ i ∈ js, i ∈ is) (hD : H1 Dz = none)
    (hend : ∀ F ρ s H acc vs, Le F1 F → ρ1 <+: ρ → lcL is tgt mt me items [] s1 = .ok acc s → SR c.T (c.e.with Dz (.lst vs)) F ρ s (L2.wipe σ is) H → F Dz = none → RepL c.T F ρ vs acc → Qd H) (hok : ∃ acc s, lcL is tgt mt me items [] s1 = .ok acc s) :
    ∃ W : Nat → Nat → L2.Hp → Prop, (∃ m, W 0 m (L2.upd H1 Dz (.lst []))) ∧ ∀ i m H, W i m H → (J.stop i H ∧ Qd H) ∨ (J.go i H ∧ ∃ Nx : L2.Hp → Prop, (∀ H', Nx H' → ∃ m', m' < m ∧ W (i + 1) m' H') ∧ ∀ x H', J.yld i H x H' →
      tTX c.T js tgt x (L2.wipe σ is) H' fun σ2 H2 => L2.wipe σ2 is = L2.wipe σ is ∧ tGX c.T rpB mt σ2 H2 fun b H3 =>
        if b = true then tGX c.T rpD me σ2 H3 fun y H4 => ∃ acc, H4 Dz = some (.lst acc) ∧ acc.length < sizeLine ∧ Nx (L2.upd H4 Dz (.lst (acc ++ [y]))) else Nx H3) := by
  have hF1 := q1.fnone hD
  have hr1 := q1.rnone hD
  have hb1 := q1.bnone hD
  have hre : Dz ∉ c.e.ρ := fun z => hr1 (q1.old.subset z)
  refine ⟨fun i m H => m = items.length - i ∧ i ≤ items.length ∧ ∃ F ρ s vs acc, Le F1 F ∧ ρ1 <+: ρ ∧ SR c.T (c.e.with Dz (.lst vs)) F ρ s (L2.wipe σ is) H ∧ F Dz = none ∧ RepL c.T F ρ vs acc ∧ lcL is tgt mt me items [] s1 = lcL is tgt mt me (items.drop i) acc s,
    ⟨items.length, by simp, Nat.zero_le _, F1, ρ1, s1, [], [], Le.refl F1, List.prefix_refl ρ1, q1.ext hD, hF1, .nil, rfl⟩, ?_⟩
  rintro i m H ⟨rfl, hi, F, ρ, s, vs, acc, l, p, q, hF, ra, he⟩
  by_cases hlt : i < items.length
  · refine .inr ⟨it.go _ F ρ s _ H i l p q hlt, fun H' => ∃ F' ρ' s' vs' acc', Le F1 F' ∧ ρ1 <+: ρ' ∧ SR c.T (c.e.with Dz (.lst vs')) F' ρ' s' (L2.wipe σ is) H' ∧ F' Dz = none ∧ RepL c.T F' ρ' vs' acc' ∧ lcL is tgt mt me items [] s1 = lcL is tgt mt me (items.drop (i + 1)) acc' s',
      fun H' ⟨F', ρ', s', vs', acc', z⟩ => ⟨items.length - (i + 1), by omega, rfl, hlt, F', ρ', s', vs', acc', z⟩, fun x H' hy => ?_⟩
    obtain ⟨d, F2, hd, l2, q2, r2⟩ := it.yld _ F ρ s _ H i x H' l p q hlt hy
    have hd2 : items[i] = d := by
      rw [List.getElem?_eq_getElem hlt] at hd
      exact Option.some.inj hd
    rw [List.drop_eq_getElem_cons hlt, hd2] at he
    obtain ⟨acc0, s0, hok⟩ := hok
    have he2 := he
    rw [hok] at he
    rw [lcL_cons] at he
    have heF : c.e.F Dz = none := by
      cases z : c.e.F Dz with
      | none => rfl
      | some u => rw [q1.fz Dz u z] at hF1; cases hF1
    let c2 : Cy := ⟨c.T, nW, c.e.with Dz (.lst vs)⟩
    cases e1 : tgt d s with
    | bad => rw [e1] at he; cases he
    | exc y s' => rw [e1] at he; cases he
    | ok u s3 =>
    rw [e1] at he
    try dsimp only at he
    refine ⟨c2, rfl, fun _ _ _ _ z => z, F2, ρ, s, d, q2, r2, ?_⟩
    show TgE c2 js (L2.wipe σ is) F2 ρ (tgt d s) _
    rw [e1]
    intro σ3 H3 F3 ρ3 o3 l3 p3 q3
    have w3 : L2.wipe σ3 is = L2.wipe σ is := (wipe_off o3 hjs).trans (wipe_wipe σ is)
    refine ⟨w3, c2, rfl, fun _ _ _ _ z => z, F3, ρ3, s3, q3, ?_⟩
    cases e2 : mt s3 with
    | bad => rw [e2] at he; cases he
    | exc y s' => rw [e2] at he; cases he
    | ok k s4 =>
    rw [e2] at he
    try dsimp only at he
    intro b H4 F4 ρ4 l4 p4 q4 hb
    have hb : b = k := hb
    subst hb
    have rel : ∀ {F' : L2.Hp} {ρ' : List Addr}, Le F4 F' → ρ4 <+: ρ' → RepL c.T F' ρ' vs acc := fun {F' ρ'} l' p' => ra.mono (((l2.trans l3).trans l4).trans l') ((p3.trans p4).trans p')
    cases b with
    | false =>
      rw [if_neg (by decide)]
      refine ⟨F4, ρ4, wipeS is s4, vs, acc, ((l.trans l2).trans l3).trans l4, (p.trans p3).trans p4, ?_, q4.freeD heF, rel (Le.refl F4) (List.prefix_refl ρ4), ?_⟩
      · have := q4.wipe is
        rwa [w3] at this
      · rw [he2]
        rw [lcL_cons, e1]; try dsimp only
        rw [e2]
        skip
    | true =>
      rw [if_pos rfl]
      refine ⟨c2, rfl, fun _ _ _ _ z => z, F4, ρ4, s4, q4, ?_⟩
      try dsimp only at he
      cases e3 : me s4 with
      | bad => rw [e3] at he; cases he
      | exc y s' => rw [e3] at he; cases he
      | ok y s5 =>
      rw [e3] at he
      try dsimp only at he
      intro v H5 F5 ρ5 l5 p5 q5 rv
      have q5 : SR c.T (c.e.with Dz (.lst vs)) F5 ρ5 s5 σ3 H5 := q5
      have rv : Rep c.T F5 ρ5 v y := rv
      have hlen : vs.length = acc.length := ra.length
      by_cases hz : acc.length < sizeLine
      · refine ⟨vs, (q5.atD hre).1, by rw [hlen]; exact hz, F5, ρ5, wipeS is s5, vs ++ [v], acc ++ [y], (((l.trans l2).trans l3).trans l4).trans l5, ((p.trans p3).trans p4).trans p5, ?_, q5.freeD heF, (rel l5 p5).append (.cons rv .nil), ?_⟩
        · have := (q5.chg hre (q5.freeD heF) (o' := .lst (vs ++ [v]))).wipe is
          rwa [w3] at this
        · rw [he2]
          rw [lcL_cons, e1]; try dsimp only
          rw [e2]; try dsimp only
          rw [e3]; try dsimp only
          rw [if_pos hz]
          skip
      · rw [if_neg hz] at he; cases he
  · have e : i = items.length := by omega
    subst e
    rw [List.drop_length] at he
    exact .inl ⟨it.stop _ F ρ s _ H l p q, hend F ρ s H acc vs l p he q hF ra⟩

/-- a new list that nothing else holds -/
def RunF (c : Cy) (F : L2.Hp) (ρ : List Addr) (r : R (List D)) (σ : L2.St) (Q : L2.VK) : Prop := match r with
  | .bad => False
  | .ok ds s => ∀ vs H' F' ρ' p, Le F F' → ρ <+: ρ' → SR c.T c.e F' ρ' s σ H' → RepL c.T F' ρ' vs ds → H' p = none → Q (.ref p) (L2.upd H' p (.lst vs))
  | .exc x s => ∀ cls dd H' F' ρ', Le F F' → ρ <+: ρ' → SR c.T c.e F' ρ' s σ H' → XR c.T F' ρ' H' cls dd x → c.W cls dd σ H'
def tF (c : Cy) (m : M (List D)) : L2.TE := fun σ H Q => ∃ F ρ s, SR c.T c.e F ρ s σ H ∧ RunF c F ρ (m s) σ Q
def mL (m : M (List D)) : M D := mBind m fun ds => mPure (.lst ds)
/-- a fresh list is a frozen one, too -/
theorem e_ofF {e : Expr} {m : M (List D)} (h : L2.PE X e (tF c m)) : L2.PE X e (tG c rpD (mL m)) := pe_imp h fun σ H Q ⟨F, ρ, s, q, hh⟩ => ⟨F, ρ, s, q, by
  unfold mL mBind at hh
  cases e1 : m s with
  | bad => rw [e1] at hh; exact hh
  | exc x s' => rw [e1] at hh; exact hh
  | ok ds s' =>
    rw [e1] at hh
    intro vs H' F' ρ' p l pr q' z hp
    exact Run.newL (Run.mono l pr hh) q' z hp⟩
theorem RunF.mono {F F1 : L2.Hp} {ρ ρ1 : List Addr} {r : R (List D)} {σ : L2.St} {Q : L2.VK} (l : Le F F1) (p : ρ <+: ρ1) (h : RunF c F ρ r σ Q) : RunF c F1 ρ1 r σ Q := by
  cases r with
  | bad => exact h
  | ok a s => exact fun b H' F' ρ' a l' p' q z => h b H' F' ρ' a (l.trans l') (p.trans p') q z
  | exc x s => exact fun cls dd H' F' ρ' l' p' q z => h cls dd H' F' ρ' (l.trans l') (p.trans p') q z
theorem RunF.bind {α β : Type} {Rp : RP α β} {F : L2.Hp} {ρ : List Addr} {m : M α} {f : α → M (List D)} {s : S} {σ : L2.St} {Q : L2.VK}
    (h : RunF c F ρ (mBind m f s) σ Q) : Run c Rp F ρ (m s) σ fun b H1 => ∃ F1 ρ1 s1 a, Le F F1 ∧ ρ <+: ρ1 ∧ SR c.T c.e F1 ρ1 s1 σ H1 ∧ Rp c F1 ρ1 b a ∧ RunF c F1 ρ1 (f a s1) σ Q := by
  unfold mBind at h
  cases e : m s with
  | bad => rw [e] at h; exact h
  | ok a s1 =>
    rw [e] at h
    exact fun b H1 F1 ρ1 l p q z => ⟨F1, ρ1, s1, a, l, p, q, z, RunF.mono l p h⟩
  | exc x s1 => rw [e] at h; exact h
theorem tF_map {α β : Type} {Rp : RP α β} {m : M α} {f : α → M (List D)} {σ : L2.St} {H : L2.Hp} {Q : L2.VK} {Q' : β → L2.Hp → Prop}
    (h : tF c (mBind m f) σ H Q) (i : ∀ b H1 F1 ρ1 s1 a, SR c.T c.e F1 ρ1 s1 σ H1 → Rp c F1 ρ1 b a → RunF c F1 ρ1 (f a s1) σ Q → Q' b H1) : tG c Rp m σ H Q' := by
  obtain ⟨F, ρ, s, q, h⟩ := h
  exact ⟨F, ρ, s, q, Run.imp (RunF.bind h) fun b H1 ⟨F1, ρ1, s1, a, _, _, q, z, hh⟩ => i b H1 F1 ρ1 s1 a q z hh⟩
/-! ### fresh lists -/
def mChk (ds : List D) : M (List D) := if ds.length ≤ sizeLine then mPure ds else mBad
theorem RunF.guard {F : L2.Hp} {ρ : List Addr} {p : Prop} [Decidable p] {m : M (List D)} {s : S} {σ : L2.St} {Q : L2.VK} (h : RunF c F ρ ((if p then m else mBad) s) σ Q) : p ∧ RunF c F ρ (m s) σ Q := by
  by_cases hp : p
  · rw [if_pos hp] at h; exact ⟨hp, h⟩
  · rw [if_neg hp] at h; exact h.elim
theorem f_lst {es : List Expr} {pos : Pos} {m : M (List D)} (h : L2.PA X es (tG c rpL m)) : L2.PE X (.List es pos) (tF c (mBind m mChk)) :=
  pe_imp (L2.pe_lst h) fun σ H Q hq => tF_map hq fun vs H1 F ρ s ds q z hh => by
    obtain ⟨g, hh⟩ := hh.guard
    exact ⟨by rw [RepL.length z]; exact g, fun p hp => hh vs H1 F ρ p (Le.refl F) (List.prefix_refl ρ) q z hp⟩
/-- the reading of a comprehension -/
theorem lc_read {is js : List Nat} {mi : M (List D)} {tgt : D → M Unit} {mt : M Bool} {me : M D} {σ : L2.St} {H : L2.Hp} {Q : L2.VK} (hq : tF c (lcM is mi tgt mt me) σ H Q) (hjs : ∀ i ∈ js, i ∈ is) : L2.tLc (tG c rpI mi) (tTX c.T js tgt) (tGX c.T rpB mt) (tGX c.T rpD me) is σ H Q := by
  refine tF_map (Rp := rpI) hq fun J H1 F1 ρ1 s1 items q1 it hh Dz hD => ?_
  by_cases hf : freeSlots is s1 = true
  · rw [if_pos hf] at hh
    cases e1 : lcL is tgt mt me items [] (wipeS is s1) with
    | bad => rw [e1] at hh; exact hh.elim
    | exc x s' => rw [e1] at hh; exact hh.elim
    | ok acc s2 =>
      rw [e1] at hh
      refine lc_turns (q1.wipe is) it hjs hD (fun F ρ s H' acc' vs l p e q hF ra => ?_) ⟨acc, s2, e1⟩
      rw [e1] at e
      cases e
      obtain ⟨H0, h1, rfl, q0⟩ := q.unext (fun z => (q1.rnone hD) (q1.old.subset z)) hF (q1.bnone hD)
      exact hh vs H0 F ρ Dz l p (q1.back (freeSlots_ok hf) q0 l p) ra h1
  · rw [if_neg hf] at hh; exact hh.elim
/-- a comprehension -/
theorem f_lc {elt tg iter : Expr} {ifs : List Expr} {scope : Scope} {own : List (Str × Nat)} {js : List Nat} {pos : Pos} {mi : M (List D)} {tgt : D → M Unit} {mt : M Bool} {me : M D} (hc : X.calm = true) (hN : X.N.Nodup) (hi : L2.PI X tg iter (tG c rpI mi)) (ok : L2.BlkOk X.N X.env.scope scope own) (hjs : ∀ i ∈ js, i ∈ own.map (·.2))
    (hg : ∀ (s : Shared) (H : L2.Hp) (C : Addr) (cl : List (Str × Addr)) (fp : List Addr) (c' : Cy), c'.T = c.T → (∀ a b d e, ¬ c'.W a b d e) → L2.PG (X.blk s H scope (compEnvC scope cl C X.env) fp) tg (tT c' js tgt))
    (ht : ∀ (s : Shared) (H : L2.Hp) (C : Addr) (cl : List (Str × Addr)) (fp : List Addr) (c' : Cy), c'.T = c.T → (∀ a b d e, ¬ c'.W a b d e) → L2.PTs (X.blk s H scope (compEnvC scope cl C X.env) fp) ifs (tG c' rpB mt))
    (he : ∀ (s : Shared) (H : L2.Hp) (C : Addr) (cl : List (Str × Addr)) (fp : List Addr) (c' : Cy), c'.T = c.T → (∀ a b d e, ¬ c'.W a b d e) → L2.PE (X.blk s H scope (compEnvC scope cl C X.env) fp) elt (tG c' rpD me)) (hs : notSetD iter = true) :
    L2.PE X (.ListComp elt [⟨tg, iter, ifs, 0⟩] scope pos) (tF c (lcM (own.map (·.2)) mi tgt mt me)) := by
  exact pe_imp (L2.pe_lc (g := tTX c.T js tgt) (tt := tGX c.T rpB mt) (te := tGX c.T rpD me) hc hN hi ok (fun s H C cl fp => ⟨fun pins st σ H2 v u Q I r ⟨c', h1, h2, h3⟩ => (hg s H C cl fp c' h1 h2).run pins st σ H2 v u Q I r h3⟩)
    (fun s H C cl fp => ⟨fun pins st σ H2 Q I ⟨c', h1, h2, h3⟩ => (ht s H C cl fp c' h1 h2).run pins st σ H2 Q I h3⟩) (fun s H C cl fp => ⟨fun pins st σ H2 Q I ⟨c', h1, h2, h3⟩ => (he s H C cl fp c' h1 h2).run pins st σ H2 Q I h3⟩) (folded_no hs _)) fun σ H Q hq => lc_read hq hjs
end
end U

/-! U11: assignments. -/
namespace U
open PySem PySem.Spec PyProof.Rows

def isStarred : Expr → Bool
  | .Starred .. => true
  | _ => false
/-- the names of targets that are plain locals on one line -/
def locNames (ts : List Expr) (sc : Scope) : List Str :=
  ts.filterMap fun
    | .Name id pos => if sc.names.lookup id == some .local && pos.line == (ts.head?.map (·.pos.line)).getD 0 then some id else none
    | _ => none
theorem sw_eq (ts vs : List Expr) (k k2 : Nat) (p p2 : Pos) (env : Env) (hk : env.scope.kind = .function) : swappedStores [.Tuple ts k p] (.Tuple vs k2 p2) env =
    if (!(ts.length == 2 || ts.length == 3) || vs.length != ts.length) = true then pure none
    else if (vs.any isStarred) = true then pure none
    else if ((locNames ts env.scope).length != ts.length || (locNames ts env.scope).eraseDups.length != (locNames ts env.scope).length) = true then pure none
    else if (vs.all (foldedForSure 8)) = true then pure none
    else if (vs.all (constantsAlone 8)) = true then (do unsupported "assign.tuple-of-constant-expressions:order-of-the-stores"; pure (some (locNames ts env.scope)))
    else pure (some (locNames ts env.scope)) := by
  have hb : env.blockKind = .function := by unfold Env.blockKind; rw [hk]; rfl
  unfold swappedStores
  simp only [hb, bne_self_eq_false, Bool.or_false]
  have e : (fun | Expr.Starred .. => true | _ => false) = isStarred := by
    funext x; cases x <;> rfl
  rfl
section
variable {X : L2.Cx} {c : Cy} {pos : Pos}
/-- name = e -/
theorem s_set {i : Nat} {x : Str} {e : Expr} {m : M D} {p : Pos} (h : NmOk X x i) (he : L2.PE X e (tG c rpD m)) (hn : notComp e = true) : L2.PS X (.Assign [.Name x p] e pos) (tS c (sB m fun d s => .nx { s with sl := s.sl.set i (some d) })) :=
  ps_imp (L2.ps_set h.nd h.at_ h.loc he (swaps_no hn _ _ _) h.fn) fun D σ H hq => tS_bind hq fun v H1 F ρ s d q z hh => hh.done (q.put z i)
/-- name = a fresh list -/
theorem RunS.bindF {F : L2.Hp} {ρ : List Addr} {m : M (List D)} {f : List D → MS} {s : S} {σ : L2.St} {Q : L2.Ends} {P : L2.VK} (h : RunS c F ρ (sB m f s) Q) (i : ∀ ds s1 vs H' F' ρ' p, m s = .ok ds s1 → RunS c F' ρ' (f ds s1) Q → SR c.T c.e F' ρ' s1 σ H' → RepL c.T F' ρ' vs ds → H' p = none → P (.ref p) (L2.upd H' p (.lst vs))) : RunF c F ρ (m s) σ P := by
  unfold sB at h
  cases e : m s with
  | bad => rw [e] at h; exact h
  | ok ds s1 =>
    rw [e] at h
    exact fun vs H' F' ρ' p l pr q z hp => i ds s1 vs H' F' ρ' p e (RunS.mono l pr h) q z hp
  | exc x s1 =>
    rw [e] at h
    exact fun cls dd H' F' ρ' l p q z => h cls dd σ H' F' ρ' l p q z
def setOwn (i : Nat) (ds : List D) : MS := fun s => .nx { s with sl := s.sl.set i (some (.own ds)) }
theorem setF_end {i : Nat} {m : M (List D)} {D : L2.Ends} {σ : L2.St} {H : L2.Hp} (h : tS c (sB m (setOwn i)) D σ H) : tF c m σ H fun v H1 => D.nx (σ.set i (some v)) H1 := by
  obtain ⟨F, ρ, s, q, h⟩ := h
  exact ⟨F, ρ, s, q, RunS.bindF h fun ds s1 vs H' F' ρ' p e hh q' z hp => hh.done (q'.putOwn z i hp)⟩
theorem s_setF {i : Nat} {x : Str} {e : Expr} {m : M (List D)} {p : Pos} (h : NmOk X x i) (he : L2.PE X e (tF c m)) (hn : notComp e = true) : L2.PS X (.Assign [.Name x p] e pos) (tS c (sB m (setOwn i))) :=
  ps_imp (L2.ps_set h.nd h.at_ h.loc he (swaps_no hn _ _ _) h.fn) fun D σ H hq => setF_end hq
/-- name = [.. for ..] -/
def swapsC (scope sc : Scope) (x : Str) (p p2 : Pos) : Bool := sc.names.lookup x == some .local && p.line == p2.line && !(scope.names.any fun (n, k) => n == x && (k == .local || k == .cell))
theorem swaps_lc {elt : Expr} {gs : List Comprehension} {scope : Scope} {p p2 : Pos} {x : Str} {l : Nat} {env : Env} (hk : env.scope.kind = .function) : swapsWith (.ListComp elt gs scope p2) (some (.Name x p)) l env = pure (swapsC scope env.scope x p p2) := by
  have hb : env.blockKind = .function := by unfold Env.blockKind; rw [hk]; rfl
  unfold swapsWith swapsC
  simp only [hb, beq_self_eq_true, Bool.true_and]
  rfl
theorem s_setLc {i : Nat} {x : Str} {p p2 : Pos} {elt tg iter : Expr} {ifs : List Expr} {scope : Scope} {own : List (Str × Nat)} {js : List Nat} {mi : M (List D)} {tgt : D → M Unit} {mt : M Bool} {me : M D} (h : NmOk X x i) (hk : X.env.scope.kind = .function) (hc : X.calm = true) (hi : L2.PI X tg iter (tG c rpI mi)) (ok : L2.BlkOk X.N X.env.scope scope own) (hjs : ∀ i ∈ js, i ∈ own.map (·.2))
    (hg : ∀ (s : Shared) (H : L2.Hp) (C : Addr) (cl : List (Str × Addr)) (fp : List Addr) (c' : Cy), c'.T = c.T → (∀ a b d e, ¬ c'.W a b d e) → L2.PG (X.blk s H scope (compEnvC scope cl C X.env) fp) tg (tT c' js tgt))
    (ht : ∀ (s : Shared) (H : L2.Hp) (C : Addr) (cl : List (Str × Addr)) (fp : List Addr) (c' : Cy), c'.T = c.T → (∀ a b d e, ¬ c'.W a b d e) → L2.PTs (X.blk s H scope (compEnvC scope cl C X.env) fp) ifs (tG c' rpB mt))
    (he : ∀ (s : Shared) (H : L2.Hp) (C : Addr) (cl : List (Str × Addr)) (fp : List Addr) (c' : Cy), c'.T = c.T → (∀ a b d e, ¬ c'.W a b d e) → L2.PE (X.blk s H scope (compEnvC scope cl C X.env) fp) elt (tG c' rpD me)) (hs : notSetD iter = true) :
    L2.PS X (.Assign [.Name x p] (.ListComp elt [⟨tg, iter, ifs, 0⟩] scope p2) pos) (tS c (sB (lcM (own.map (·.2)) mi tgt mt me) (setOwn i))) := by
  by_cases hsw : swapsC scope X.env.scope x p p2 = true
  · have hl : X.env.scope.names.lookup x = some .local := by
      unfold swapsC at hsw
      rw [Bool.and_eq_true, Bool.and_eq_true] at hsw
      exact eq_of_beq hsw.1.1
    have key := fun (D : L2.Ends) (σ : L2.St) (H : L2.Hp) (hq : tS c (sB (lcM (own.map (·.2)) mi tgt mt me) (setOwn i)) D σ H) => setF_end hq
    refine ps_imp (L2.ps_setLc (g := tTX c.T js tgt) (tt := tGX c.T rpB mt) (te := tGX c.T rpD me) hc h.nd h.at_ hl (by rw [swaps_lc hk, hsw]) hi ok (fun s H C cl fp => ⟨fun pins st σ H2 v u Q I r ⟨c', h1, h2, h3⟩ => (hg s H C cl fp c' h1 h2).run pins st σ H2 v u Q I r h3⟩)
      (fun s H C cl fp => ⟨fun pins st σ H2 Q I ⟨c', h1, h2, h3⟩ => (ht s H C cl fp c' h1 h2).run pins st σ H2 Q I h3⟩) (fun s H C cl fp => ⟨fun pins st σ H2 Q I ⟨c', h1, h2, h3⟩ => (he s H C cl fp c' h1 h2).run pins st σ H2 Q I h3⟩) (folded_no hs _)) fun D σ H hq => ?_
    exact lc_read (key D σ H hq) hjs
  · exact ps_imp (L2.ps_set h.nd h.at_ h.loc (f_lc hc h.nd hi ok hjs hg ht he hs) (by rw [swaps_lc hk, Bool.eq_false_iff.mpr hsw]) h.fn) fun D σ H hq => setF_end hq
/-- target = e, e no display of two or three, or its names no plain locals -/
theorem s_asg {tg e : Expr} {is : List Nat} {m : M D} {tgt : D → M Unit} (he : L2.PE X e (tG c rpD m)) (hg : L2.PG X tg (tT c is tgt)) (hn : notComp e = true) (hw : swappedStores [tg] e X.env = pure none) (h1 : notStar tg = true) :
    L2.PS X (.Assign [tg] e pos) (tS c (sB m fun d s => match tgt d s with
      | .ok _ s' => .nx s'
      | _ => .bad)) := by
  have ha : (assignEach [tg] X.env).map (·.2) = [assign tg X.env] := by cases tg <;> first | rfl | cases h1
  refine ps_imp (L2.ps_asg he hg (swaps_no hn _ _ _) hw ha) fun D σ H hq => tS_bind hq fun v H1 F ρ s d q z hh => ⟨F, ρ, s, d, q, z, ?_⟩
  cases e1 : tgt d s with
  | ok u s' =>
    rw [e1] at hh
    exact fun σ' H' F' ρ' _ l p q' => hh σ' H' F' ρ' l p q'
  | _ => rw [e1] at hh; exact hh.elim
theorem swNone_of {tg e : Expr} {env : Env} (h : ∀ es k p, e ≠ .Tuple es k p) : swappedStores [tg] e env = pure none := by
  cases tg <;> cases e <;> first | rfl | exact absurd rfl (h _ _ _)
/-- a, b = x, y with plain locals -/
theorem s_par2 {i j : Nat} {x y : Str} {a b : Expr} {px py pt pt2 : Pos} {kt k2 : Nat} {m : M (List D)} (hc : X.calm = true) (hN : X.N.Nodup) (hi : X.N[i]? = some x) (hj : X.N[j]? = some y) (hij : i ≠ j)
    (hx : X.env.scope.names.lookup x = some .local) (hy : X.env.scope.names.lookup y = some .local) (ha : L2.PA X [a, b] (tG c rpL m))
    (hw : swappedStores [.Tuple [.Name x px, .Name y py] kt pt] (.Tuple [a, b] k2 pt2) X.env = pure (some [x, y])) :
    L2.PS X (.Assign [.Tuple [.Name x px, .Name y py] kt pt] (.Tuple [a, b] k2 pt2) pos) (tS c (sB m fun ds s => match setSlots [i, j] ds s with
      | .ok _ s' => .nx s'
      | _ => .bad)) :=
  ps_imp (L2.ps_par hc hN hi hj hij hx hy ha hw) fun D σ H hq => tS_bind hq fun vs H1 F ρ s ds q z hh => by
    match ds, z with
    | [], z => exact hh.elim
    | [d], z => exact hh.elim
    | [d, d'], z =>
      obtain ⟨v, w, rfl, z1, z2⟩ := RepL.two z
      exact ⟨v, w, rfl, RunS.done hh ((q.put z1 i).put z2 j)⟩
    | _ :: _ :: _ :: _, z => exact hh.elim
theorem RepL.three {T : Tab} {F : L2.Hp} {ρ : List Addr} {xs : List L2.V} {d e f : D} (h : RepL T F ρ xs [d, e, f]) : ∃ u v w, xs = [u, v, w] ∧ Rep T F ρ u d ∧ Rep T F ρ v e ∧ Rep T F ρ w f := by
  cases h with
  | cons a b =>
    obtain ⟨v, w, rfl, h1, h2⟩ := RepL.two b
    exact ⟨_, v, w, rfl, a, h1, h2⟩
theorem s_par3 {i j l : Nat} {x y z : Str} {a b d : Expr} {px py pz pt pt2 : Pos} {kt k2 : Nat} {m : M (List D)} (hc : X.calm = true) (hN : X.N.Nodup) (hi : X.N[i]? = some x) (hj : X.N[j]? = some y) (hl : X.N[l]? = some z) (hij : i ≠ j) (hil : i ≠ l) (hjl : j ≠ l)
    (hx : X.env.scope.names.lookup x = some .local) (hy : X.env.scope.names.lookup y = some .local) (hz : X.env.scope.names.lookup z = some .local) (ha : L2.PA X [a, b, d] (tG c rpL m))
    (hw : swappedStores [.Tuple [.Name x px, .Name y py, .Name z pz] kt pt] (.Tuple [a, b, d] k2 pt2) X.env = pure (some [x, y, z])) :
    L2.PS X (.Assign [.Tuple [.Name x px, .Name y py, .Name z pz] kt pt] (.Tuple [a, b, d] k2 pt2) pos) (tS c (sB m fun ds s => match setSlots [i, j, l] ds s with
      | .ok _ s' => .nx s'
      | _ => .bad)) :=
  ps_imp (L2.ps_par3 hc hN hi hj hl hij hil hjl hx hy hz ha hw) fun D σ H hq => tS_bind hq fun vs H1 F ρ s ds q zz hh => by
    match ds, zz with
    | [], zz => exact hh.elim
    | [d], zz => exact hh.elim
    | [d, d'], zz => exact hh.elim
    | [d, d', d''], zz =>
      obtain ⟨u, v, w, rfl, z1, z2, z3⟩ := RepL.three zz
      exact ⟨u, v, w, rfl, RunS.done hh (((q.put z1 i).put z2 j).put z3 l)⟩
    | _ :: _ :: _ :: _ :: _, zz => exact hh.elim
end
end U

/-! U12: slices, stores to items, op=, methods of built-in types. -/
namespace U
open PySem PySem.Spec PyProof.Rows

/-! ### slices -/
def rpO : RP (Option Int) (Option Int) := fun _ _ _ b a => b = a
def asI : D → M (Option Int)
  | .int i => mPure (some i)
  | _ => mBad
theorem po_imp {X : L2.Cx} {e : Option Expr} {t t' : L2.TO} (h : L2.PO X e t) (i : ∀ σ H Q, t' σ H Q → t σ H Q) : L2.PO X e t' := ⟨fun pins s σ H Q I q => h.run pins s σ H Q I (i σ H Q q)⟩
section
variable {X : L2.Cx} {c : Cy} {pos : Pos}
theorem o_none : L2.PO X none (tG c rpO (mPure none)) := po_imp L2.po_none fun σ H Q ⟨F, ρ, s, q, h⟩ => Run.done h q rfl
theorem o_some {e : Expr} {m : M D} (h : L2.PE X e (tG c rpD m)) : L2.PO X (some e) (tG c rpO (mBind m asI)) :=
  po_imp (L2.po_some h) fun σ H Q hq => tG_map hq fun v H1 F ρ s d q z hh => by
    cases d with
    | int i => cases z; exact ⟨i, rfl, Run.done hh q rfl⟩
    | _ => exact hh.elim
def cutD (xs : List D) (lo hi : Option Int) : List D := (xs.drop (HT.sIx xs.length 0 lo)).take (HT.sIx xs.length xs.length hi - HT.sIx xs.length 0 lo)
def cutN (xs : List Nat) (lo hi : Option Int) : List Nat := (xs.drop (HT.sIx xs.length 0 lo)).take (HT.sIx xs.length xs.length hi - HT.sIx xs.length 0 lo)
def cutI (xs : List Int) (lo hi : Option Int) : List Int := (xs.drop (HT.sIx xs.length 0 lo)).take (HT.sIx xs.length xs.length hi - HT.sIx xs.length 0 lo)
theorem cut_rep {T : Tab} {F : L2.Hp} {ρ : List Addr} {vs : List L2.V} {ds : List D} (r : RepL T F ρ vs ds) (lo hi : Option Int) : RepL T F ρ (L2.cutV vs lo hi) (cutD ds lo hi) := by
  unfold L2.cutV cutD
  rw [r.length]
  exact (r.drop _).take _
theorem cut_ints (ns : List Int) (lo hi : Option Int) : L2.cutV (ns.map L2.V.int) lo hi = (cutI ns lo hi).map L2.V.int := by
  unfold L2.cutV cutI
  rw [List.length_map, List.map_take, List.map_drop]
def slcD (a : D) (lo hi : Option Int) : M D := fun s => match a with
  | .str z => if z.length ≤ sizeLine then .ok (.str (cutN z lo hi)) s else .bad
  | .lst xs => .ok (.lst (cutD xs lo hi)) s
  | .own xs => .ok (.lst (cutD xs lo hi)) s
  | .tup xs => .ok (.tup (cutD xs lo hi)) s
  | .scr ns => .ok (.lst ((cutI ns lo hi).map .int)) s
  | .ob n => mOpt ((s.lc n).map fun xs => .lst (cutD xs lo hi)) s
  | _ => .bad
def rGS (c : Cy) : L2.V → Option Int → Option Int → L2.Hp → L2.VK → Prop := fun x lo hi H Q => ∃ F ρ s σ d, SR c.T c.e F ρ s σ H ∧ Rep c.T F ρ x d ∧ Run c rpD F ρ (slcD d lo hi s) σ Q
theorem slr_of {X : L2.Cx} {r : L2.V → Option Int → Option Int → L2.Hp → L2.VK → Prop} (h : ∀ x lo hi H Q, r x lo hi H Q → ∃ r', L2.SlR X r' ∧ r' x lo hi H Q) : L2.SlR X r := fun pins s σ H x v vl vu lo hi sl Q I rx hs pl pu q => by
  obtain ⟨r', h1, h2⟩ := h x lo hi H Q q
  exact h1 pins s σ H x v vl vu lo hi sl Q I rx hs pl pu h2
theorem slr_ok (hT : c.T.K = X.K) : L2.SlR X (rGS c) := slr_of fun x lo hi H Q ⟨F, ρ, s, σ, d, q, r, h⟩ => by
  unfold slcD at h
  cases r with
  | str z =>
    dsimp only at h
    split at h
    · rename_i g
      exact ⟨_, L2.sl_str, stS z, rfl, by rw [stS_len]; exact g, Run.done h q (by
        have e : L2.cutS (stS z) lo hi = stS (cutN z lo hi) := by
          unfold L2.cutS cutN stS
          simp [Str.length]
        rw [e]; exact Rep.str _)⟩
    · exact h.elim
  | lst h1 h2 => exact ⟨_, L2.sl_list, _, _, rfl, L2.SqL.of (q.hr.sub _ _ h1), fun p hp => Run.newL h q (cut_rep h2 lo hi) hp⟩
  | @tup a vs ds h1 h2 =>
    rw [hT] at h1
    have r0 : Rep c.T F ρ (.ref a) (.tup ds) := .tup (by rw [hT]; exact h1) h2
    refine ⟨_, L2.sl_tupA, a, vs, rfl, q.hr.sub.sqT h1.sq, fun e => ?_, fun _ p hp => Run.newT h q (cut_rep h2 lo hi) hp⟩
    have e2 : cutD ds lo hi = ds := by
      unfold cutD
      rw [← h2.length, e.1, e.2]
      simp [h2.length]
    dsimp only at h
    rw [e2] at h
    exact Run.done h q r0
  | scr h1 =>
    have h1 := q.hr.sub.sqL h1
    rw [hT] at h1
    exact ⟨_, L2.sl_list, _, _, rfl, h1, fun p hp => by rw [cut_ints]; exact Run.newL h q RepL.ints hp⟩
  | ob h1 =>
    obtain ⟨d, e, h⟩ := Run.opt h
    obtain ⟨xs, e1, rfl⟩ := Option.map_eq_some_iff.mp e
    obtain ⟨vs, k1, k2⟩ := q.hr.lc h1 e1
    exact ⟨_, L2.sl_list, _, _, rfl, L2.SqL.of k1, fun p hp => Run.newL h q (cut_rep k2 lo hi) hp⟩
  | _ => exact h.elim
theorem e_slc {e : Expr} {lo hi : Option Expr} {m : M D} {ml mh : M (Option Int)} {p2 : Pos} (hT : c.T.K = X.K) (he : L2.PE X e (tG c rpD m)) (hl : L2.PO X lo (tG c rpO ml)) (hu : L2.PO X hi (tG c rpO mh)) :
    L2.PE X (.Subscript e (.Slice lo hi none p2) pos) (tG c rpD (mBind m fun a => mBind ml fun l => mBind mh fun h => slcD a l h)) :=
  pe_imp (L2.pe_slice (slr_ok hT) he hl hu) fun σ H Q ⟨F, ρ, s, q, h⟩ => ⟨F, ρ, s, q, Run.imp (Run.bind h) fun x H1 ⟨F1, ρ1, s1, d, l1, p1, q1, z1, h1⟩ =>
    ⟨F1, ρ1, s1, q1, Run.imp (Run.bind h1) fun a H2 ⟨F2, ρ2, s2, a', l2, p2, q2, z2, h2⟩ => ⟨F2, ρ2, s2, q2, Run.imp (Run.bind h2) fun b H3 ⟨F3, ρ3, s3, b', l3, p3, q3, z3, h3⟩ => by
      cases z2; cases z3
      exact ⟨F3, ρ3, s3, σ, d, q3, (Rep.mono l2 p2 z1).mono l3 p3, h3⟩⟩⟩⟩
/-! ### op= on a name -/
def iopD : Operator → D → D → M D
  | .Add, .int i, .int j => mPure (.int (i + j))
  | .Add, .str x, .str y => if x.length + y.length ≤ sizeLine then mPure (.str (x ++ y)) else mBad
  | .Sub, .int i, .int j => mPure (.int (i - j))
  | .BitOr, .int i, .int j => mPure (.int (Builtin.bitOr i j))
  | _, _, _ => mBad
theorem opr_iop (op : Operator) : L2.OpR X (inplaceOp op) (rG2 c (iopD op)) := opr_of fun x y H Q ⟨F, ρ, s, σ, da, db, q, ra, rb, h⟩ => by
  unfold iopD at h
  split at h
  · cases ra; cases rb
    exact ⟨_, L2.iop_add, _, _, rfl, rfl, Run.int h q⟩
  · cases ra; cases rb
    obtain ⟨g, h⟩ := h.guard
    refine ⟨_, L2.iop_add_str, _, _, rfl, rfl, by rw [stS_len, stS_len]; exact g, ?_⟩
    rw [stS_app]
    exact Run.done h q (Rep.str _)
  · cases ra; cases rb
    exact ⟨_, L2.iop_sub, _, _, rfl, rfl, Run.int h q⟩
  · cases ra; cases rb
    exact ⟨_, L2.iop_or, _, _, rfl, rfl, Run.int h q⟩
  · exact h.elim
/-- a slot's frozen value -/
def slotV (i : Nat) : M D := fun s => match s.sl[i]? with
  | some (some d) => if isOwn d then .bad else .ok d s
  | _ => .bad
theorem Run.slotV {F : L2.Hp} {ρ : List Addr} {i : Nat} {s : S} {r : R D} (e : slotV i s = r) : r = .bad ∨ ∃ d, r = .ok d s ∧ s.sl[i]? = some (some d) ∧ isOwn d = false := by
  unfold U.slotV at e
  split at e
  · rename_i d hd
    split at e
    · exact .inl e.symm
    · rename_i g
      exact .inr ⟨d, e.symm, hd, Bool.eq_false_iff.mpr g⟩
  · exact .inl e.symm
theorem SR.atV {F : L2.Hp} {ρ : List Addr} {s : S} {σ : L2.St} {H : L2.Hp} {i : Nat} {d : D} (q : SR c.T c.e F ρ s σ H) (h : s.sl[i]? = some (some d)) (ho : isOwn d = false) : ∃ v, σ[i]? = some (some v) ∧ Rep c.T F ρ v d := by
  obtain ⟨v, h1, h2⟩ := q.sl i d h
  refine ⟨v, h1, ?_⟩
  cases d with
  | own xs => cases ho
  | ownI k fs => cases ho
  | _ => exact h2
theorem s_aug {i : Nat} {x : Str} {op : Operator} {e : Expr} {m : M D} {p : Pos} (h : NmOk X x i) (he : L2.PE X e (tG c rpD m)) :
    L2.PS X (.AugAssign (.Name x p) op e pos) (tS c (sB (mBind (slotV i) fun d0 => mBind m fun d => iopD op d0 d) fun d s => .nx { s with sl := s.sl.set i (some d) })) :=
  ps_imp (L2.ps_aug h.nd h.at_ h.loc he (opr_iop (c := c) op) h.fn) fun D σ H hq => by
    obtain ⟨F, ρ, s, q, hh⟩ := hq
    unfold sB at hh
    have e0 : mBind (slotV i) (fun d0 => mBind m fun d => iopD op d0 d) s = match slotV i s with
      | .bad => .bad
      | .ok d0 s' => mBind m (fun d => iopD op d0 d) s'
      | .exc x s' => .exc x s' := by
      unfold mBind
      cases slotV i s <;> rfl
    rw [e0] at hh
    rcases Run.slotV (F := F) (ρ := ρ) (i := i) (s := s) rfl with e1 | ⟨d0, e1, e2, e3⟩
    · rw [e1] at hh; exact hh.elim
    · rw [e1] at hh
      obtain ⟨v, h1, h2⟩ := q.atV e2 e3
      have hh : RunS c F ρ (sB (mBind m fun d => iopD op d0 d) (fun d s => .nx { s with sl := s.sl.set i (some d) }) s) D := hh
      refine ⟨v, h1, F, ρ, s, q, ?_⟩
      have hq : Run c rpD F ρ (mBind m (fun d => iopD op d0 d) s) σ fun z H2 => D.nx (σ.set i (some z)) H2 := Run.imp (RunS.bind (Rp := rpD) hh) fun z H2 ⟨F2, ρ2, s2, d2, l, pr, q2, r2, h3⟩ => h3.done (q2.put r2 i)
      exact Run.imp (Run.bind hq) fun y H1 ⟨F1, ρ1, s1, d1, l1, p1, q1, r1, h3⟩ => ⟨F1, ρ1, s1, σ, d0, d1, q1, h2.mono l1 p1, r1, h3⟩
/-! ### a slot's own list, or a cell, is changed -/
/-- the list in a slot that may be changed -/
def mutOf (i : Nat) (s : S) : Option (List D) := match s.sl[i]? with
  | some (some (.own xs)) => some xs
  | some (some (.ob n)) => s.lc n
  | _ => none
def mutTo (i : Nat) (xs : List D) (s : S) : S := match s.sl[i]? with
  | some (some (.own _)) => { s with sl := s.sl.set i (some (.own xs)) }
  | some (some (.ob n)) => { s with cs := s.cs.set n (.L xs) }
  | _ => s
/-- a cell is changed -/
theorem SR.cellTo {T : Tab} {e : En} {F : L2.Hp} {ρ : List Addr} {s : S} {σ : L2.St} {H : L2.Hp} {n : Nat} {a : Addr} {o : L2.HO} {k' : Cell} (q : SR T e F ρ s σ H) (hn : ρ[n]? = some a) (h : CellR T F ρ (L2.upd H a o) a k') : SR T e F ρ { s with cs := s.cs.set n k' } σ (L2.upd H a o) := by
  have ha : a ∈ ρ := List.mem_of_getElem? hn
  have hFa := q.hr.out a ha
  have hnc : n < s.cs.length := by rw [← q.hr.len]; exact (List.getElem?_eq_some_iff.mp hn).1
  refine ⟨⟨fun b u z => ?_, by simpa using q.hr.len, fun m b k k1 k2 => ?_, q.hr.nd, q.hr.out⟩, q.len, fun j d hj => ?_, q.apart, fun b u z hb => ?_, q.fz, q.fnew, q.old, q.new⟩
  · rw [L2.upd_ne (L2.ne_of_none z hFa)]; exact q.hr.sub b u z
  · have k2 : (s.cs.set n k')[m]? = some k := k2
    by_cases hnm : n = m
    · subst hnm
      rw [List.getElem?_set_self hnc] at k2
      cases k2
      rw [hn] at k1; cases k1
      exact h
    · rw [List.getElem?_set_ne hnm] at k2
      refine (q.hr.cell m b k k1 k2).mono (Le.refl F) (List.prefix_refl ρ) fun o' m1 => ?_
      rw [L2.upd_ne fun z : b = a => hnm ?_]; exact m1
      subst z
      obtain ⟨l1, l2⟩ := List.getElem?_eq_some_iff.mp hn
      obtain ⟨l3, l4⟩ := List.getElem?_eq_some_iff.mp k1
      exact (List.getElem_inj q.hr.nd).mp (l2.trans l4.symm)
  · obtain ⟨w, k1, k2⟩ := q.sl j d hj
    refine ⟨w, k1, k2.upd (Le.refl F) (List.prefix_refl ρ) fun b u m1 m2 m3 m4 => ⟨?_, m4, m3⟩⟩
    rw [L2.upd_ne fun z : b = a => m3 (z ▸ ha)]; exact m1
  · rw [L2.upd_ne fun z2 : b = a => hb (z2 ▸ ha)]; exact q.keep b u z hb
theorem SR.mut {F : L2.Hp} {ρ : List Addr} {s : S} {σ : L2.St} {H : L2.Hp} {i : Nat} {xs : List D} (q : SR c.T c.e F ρ s σ H) (h : mutOf i s = some xs) :
    ∃ a vs, σ[i]? = some (some (.ref a)) ∧ H a = some (.lst vs) ∧ RepL c.T F ρ vs xs ∧ ∀ ys ws, RepL c.T F ρ ws ys → SR c.T c.e F ρ (mutTo i ys s) σ (L2.upd H a (.lst ws)) := by
  unfold mutOf at h
  split at h
  · rename_i zs e
    cases h
    obtain ⟨v, hv, a, vs, rfl, h1, h2, h3, h4, h5⟩ := q.sl i _ e
    refine ⟨a, vs, hv, h1, h2, fun ys ws r => ?_⟩
    have hlt : i < s.sl.length := (List.getElem?_eq_some_iff.mp e).1
    have em : mutTo i ys s = { s with sl := s.sl.set i (some (.own ys)) } := by unfold mutTo; rw [e]
    rw [em]
    refine ⟨⟨fun b u z => ?_, q.hr.len, fun n b k k1 k2 => ?_, q.hr.nd, q.hr.out⟩, by simpa using q.len, fun j d hj => ?_, fun j k d1 d2 w hjk k1 k2 o1 o2 => ?_, fun b u z hb => ?_, q.fz, q.fnew, q.old, q.new⟩
    · rw [L2.upd_ne (L2.ne_of_none z h3)]; exact q.hr.sub b u z
    · exact (q.hr.cell n b k k1 k2).mono (Le.refl F) (List.prefix_refl ρ) fun o m1 => by rw [L2.upd_ne fun z : b = a => h4 (z ▸ List.mem_of_getElem? k1)]; exact m1
    · have hj : (s.sl.set i (some (.own ys)))[j]? = some (some d) := hj
      by_cases hij : i = j
      · subst hij
        rw [List.getElem?_set_self hlt] at hj
        cases hj
        exact ⟨.ref a, hv, a, ws, rfl, L2.upd_same, r, h3, h4, h5⟩
      · rw [List.getElem?_set_ne hij] at hj
        obtain ⟨w, k1, k2⟩ := q.sl j d hj
        refine ⟨w, k1, ?_⟩
        cases d with
        | own zs' =>
          obtain ⟨b, ws', rfl, m1, m2, m3⟩ := k2
          have nb : b ≠ a := fun z => q.apart i j _ _ (.ref a) hij e hj rfl rfl hv (by rw [← z]; exact k1)
          exact ⟨b, ws', rfl, by rw [L2.upd_ne nb]; exact m1, m2, m3⟩
        | ownI k fs =>
          obtain ⟨b, dx, ws', rfl, m1, md, m2, m3⟩ := k2
          have nb : b ≠ a := fun z => q.apart i j _ _ (.ref a) hij e hj rfl rfl hv (by rw [← z]; exact k1)
          exact ⟨b, dx, ws', rfl, by rw [L2.upd_ne nb]; exact m1, by rw [L2.upd_ne (L2.ne_of md h1 (by intro z; cases z))]; exact md, m2, m3⟩
        | _ => exact k2
    · have k1 : (s.sl.set i (some (.own ys)))[j]? = some (some d1) := k1
      have k2 : (s.sl.set i (some (.own ys)))[k]? = some (some d2) := k2
      have back : ∀ {m d'}, (s.sl.set i (some (.own ys)))[m]? = some (some d') → isOwn d' = true → ∃ d'', s.sl[m]? = some (some d'') ∧ isOwn d'' = true := fun {m d'} hm o => by
        by_cases z : i = m
        · subst z; exact ⟨_, e, rfl⟩
        · rw [List.getElem?_set_ne z] at hm; exact ⟨d', hm, o⟩
      obtain ⟨e1, m1, m2⟩ := back k1 o1
      obtain ⟨e2, m3, m4⟩ := back k2 o2
      exact q.apart j k e1 e2 w hjk m1 m3 m2 m4
    · have := q.keep b u z hb
      rw [L2.upd_ne fun z2 : b = a => by subst z2; rw [h5] at z; cases z]; exact this
  · rename_i n e
    obtain ⟨v, hv, hr⟩ := q.atV e rfl
    cases hr with
    | @ob a _ hn =>
    obtain ⟨vs, h1, h2⟩ := q.hr.lc hn h
    refine ⟨a, vs, hv, h1, h2, fun ys ws r => ?_⟩
    have em : mutTo i ys s = { s with cs := s.cs.set n (.L ys) } := by unfold mutTo; rw [e]
    rw [em]
    exact q.cellTo hn ⟨ws, L2.upd_same, r⟩
  · cases h
/-- x[i] = e -/
def setIx (i : Nat) (k d : D) : MS := fun s => match k with
  | .int j => (match mutOf i s with
    | some xs => (match L2.ixN xs.length j with
      | some n => .nx (mutTo i (xs.set n d) s)
      | none => .bad)
    | none => .bad)
  | _ => .bad
theorem s_setIx {i : Nat} {x : Str} {e b : Expr} {m mb : M D} {p p2 : Pos} (hN : X.N[i]? = some x) (hv : L2.Vis X.env.scope x) (hd : (x == ("__debug__" : Str)) = false) (hcd : (x == ("__classdict__" : Str)) = false) (he : L2.PE X e (tG c rpD m)) (hb : L2.PE X b (tG c rpD mb)) (hn : notComp e = true) (hs : notSlice b = true) :
    L2.PS X (.Assign [.Subscript (.Name x p) b p2] e pos) (tS c (sB m fun d s => if (s.sl[i]?).join.isSome then sB mb (fun k => setIx i k d) s else .bad)) := by
  have hsw : swapsWithSole [.Subscript (.Name x p) b p2] e pos.line X.env = pure false := by
    show swapsWith e (some (.Subscript (.Name x p) b p2)) pos.line X.env = pure false
    exact swaps_no hn _ _ _
  have hw : swappedStores [.Subscript (.Name x p) b p2] e X.env = pure none := by cases e <;> rfl
  have ha : ∀ v, assign (.Subscript (.Name x p) b p2) X.env v = (do
      let ov ← holding [v] (eval (.Name x p) X.env)
      let iv ← holding [v, ov] (eval b X.env)
      standAt p2
      holding [v, ov, iv] (setItem ov iv v)
      release [v, ov, iv] []) := fun v => by cases b <;> first | rfl | cases hs
  -- the store's reading: what is known of the state at the store
  let tset : L2.TSet := fun o i v H Q => ∃ p xs k j, o = .ref p ∧ i = .int k ∧ H p = some (.lst xs) ∧ L2.ixN xs.length k = some j ∧ Q (L2.upd H p (.lst (xs.set j v)))
  refine ps_imp (L2.ps_asg he (L2.pg_sub (L2.pe_var hN hv hd hcd) hb L2.set_list ha) hsw hw rfl) fun D σ H hq => tS_bind hq fun v H1 F ρ s d q z hh => ?_
  split at hh
  · rename_i g
    obtain ⟨w, hw⟩ : ∃ w, σ[i]? = some (some w) := by
      cases e1 : s.sl[i]? with
      | none => rw [e1] at g; cases g
      | some o =>
        cases o with
        | none => rw [e1] at g; cases g
        | some d0 =>
          obtain ⟨w, h1, _⟩ := q.sl i d0 e1
          exact ⟨w, h1⟩
    refine ⟨w, hw, F, ρ, s, q, Run.imp (RunS.bind (Rp := rpD) hh) fun y H2 ⟨F2, ρ2, s2, k, l, pr, q2, r2, h3⟩ => ?_⟩
    unfold setIx at h3
    cases r2 with
    | int j =>
      dsimp only at h3
      cases e1 : mutOf i s2 with
      | none => rw [e1] at h3; exact h3.elim
      | some xs =>
        rw [e1] at h3
        dsimp only at h3
        obtain ⟨a, vs, k1, k2, k3, k4⟩ := q2.mut e1
        rw [hw] at k1; cases k1
        cases e2 : L2.ixN xs.length j with
        | none => rw [e2] at h3; exact h3.elim
        | some n =>
          rw [e2] at h3
          exact ⟨a, vs, j, n, rfl, rfl, k2, by rw [k3.length]; exact e2, h3.done (k4 (xs.set n d) (vs.set n v) (RepL.set (Rep.mono l pr z) n k3))⟩
    | _ => exact h3.elim
  · exact hh.elim
end
end U

/-! U13: methods of built-in types. -/
namespace U
open PySem PySem.Spec PyProof.Rows

/-- not C(), so no super() -/
def plainBase : Expr → Bool
  | .Call (.Name _ _) [] [] _ => false
  | _ => true
theorem base_ok {o : Expr} (h : plainBase o = true) (attr : Str) (env : Env) (whole : Sem Value) : attributeBase o attr env whole = whole := by
  unfold plainBase at h
  split at h
  · cases h
  · rename_i hn
    unfold attributeBase
    split
    · rename_i id p1 p2
      exact absurd rfl (hn id p1 p2)
    · rfl
def fewArgs (pos : Pos) (es : List Expr) (env : Env) : Bool := es.all notStar && decide (es.length < 30)
theorem few_ok {pos : Pos} {es : List Expr} {env : Env} (h : es.all notStar = true) (hl : es.length < 30) : ((backTo pos (starEach es env)).all (fun x => !x.1) && (backToKw pos (keywordEach [] env)).all (fun x => x.1.isSome)
      && decide (es.length + ([] : List Keyword).length + (if ([] : List Keyword).isEmpty then 0 else 1) < 30)) = true := by
  have h1 : (backTo pos (starEach es env)).all (fun x => !x.1) = true := by
    have := backTo_plain (pos := pos) (env := env) h
    rw [List.all_eq_true]
    rw [List.any_eq_false] at this
    intro x hx
    rw [Bool.not_eq_true']
    exact Bool.eq_false_iff.mpr (this x hx)
  rw [h1]
  show (true && true && decide (es.length + 0 + 0 < 30)) = true
  simpa using hl
section
variable {X : L2.Cx} {c : Cy} {cpos apos : Pos}
abbrev RM := L2.V → List L2.V → L2.Hp → L2.VK → Prop
def rGM (c : Cy) (g : D → List D → M D) : RM := fun x xs H Q => ∃ F ρ s σ d ds, SR c.T c.e F ρ s σ H ∧ Rep c.T F ρ x d ∧ RepL c.T F ρ xs ds ∧ Run c rpD F ρ (g d ds s) σ Q
theorem mtr_of {X : L2.Cx} {id : String} {r : RM} (h : ∀ x xs H Q, r x xs H Q → ∃ r', L2.MtR X id r' ∧ r' x xs H Q) : L2.MtR X id r := fun pins s σ H x xs v us Q I rx rs q => by
  obtain ⟨r', h1, h2⟩ := h x xs H Q q
  exact h1 pins s σ H x xs v us Q I rx rs h2
/-- the kinds a method's receiver may be of -/
def isT (T : String) (d : D) (s : S) : Bool := match d with
  | .str _ => T == "str"
  | .int _ => T == "int"
  | .lst _ => T == "list"
  | .ob n => T == "list" && (s.lc n).isSome
  | _ => false
theorem isT_ok {T : String} {F : L2.Hp} {ρ : List Addr} {s : S} {σ : L2.St} {H : L2.Hp} {v : L2.V} {d : D} (q : SR c.T c.e F ρ s σ H) (r : Rep c.T F ρ v d) (h : isT T d s = true) : L2.tyV X.K T v H := by
  unfold isT at h
  cases r with
  | str x => exact eq_of_beq h
  | int i => exact eq_of_beq h
  | lst h1 h2 => exact .inl ⟨eq_of_beq h, _, L2.SqL.of (q.hr.sub _ _ h1)⟩
  | ob h1 =>
    dsimp only at h
    rw [Bool.and_eq_true] at h
    obtain ⟨xs, e⟩ := Option.isSome_iff_exists.mp h.2
    obtain ⟨vs, k, _⟩ := q.hr.lc h1 e
    exact .inl ⟨eq_of_beq h.1, vs, L2.SqL.of k⟩
  | _ => cases h
/-- o.m(e, ..), m a method of the type T -/
def mMth (T : String) (mo : M D) (ma : M (List D)) (g : D → List D → M D) : M D := mBind mo fun d s => if isT T d s then mBind ma (g d) s else .bad
theorem e_mth {T id : String} {name : Str} {o e : Expr} {es : List Expr} {mo : M D} {ma : M (List D)} {g : D → List D → M D} (pa : PlainAttrs T) (slot : Slot T name id) (hty : typeOf (.builtin id) = pure (.type "method_descriptor")) (hm : L2.MtR X id (rGM c g)) (ho : L2.PE X o (tG c rpD mo)) (ha : L2.PA X (e :: es) (tG c rpL ma))
    (hb : plainBase o = true) (hs : (e :: es).all notStar = true) (hl : (e :: es).length < 30) (hline : (apos.endLine == cpos.line) = true) : L2.PE X (.Call (.Attribute o name apos) (e :: es) [] cpos) (tG c rpD (mMth T mo ma g)) := by
  have hs2 := hs
  rw [List.all_cons, Bool.and_eq_true] at hs2
  refine pe_imp (L2.pe_bm pa slot hty hm ho ha (base_ok hb _ _ _) (few_ok hs hl) hline (starEach_cons hs2.1 _ _) (backTo_plain hs2.2)) fun σ H Q hq => tG_map hq fun v H1 F ρ s d q z hh => ?_
  by_cases ht : isT T d s = true
  · rw [if_pos ht] at hh
    exact ⟨isT_ok q z ht, F, ρ, s, q, Run.imp (Run.bind hh) fun xs H2 ⟨F2, ρ2, s2, ds, l, p, q2, z2, h2⟩ => ⟨F2, ρ2, s2, σ, d, ds, q2, Rep.mono l p z, z2, h2⟩⟩
  · rw [if_neg ht] at hh; exact hh.elim
theorem e_mth0 {T id : String} {name : Str} {o : Expr} {mo : M D} {g : D → List D → M D} (pa : PlainAttrs T) (slot : Slot T name id) (hty : typeOf (.builtin id) = pure (.type "method_descriptor")) (hm : L2.MtR X id (rGM c g)) (ho : L2.PE X o (tG c rpD mo))
    (hb : plainBase o = true) (hline : (apos.endLine == cpos.line) = true) : L2.PE X (.Call (.Attribute o name apos) [] [] cpos) (tG c rpD (mMth T mo (mPure []) g)) := by
  refine pe_imp (L2.pe_bm0 pa slot hty hm ho (base_ok hb _ _ _) hline) fun σ H Q hq => tG_map hq fun v H1 F ρ s d q z hh => ?_
  by_cases ht : isT T d s = true
  · rw [if_pos ht] at hh
    exact ⟨isT_ok q z ht, F, ρ, s, σ, d, [], q, z, RepL.nil, hh⟩
  · rw [if_neg ht] at hh; exact hh.elim
/-! ### texts -/
def joinN (sep : List Nat) : List (List Nat) → List Nat
  | [] => []
  | [p] => p
  | p :: q :: r => p ++ (sep ++ joinN sep (q :: r))
def strsOf (s : S) (d : D) : Option (List (List Nat)) := match d with
  | .tup xs => asStrs xs
  | d => (asL s d).bind asStrs
def joinD (d : D) (ds : List D) : M D := fun s => match d, ds with
  | .str sep, [x] => (match strsOf s x with
    | some ys => if (ys.map (·.length)).sum + ys.length * sep.length ≤ 16777216 then .ok (.str (joinN sep ys)) s else .bad
    | none => .bad)
  | _, _ => .bad
theorem joinN_str (sep : List Nat) : ∀ ys : List (List Nat), Str.join (stS sep) (ys.map stS) = stS (joinN sep ys)
  | [] => rfl
  | [p] => rfl
  | p :: q :: r => by
    show stS p ++ stS sep ++ Str.join (stS sep) ((q :: r).map stS) = _
    rw [joinN_str sep (q :: r), stS_app, stS_app, List.append_assoc]; rfl
theorem joinN_eq (sep : List Nat) (ys : List (List Nat)) : Txt.join (stS sep) (ys.map stS) = stS (joinN sep ys) := by
  rw [TL.join_eq, joinN_str]
theorem len_strs (ys : List (List Nat)) : ((ys.map stS).map (·.length)) = ys.map (·.length) := by
  rw [List.map_map]
  exact List.map_congr_left fun a _ => stS_len a
theorem m_join (hT : c.T.K = X.K) : L2.MtR X "str.join" (rGM c joinD) := mtr_of fun x xs H Q ⟨F, ρ, s, σ, d, ds, q, r, rs, h⟩ => by
  unfold joinD at h
  split at h
  · cases r
    split at h
    · rename_i y ys e
      split at h
      · rename_i g
        obtain ⟨v, rfl, rx⟩ := rs.one
        have fin : ∀ {p : Addr}, (L2.SqL X.K H p ((ys.map stS).map L2.V.str) ∨ L2.SqT X.K H p ((ys.map stS).map L2.V.str)) → ∃ r' : RM, L2.MtR X "str.join" r' ∧ r' (.str (stS _)) [.ref p] H Q := fun {p} hp =>
          ⟨_, L2.mt_join, _, p, ys.map stS, rfl, rfl, hp, by rw [len_strs, List.length_map, stS_len]; exact g, by rw [joinN_eq]; exact Run.done h q (Rep.str _)⟩
        unfold strsOf at e
        split at e
        · obtain ⟨a, vs, rfl, h1, r1⟩ := q.asT rx
          rw [asStrs_ok e] at r1
          rw [r1.ofStrs, hT] at h1
          exact fin (.inr h1)
        · obtain ⟨zs, e1, e2⟩ := Option.bind_eq_some_iff.mp e
          obtain ⟨a, vs, rfl, h1, r1⟩ := q.asL rx e1
          rw [asStrs_ok e2] at r1
          rw [r1.ofStrs] at h1
          exact fin (.inl (L2.SqL.of h1))
      · exact h.elim
    · exact h.elim
  · exact h.elim
/-! ### lists: index -/
def indexD (d : D) (ds : List D) : M D := fun s => match ds with
  | [x] => (match asL s d with
    | some ys => if flatD x && ys.all flatD then mOpt ((ys.findIdx? fun y => eqF y x).map fun (j : Nat) => .int (j : Int)) s else .bad
    | none => .bad)
  | _ => .bad
theorem m_index : L2.MtR X "list.index" (rGM c indexD) := mtr_of fun x xs H Q ⟨F, ρ, s, σ, d, ds, q, r, rs, h⟩ => by
  unfold indexD at h
  split at h
  · rename_i x0
    obtain ⟨v, rfl, rx⟩ := rs.one
    split at h
    · rename_i ys e
      obtain ⟨a, vs, rfl, h1, r1⟩ := q.asL r e
      split at h
      · rename_i g
        rw [Bool.and_eq_true] at g
        obtain ⟨d', e1, h⟩ := Run.opt h
        obtain ⟨j, e2, rfl⟩ := Option.map_eq_some_iff.mp e1
        obtain ⟨hj, k1, k2⟩ := List.findIdx?_eq_some_iff_getElem.mp e2
        obtain ⟨z, m1, m2⟩ := r1.get (List.getElem?_eq_getElem hj)
        have fl : ∀ {i : Nat} (hi : i < ys.length), flatD ys[i] = true := fun {i} hi => List.all_eq_true.mp g.2 _ (List.getElem_mem hi)
        refine ⟨_, L2.mt_index, a, vs, v, j, z, rfl, rfl, L2.SqL.of h1, flatD_ok rx g.1, flatL_ok r1 g.2, m1, ?_, fun m z' hm hz' => ?_, Run.int h q⟩
        · rw [eqF_ok m2 rx (fl hj) g.1]; exact k1
        · have hml : m < ys.length := by omega
          obtain ⟨z2, n1, n2⟩ := r1.get (List.getElem?_eq_getElem hml)
          rw [hz'] at n1; cases n1
          rw [eqF_ok n2 rx (fl hml) g.1]
          exact Bool.eq_false_iff.mpr (by simpa using k2 m hm)
      · exact h.elim
    · exact h.elim
  · exact h.elim
/-! ### a slot's list, changed by a method -/
inductive Mu where
  | append | insert | extend | clear | pop
def muD (m : Mu) (xs ds : List D) : Option (List D × D) := match m, ds with
  | .append, [d] => if xs.length < sizeLine then some (xs ++ [d], .non) else none
  | .insert, [.int i, d] => if xs.length < sizeLine ∧ 0 ≤ i ∧ i < 2 ^ 63 then some (xs.take i.toNat ++ [d] ++ xs.drop i.toNat, .non) else none
  | .extend, [.lst ys] => if xs.length + ys.length ≤ sizeLine then some (xs ++ ys, .non) else none
  | .clear, [] => some ([], .non)
  | .pop, [] => (xs[xs.length - 1]?).map fun d => (xs.dropLast, d)
  | _, _ => none
def muId : Mu → String
  | .append => "list.append" | .insert => "list.insert" | .extend => "list.extend" | .clear => "list.clear" | .pop => "list.pop"
def muName : Mu → Str
  | .append => "append" | .insert => "insert" | .extend => "extend" | .clear => "clear" | .pop => "pop"
theorem muSlot : ∀ m : Mu, Slot "list" (muName m) (muId m)
  | .append => PySem.F.slot_list_append
  | .insert => PySem.F.slot_list_insert
  | .extend => PySem.F.slot_list_extend
  | .clear => PySem.F.slot_list_clear
  | .pop => PySem.F.slot_list_pop
theorem muType : ∀ m : Mu, typeOf (.builtin (muId m)) = pure (.type "method_descriptor")
  | .append => PySem.F.type_list_append
  | .insert => PySem.F.type_list_insert
  | .extend => PySem.F.type_list_extend
  | .clear => PySem.F.type_list_clear
  | .pop => PySem.F.type_list_pop
/-- the change by values -/
def rMu (m : Mu) : RM := fun x vs H Q => ∃ l xs ys v, x = .ref l ∧ H l = some (.lst xs) ∧ Q v (L2.upd H l (.lst ys)) ∧ (match m, vs with
  | .append, [y] => xs.length < sizeLine ∧ ys = xs ++ [y] ∧ v = .non
  | .insert, [.int i, y] => xs.length < sizeLine ∧ 0 ≤ i ∧ i < 2 ^ 63 ∧ ys = xs.take i.toNat ++ [y] ++ xs.drop i.toNat ∧ v = .non
  | .extend, [.ref b] => ∃ zs, H b = some (.lst zs) ∧ xs.length + zs.length ≤ sizeLine ∧ ys = xs ++ zs ∧ v = .non
  | .clear, [] => ys = [] ∧ v = .non
  | .pop, [] => xs[xs.length - 1]? = some v ∧ ys = xs.dropLast
  | _, _ => False)
theorem m_mu (m : Mu) : L2.MtR X (muId m) (rMu m) := mtr_of fun x vs H Q ⟨l, xs, ys, v, hx, hl, hQ, h⟩ => by
  subst hx
  cases m with
  | append =>
    rcases vs with _ | ⟨y, _ | ⟨z, r⟩⟩
    · exact h.elim
    · obtain ⟨h1, rfl, rfl⟩ := h; exact ⟨_, L2.mt_append, l, xs, _, rfl, rfl, hl, h1, hQ⟩
    · exact h.elim
  | insert =>
    rcases vs with _ | ⟨u, _ | ⟨y, _ | ⟨z, r⟩⟩⟩
    · exact h.elim
    · cases u <;> exact h.elim
    · cases u <;> first | exact h.elim | skip
      obtain ⟨h1, h2, h3, rfl, rfl⟩ := h; exact ⟨_, L2.mt_insert, l, xs, _, _, rfl, rfl, hl, h1, h2, h3, hQ⟩
    · cases u <;> exact h.elim
  | extend =>
    rcases vs with _ | ⟨u, _ | ⟨z, r⟩⟩
    · exact h.elim
    · cases u <;> first | exact h.elim | skip
      obtain ⟨zs, h1, h2, rfl, rfl⟩ := h; exact ⟨_, L2.mt_extend, l, _, xs, zs, rfl, rfl, hl, h1, h2, hQ⟩
    · cases u <;> exact h.elim
  | clear =>
    rcases vs with _ | ⟨u, r⟩
    · obtain ⟨rfl, rfl⟩ := h; exact ⟨_, L2.mt_clear, l, xs, rfl, rfl, hl, hQ⟩
    · exact h.elim
  | pop =>
    rcases vs with _ | ⟨u, r⟩
    · obtain ⟨h1, rfl⟩ := h; exact ⟨_, L2.mt_pop, l, xs, v, rfl, rfl, hl, h1, hQ⟩
    · exact h.elim
/-- behind the arguments -/
def muEnd (m : Mu) (i : Nat) (ds : List D) : M D := fun s => match mutOf i s with
  | some xs => (match muD m xs ds with
    | some (ys, d) => .ok d (mutTo i ys s)
    | none => .bad)
  | none => .bad
def muV (m : Mu) (i : Nat) (ma : M (List D)) : M D := fun s => if (mutOf i s).isSome then mBind ma (muEnd m i) s else .bad
theorem mu_end {m : Mu} {i : Nat} {F : L2.Hp} {ρ : List Addr} {s : S} {σ : L2.St} {H : L2.Hp} {a : Addr} {vs : List L2.V} {ds : List D} {Q : L2.VK} (q : SR c.T c.e F ρ s σ H) (ha : σ[i]? = some (some (.ref a))) (r : RepL c.T F ρ vs ds) (h : Run c rpD F ρ (muEnd m i ds s) σ Q) : rMu m (.ref a) vs H Q := by
  unfold muEnd at h
  cases e : mutOf i s with
  | none => rw [e] at h; exact h.elim
  | some xs =>
    rw [e] at h
    dsimp only at h
    obtain ⟨a', ws, h0, h1, h2, h3⟩ := q.mut e
    rw [ha] at h0; cases h0
    cases e2 : muD m xs ds with
    | none => rw [e2] at h; exact h.elim
    | some yd =>
      obtain ⟨ys, d⟩ := yd
      rw [e2] at h
      dsimp only at h
      unfold muD at e2
      split at e2
      · split at e2
        · rename_i g
          cases e2
          obtain ⟨v, rfl, rv⟩ := r.one
          exact ⟨a, ws, ws ++ [v], .non, rfl, h1, Run.done h (h3 _ _ (h2.append (.cons rv .nil))) .non, by rw [h2.length]; exact g, rfl, rfl⟩
        · cases e2
      · split at e2
        · rename_i g
          cases e2
          obtain ⟨u, v, rfl, ru, rv⟩ := r.two
          cases ru
          exact ⟨a, ws, _, .non, rfl, h1, Run.done h (h3 _ _ (((h2.take _).append (.cons rv .nil)).append (h2.drop _))) .non, by rw [h2.length]; exact g.1, g.2.1, g.2.2, rfl, rfl⟩
        · cases e2
      · split at e2
        · rename_i g
          cases e2
          obtain ⟨u, rfl, ru⟩ := r.one
          obtain ⟨b, zs, rfl, k1, k2⟩ := q.asL ru rfl
          exact ⟨a, ws, ws ++ zs, .non, rfl, h1, Run.done h (h3 _ _ (h2.append k2)) .non, zs, k1, by rw [h2.length, k2.length]; exact g, rfl, rfl⟩
        · cases e2
      · cases e2
        cases r
        exact ⟨a, ws, [], .non, rfl, h1, Run.done h (h3 _ _ .nil) .non, rfl, rfl⟩
      · cases r
        obtain ⟨d', e3, e4⟩ := Option.map_eq_some_iff.mp e2
        cases e4
        obtain ⟨v, k1, k2⟩ := h2.get e3
        have hd : RepL c.T F ρ ws.dropLast xs.dropLast := by
          rw [List.dropLast_eq_take, List.dropLast_eq_take, h2.length]
          exact h2.take _
        exact ⟨a, ws, ws.dropLast, v, rfl, h1, Run.done h (h3 _ _ hd) k2, by rw [h2.length]; exact k1, rfl⟩
      · cases e2
theorem e_muV {m : Mu} {i : Nat} {x : Str} {e : Expr} {es : List Expr} {ma : M (List D)} {p : Pos} (hN : X.N[i]? = some x) (hv : L2.Vis X.env.scope x) (hd : (x == ("__debug__" : Str)) = false) (hcd : (x == ("__classdict__" : Str)) = false) (ha : L2.PA X (e :: es) (tG c rpL ma))
    (hs : (e :: es).all notStar = true) (hl : (e :: es).length < 30) (hline : (apos.endLine == cpos.line) = true) : L2.PE X (.Call (.Attribute (.Name x p) (muName m) apos) (e :: es) [] cpos) (tG c rpD (muV m i ma)) := by
  have hs2 := hs
  rw [List.all_cons, Bool.and_eq_true] at hs2
  refine pe_imp (L2.pe_bm PySem.F.plainAttrs_list (muSlot m) (muType m) (m_mu m) (L2.pe_var hN hv hd hcd) ha (base_ok rfl _ _ _) (few_ok hs hl) hline (starEach_cons hs2.1 _ _) (backTo_plain hs2.2)) fun σ H Q ⟨F, ρ, s, q, hh⟩ => ?_
  unfold muV at hh
  by_cases hm : (mutOf i s).isSome = true
  · rw [if_pos hm] at hh
    obtain ⟨xs, e1⟩ := Option.isSome_iff_exists.mp hm
    obtain ⟨a, vs, h0, h1, _⟩ := q.mut e1
    exact ⟨.ref a, h0, .inl ⟨rfl, vs, L2.SqL.of h1⟩, F, ρ, s, q, Run.imp (Run.bind (Rp := rpL) hh) fun ys H2 ⟨F2, ρ2, s2, ds, l, pr, q2, z2, h2⟩ => mu_end q2 h0 z2 h2⟩
  · rw [if_neg hm] at hh; exact hh.elim
theorem e_muV0 {m : Mu} {i : Nat} {x : Str} {p : Pos} (hN : X.N[i]? = some x) (hv : L2.Vis X.env.scope x) (hd : (x == ("__debug__" : Str)) = false) (hcd : (x == ("__classdict__" : Str)) = false) (hline : (apos.endLine == cpos.line) = true) :
    L2.PE X (.Call (.Attribute (.Name x p) (muName m) apos) [] [] cpos) (tG c rpD (muV m i (mPure []))) := by
  refine pe_imp (L2.pe_bm0 PySem.F.plainAttrs_list (muSlot m) (muType m) (m_mu m) (L2.pe_var hN hv hd hcd) (base_ok rfl _ _ _) hline) fun σ H Q ⟨F, ρ, s, q, hh⟩ => ?_
  unfold muV at hh
  by_cases hm : (mutOf i s).isSome = true
  · rw [if_pos hm] at hh
    obtain ⟨xs, e1⟩ := Option.isSome_iff_exists.mp hm
    obtain ⟨a, vs, h0, h1, _⟩ := q.mut e1
    exact ⟨.ref a, h0, .inl ⟨rfl, vs, L2.SqL.of h1⟩, mu_end q h0 .nil hh⟩
  · rw [if_neg hm] at hh; exact hh.elim
end
end U

/-! U14: truth as values, unary operators, new cells, while, f-strings. -/
namespace U
open PySem PySem.Spec PyProof.Rows

/-! ### constants -/
def stD (x : Str) : List Nat := x.cps.toList
theorem stS_D (x : Str) : stS (stD x) = x := by
  obtain ⟨c⟩ := x
  unfold stS stD
  rfl
section
variable {X : L2.Cx} {c : Cy} {pos : Pos}
theorem e_none {j : Nat} : L2.PE X (.Constant .none j pos) (tG c rpD (mPure .non)) := e_lit L2.pe_non fun _ _ => .non
theorem e_bl {b : Bool} {j : Nat} : L2.PE X (.Constant (.bool b) j pos) (tG c rpD (mPure (.bl b))) := e_lit L2.pe_bl fun _ _ => .bl b
theorem e_int {i : Int} {j : Nat} : L2.PE X (.Constant (.int i) j pos) (tG c rpD (mPure (.int i))) := e_lit L2.pe_int fun _ _ => .int i
theorem e_str {x : Str} {j : Nat} : L2.PE X (.Constant (.str x) j pos) (tG c rpD (mPure (.str (stD x)))) := e_lit L2.pe_str fun F ρ => by
  have := @Rep.str c.T F ρ (stD x)
  rw [stS_D] at this
  exact this

/-! ### truth -/
def truB (s : S) (d : D) : Option Bool := match d with
  | .non => some false
  | .bl b => some b
  | .int i => some (i != 0)
  | .str x => if x.length ≤ sizeLine then some ((x.length : Int) != 0) else none
  | .tup xs => some (!xs.isEmpty)
  | .lst xs => some (!xs.isEmpty)
  | .ob n => (s.lc n).map fun xs => !xs.isEmpty
  | _ => none
theorem truB_ok {F : L2.Hp} {ρ : List Addr} {s : S} {σ : L2.St} {H : L2.Hp} {v : L2.V} {d : D} {k : Bool} (hT : c.T.K = X.K) (q : SR c.T c.e F ρ s σ H) (r : Rep c.T F ρ v d) (h : truB s d = some k) : L2.TruV X.K v H k := by
  rw [← hT]
  unfold truB at h
  cases r with
  | non => cases h; rfl
  | bl b => cases h; rfl
  | int i => cases h; rfl
  | str x =>
    simp only at h
    split at h
    · rename_i g
      cases h
      exact ⟨by rw [stS_len]; exact g, by rw [stS_len]⟩
    · cases h
  | tup h1 h2 => cases h; exact .inr (.inl ⟨_, q.hr.sub.sqT h1.sq, by rw [h2.isEmpty]⟩)
  | lst h1 h2 => cases h; exact .inl ⟨_, L2.SqL.of (q.hr.sub _ _ h1), by rw [h2.isEmpty]⟩
  | ob h1 =>
    obtain ⟨xs, e1, rfl⟩ := Option.map_eq_some_iff.mp h
    obtain ⟨vs, k1, k2⟩ := q.hr.lc h1 e1
    exact .inl ⟨_, L2.SqL.of k1, by rw [k2.isEmpty]⟩
  | _ => cases h
/-- a value, then by its truth -/
def mTru (m : M D) (f : D → Bool → M D) : M D := mBind m fun d s => match truB s d with
  | some k => f d k s
  | none => .bad
theorem tru_map {m : M D} {f : D → Bool → M D} {σ : L2.St} {H : L2.Hp} {Q : L2.VK} {P : Bool → L2.V → L2.Hp → Prop} (hT : c.T.K = X.K) (h : tG c rpD (mTru m f) σ H Q)
    (i : ∀ v H1 F ρ s d k, SR c.T c.e F ρ s σ H1 → Rep c.T F ρ v d → Run c rpD F ρ (f d k s) σ Q → P k v H1) : tG c rpD m σ H fun v H1 => ∃ k, L2.TruV X.K v H1 k ∧ P k v H1 :=
  tG_map h fun v H1 F ρ s d q z hh => by
    cases e : truB s d with
    | none => rw [e] at hh; exact hh.elim
    | some k =>
      rw [e] at hh
      exact ⟨k, truB_ok hT q z e, i v H1 F ρ s d k q z hh⟩
def mAndV : List (M D) → M D
  | [] => mBad
  | [m] => m
  | m :: r => mTru m fun d k => if k then mAndV r else mPure d
def mOrV : List (M D) → M D
  | [] => mBad
  | [m] => m
  | m :: r => mTru m fun d k => if k then mPure d else mOrV r
theorem e_and (hT : c.T.K = X.K) {f : Expr → M D} : ∀ {es : List Expr}, es ≠ [] → (∀ e ∈ es, L2.PE X e (tG c rpD (f e))) → L2.PE X (.BoolOp .And es pos) (tG c rpD (mAndV (es.map f)))
  | [], h, _ => absurd rfl h
  | [e], _, h => L2.pe_one (h e List.mem_cons_self)
  | e :: e2 :: r, _, h => by
    refine pe_imp (L2.pe_andT (h e List.mem_cons_self) (e_and hT (es := e2 :: r) (List.cons_ne_nil _ _) fun e' he => h e' (List.mem_cons_of_mem _ he))) fun σ H Q hq => ?_
    refine tru_map (f := fun d k => if k then mAndV ((e2 :: r).map f) else mPure d) hT hq fun v H1 F ρ s d k q z hh => ?_
    cases k
    · exact Run.done hh q z
    · exact ⟨F, ρ, s, q, hh⟩
theorem e_or (hT : c.T.K = X.K) {f : Expr → M D} : ∀ {es : List Expr}, es ≠ [] → (∀ e ∈ es, L2.PE X e (tG c rpD (f e))) → L2.PE X (.BoolOp .Or es pos) (tG c rpD (mOrV (es.map f)))
  | [], h, _ => absurd rfl h
  | [e], _, h => L2.pe_one (h e List.mem_cons_self)
  | e :: e2 :: r, _, h => by
    refine pe_imp (L2.pe_orT (h e List.mem_cons_self) (e_or hT (es := e2 :: r) (List.cons_ne_nil _ _) fun e' he => h e' (List.mem_cons_of_mem _ he))) fun σ H Q hq => ?_
    refine tru_map (f := fun d k => if k then mPure d else mOrV ((e2 :: r).map f)) hT hq fun v H1 F ρ s d k q z hh => ?_
    cases k
    · exact ⟨F, ρ, s, q, hh⟩
    · exact Run.done hh q z
theorem e_not {a : Expr} {m : M D} (hT : c.T.K = X.K) (h : L2.PE X a (tG c rpD m)) : L2.PE X (.UnaryOp .Not a pos) (tG c rpD (mTru m fun _ k => mPure (.bl (!k)))) :=
  pe_imp (L2.pe_notT h) fun σ H Q hq => tru_map (P := fun k v H1 => Q (.bl (!k)) H1) hT hq fun v H1 F ρ s d k q z hh => Run.done hh q (Rep.bl (!k))
/-! ### unary operators on ints -/
def unD (op : UnaryOp) (d : D) : M D := match op, d with
  | .USub, .int i => mPure (.int (-i))
  | .Invert, .int i => mPure (.int (Builtin.bitNot i))
  | _, _ => mBad
theorem e_neg {a : Expr} {m : M D} (h : L2.PE X a (tG c rpD m)) : L2.PE X (.UnaryOp .USub a pos) (tG c rpD (mBind m (unD .USub))) :=
  pe_imp (L2.pe_un L2.un_neg h) fun σ H Q hq => tG_map hq fun v H1 F ρ s d q z hh => by
    unfold unD at hh
    cases z with
    | int i => exact ⟨i, rfl, hh.int q⟩
    | _ => exact hh.elim
theorem e_inv {a : Expr} {m : M D} (h : L2.PE X a (tG c rpD m)) : L2.PE X (.UnaryOp .Invert a pos) (tG c rpD (mBind m (unD .Invert))) :=
  pe_imp (L2.pe_un L2.un_inv h) fun σ H Q hq => tG_map hq fun v H1 F ρ s d q z hh => by
    unfold unD at hh
    cases z with
    | int i => exact ⟨i, rfl, hh.int q⟩
    | _ => exact hh.elim
end
/-! ### a new list that will be changed: a cell -/
section
variable {T : Tab} {e : En} {F : L2.Hp} {ρ : List Addr} {s : S} {σ : L2.St} {H : L2.Hp} {p : Addr}
theorem SR.newC {o : L2.HO} {k' : Cell} (q : SR T e F ρ s σ H) (h : H p = none) (hk : CellR T F (ρ ++ [p]) (L2.upd H p o) p k') : SR T e F (ρ ++ [p]) { s with cs := s.cs ++ [k'] } σ (L2.upd H p o) := by
  have hF := q.fnone h
  have hr := q.rnone h
  have pr : ρ <+: ρ ++ [p] := List.prefix_append _ _
  refine ⟨⟨fun a u z => ?_, by simpa using q.hr.len, fun n a c h1 h2 => ?_, ?_, fun a ha => ?_⟩, q.len, fun i d hd => ?_, q.apart, fun a u z ha => ?_, q.fz, q.fnew, q.old.trans pr, fun a ha => ?_⟩
  · have := q.hr.sub a u z
    rw [L2.upd_ne (L2.ne_of_none this h)]; exact this
  · by_cases hn : n < ρ.length
    · rw [List.getElem?_append_left hn] at h1
      have h2 : (s.cs ++ [k'])[n]? = some c := h2
      rw [List.getElem?_append_left (by rw [← q.hr.len]; exact hn)] at h2
      exact (q.hr.cell n a c h1 h2).mono (Le.refl F) pr fun o k1 => by rw [L2.upd_ne (L2.ne_of_none k1 h)]; exact k1
    · have hn2 : n = ρ.length := by
        have := (List.getElem?_eq_some_iff.mp h1).1
        rw [List.length_append, List.length_singleton] at this
        omega
      subst hn2
      rw [List.getElem?_append_right (Nat.le_refl _), Nat.sub_self] at h1
      have h2 : (s.cs ++ [k'])[ρ.length]? = some c := h2
      rw [q.hr.len, List.getElem?_append_right (Nat.le_refl _), Nat.sub_self] at h2
      cases h1; cases h2
      exact hk
  · rw [List.nodup_append]
    refine ⟨q.hr.nd, List.nodup_cons.mpr ⟨fun z => (by cases z), List.nodup_nil⟩, fun a ha b hb => ?_⟩
    rw [List.mem_singleton.mp hb]
    exact fun z => hr (z ▸ ha)
  · rcases List.mem_append.mp ha with k | k
    · exact q.hr.out a k
    · rw [List.mem_singleton.mp k]; exact hF
  · obtain ⟨v, h1, h2⟩ := q.sl i d hd
    refine ⟨v, h1, h2.upd (Le.refl F) pr fun a u k1 k2 k3 k4 => ?_⟩
    have ne := L2.ne_of_none k1 h
    exact ⟨by rw [L2.upd_ne ne]; exact k1, k4, fun z => by
      rcases List.mem_append.mp z with k | k
      · exact k3 k
      · exact ne (List.mem_singleton.mp k)⟩
  · have := q.keep a u z fun k => ha (List.mem_append_left _ k)
    rw [L2.upd_ne (L2.ne_of_none this h)]; exact this
  · rcases List.mem_append.mp ha with k | k
    · exact q.new a k
    · rw [List.mem_singleton.mp k]; exact .inr (q.bnone h)
theorem SR.newCell {vs : List L2.V} {ds : List D} (q : SR T e F ρ s σ H) (h : H p = none) (r : RepL T F ρ vs ds) : SR T e F (ρ ++ [p]) { s with cs := s.cs ++ [.L ds] } σ (L2.upd H p (.lst vs)) :=
  q.newC h ⟨vs, L2.upd_same, r.mono (Le.refl F) (List.prefix_append _ _)⟩
end
def mCell (m : M (List D)) : M D := fun s => match m s with
  | .bad => .bad
  | .exc x s' => .exc x s'
  | .ok ds s' => .ok (.ob s'.cs.length) { s' with cs := s'.cs ++ [.L ds] }
section
variable {X : L2.Cx} {c : Cy} {pos : Pos}
theorem e_cell {e : Expr} {m : M (List D)} (h : L2.PE X e (tF c m)) : L2.PE X e (tG c rpD (mCell m)) := pe_imp h fun σ H Q ⟨F, ρ, s, q, hh⟩ => ⟨F, ρ, s, q, by
  unfold mCell at hh
  cases e1 : m s with
  | bad => rw [e1] at hh; exact hh.elim
  | exc x s' => rw [e1] at hh; exact hh
  | ok ds s' =>
    rw [e1] at hh
    intro vs H' F' ρ' p l pr q' rr hp
    refine hh (.ref p) _ F' (ρ' ++ [p]) l (pr.trans (List.prefix_append _ _)) (q'.newCell hp rr) (.ob ?_)
    rw [← q'.hr.len, List.getElem?_append_right (Nat.le_refl _), Nat.sub_self]; rfl⟩
/-! ### while -/
def whileL (t : M Bool) (body : MS) : Nat → MS
  | 0, _ => .bad
  | n + 1, s => match t s with
    | .bad => .bad
    | .exc x s1 => .exc x s1
    | .ok false s1 => .nx s1
    | .ok true s1 => match body s1 with
      | .nx s2 => whileL t body n s2
      | .ct s2 => whileL t body n s2
      | .bk s2 => .nx s2
      | x => x
theorem s_while {t : Expr} {body : List Stmt} {mt : M Bool} {mb : MS} {n : Nat} (hp : PassesOwn (model X.prog X.w) X.A X.env X.xe) (ht : L2.PT X t (tG c rpB mt)) (hb : L2.PSs X body (tS c mb)) : L2.PS X (.While t body [] pos) (tS c (whileL mt mb n)) :=
  ps_imp (L2.ps_while hp ht hb) fun D σ H ⟨F0, ρ0, s0, q0, h0⟩ => by
    refine ⟨fun m σ H => ∃ F ρ s, SR c.T c.e F ρ s σ H ∧ RunS c F ρ (whileL mt mb m s) D, ⟨n, F0, ρ0, s0, q0, h0⟩, ?_⟩
    rintro m σ H ⟨F, ρ, s, q, h⟩
    cases m with
    | zero => exact h.elim
    | succ m =>
      refine ⟨F, ρ, s, q, ?_⟩
      unfold whileL at h
      cases e : mt s with
      | bad => rw [e] at h; exact h.elim
      | exc x s1 =>
        rw [e] at h
        exact fun cls dd H' F' ρ' l p q' z => h cls dd σ H' F' ρ' l p q' z
      | ok k s1 =>
        rw [e] at h
        intro b H1 F1 ρ1 l1 p1 q1 hb1
        have hb1 : b = k := hb1
        subst hb1
        cases b with
        | false =>
          rw [if_neg (by decide)]
          exact h σ H1 F1 ρ1 l1 p1 q1
        | true =>
          rw [if_pos rfl]
          refine ⟨fun σ' H' => ∃ F' ρ' s', SR c.T c.e F' ρ' s' σ' H' ∧ RunS c F' ρ' (whileL mt mb m s') D, fun σ' H' z => ⟨m, Nat.lt_succ_self m, z⟩, F1, ρ1, s1, q1, ?_⟩
          have h := RunS.mono l1 p1 h
          dsimp only at h
          cases e2 : mb s1 with
          | nx s2 =>
            rw [e2] at h
            exact fun σ' H' F' ρ' l p q' => ⟨F', ρ', s2, q', RunS.mono l p h⟩
          | ct s2 =>
            rw [e2] at h
            exact fun σ' H' F' ρ' l p q' => ⟨F', ρ', s2, q', RunS.mono l p h⟩
          | _ => rw [e2] at h; exact h
end
end U

/-! X1: where defs stand (globals, methods, properties); the facts that the head leaves; the Hook. -/
namespace U
open PySem PySem.Spec PyProof.Rows
/-- a def's place -/
inductive Plc where
  | glo (x : Str)
  | meth (x m : Str)
  | prop (x m : Str)
deriving DecidableEq
def pAd (K : PySem.W.Frag) (x m : Str) : Addr := match PySem.W.recIn K (He.ma K (He.ga K x) m) "property" with
  | some (.ref g :: _) => g
  | _ => 0
def Plc.ad (K : PySem.W.Frag) : Plc → Addr
  | .glo x => He.ga K x
  | .meth x m => He.ma K (He.ga K x) m
  | .prop x m => pAd K x m
structure DefX where
  at_ : Plc
  name : Str
  qual : Str
  params : Arguments
  body : List Stmt
  scope : Scope
  dfl : List He.Dv := []
  kwd : List (Str × He.Dv) := []
def DefX.ad (d : DefX) (K : PySem.W.Frag) : Addr := d.at_.ad K
def DefX.val (d : DefX) : He.FnW := some (d.name, d.qual, d.params, .stmts d.body, d.scope, mainGlobals, [], builtinsNs)
def DefX.dvs (K : PySem.W.Frag) (d : DefX) : List L2.V := d.dfl.map (He.Dv.v K)
def DefX.kws (K : PySem.W.Frag) (d : DefX) : List (Str × L2.V) := d.kwd.map fun q => (q.1, q.2.v K)
def fnA (K : PySem.W.Frag) (a : Addr) : He.FnW := match K.lookup a with
  | some ⟨_, _, .func fd, _⟩ => some (fd.name, fd.qualname, fd.params, fd.body, fd.scope, fd.globals, fd.closure, fd.builtins)
  | _ => none
def DefX.ok (K : PySem.W.Frag) (d : DefX) : Bool := PySem.W.keepIn K (.ref (d.ad K)) && (match K.lookup (d.ad K) with
  | some ⟨_, _, .func fd, _⟩ => PySem.W.codeIn K fd.code d.qual && (He.dflB K fd.defaults (d.dvs K) && He.kwdB K fd.kwdefaults (d.kws K))
  | _ => false)
theorem DefX.funD {K : PySem.W.Frag} {d : DefX} (e : fnA K (d.ad K) = d.val) (c : d.ok K = true) : ∃ fd, L2.FunD K d.name d.qual d.params d.body d.scope (d.dvs K) (d.kws K) (d.ad K) fd := by
  obtain ⟨kp, c2⟩ := He.ba c
  unfold fnA at e
  cases q : K.lookup (d.ad K) with
  | none => rw [q] at c2; cases c2
  | some o =>
    obtain ⟨oc, od, dt, osl⟩ := o
    rw [q] at c2 e
    cases dt with
    | func fd =>
      obtain ⟨n1, n2, n3, n4, n5, n6, n7, n8, n9, n10, n11, n12, n13, n14, n15⟩ := fd
      have e2 : (some (n1, n2, n3, n4, n5, n6, n7, n15) : He.FnW) = some (d.name, d.qual, d.params, .stmts d.body, d.scope, mainGlobals, [], builtinsNs) := e
      simp only [Option.some.injEq, Prod.mk.injEq] at e2
      obtain ⟨h1, h2, h3, h4, h5, h6, h7, h8⟩ := e2
      subst h1 h2 h3 h4 h5 h6 h7 h8
      have c3 : (PySem.W.codeIn K n13 d.qual && (He.dflB K n8 (d.dvs K) && He.kwdB K n9 (d.kws K))) = true := c2
      obtain ⟨k1, k2⟩ := He.ba c3
      obtain ⟨k3, k4⟩ := He.ba k2
      exact ⟨_, ⟨oc, od, n8, n9, n10, n11, n12, n13, n14, osl, rfl, q, k1, He.dflB_ok k3, He.kwdB_ok k4⟩, kp⟩
    | _ => cases c2
/-- a class's constants that are written -/
inductive Cv where
  | int (i : Int)
  | str (z : Str)
def Cv.v : Cv → L2.V
  | .int i => .int i
  | .str z => .str z
/-- more facts -/
inductive Fx where
  | he (f : He.Fa)
  | prop (x m : Str)
  | con (x f : Str) (c : Cv)
def conB (K : PySem.W.Frag) (x f : Str) (c : Cv) : Bool := !(PySem.W.copiedNames.contains f) && (match PySem.W.findIn K (.ref (He.ga K x)) f with
  | some (some (.int j t)) => (match c with
    | .int i => decide (j = i) && decide (PySem.W.specialIn K (.int j t) "__get__" = some none)
    | _ => false)
  | some (some (.str y t)) => (match c with
    | .str z => decide (y = z) && decide (PySem.W.specialIn K (.str y t) "__get__" = some none)
    | _ => false)
  | _ => false)
def Fx.ok (K : PySem.W.Frag) : Fx → Bool
  | .he f => f.ok K
  | .prop x m => decide (PySem.W.findIn K (.ref (He.ga K x)) m = some (some (.ref (He.ma K (He.ga K x) m)))) && (decide (PySem.W.specialIn K (.ref (He.ma K (He.ga K x) m)) "__get__" = some (some (.builtin "property.__get__"))) &&
      (decide (PySem.W.takesIn K (.ref (He.ma K (He.ga K x) m)) = some true) && (match PySem.W.recIn K (He.ma K (He.ga K x) m) "property" with
        | some (.ref _ :: _) => true
        | _ => false)))
  | .con x f c => conB K x f c
theorem prop_ok {K : PySem.W.Frag} {x m : Str} (h : (Fx.prop x m).ok K = true) : L2.PropOf K (He.ga K x) m (He.ma K (He.ga K x) m) (pAd K x m) := by
  obtain ⟨h1, h2⟩ := He.ba h
  obtain ⟨h2, h3⟩ := He.ba h2
  obtain ⟨h3, h4⟩ := He.ba h3
  refine ⟨of_decide_eq_true h1, of_decide_eq_true h2, of_decide_eq_true h3, ?_⟩
  unfold pAd
  cases e : PySem.W.recIn K (He.ma K (He.ga K x) m) "property" with
  | none => rw [e] at h4; cases h4
  | some l =>
    rw [e] at h4
    cases l with
    | nil => cases h4
    | cons v r => cases v with
      | ref g => exact ⟨r, rfl⟩
      | _ => cases h4
theorem con_ok {K : PySem.W.Frag} {x f : Str} {c : Cv} (h : (Fx.con x f c).ok K = true) : ∃ u, L2.Con K (He.ga K x) f c.v u := by
  obtain ⟨h1, h2⟩ := He.ba (show (!(PySem.W.copiedNames.contains f) && _) = true from h)
  have h1 : PySem.W.copiedNames.contains f = false := by simpa using h1
  cases e : PySem.W.findIn K (.ref (He.ga K x)) f with
  | none => rw [e] at h2; cases h2
  | some o =>
    rw [e] at h2
    cases o with
    | none => cases h2
    | some v => cases v with
      | int j t => cases c with
        | int i =>
          obtain ⟨h3, h4⟩ := He.ba h2
          have h3 : j = i := of_decide_eq_true h3
          subst h3
          exact ⟨_, e, ⟨t, rfl⟩, of_decide_eq_true h4, h1⟩
        | str z => cases h2
      | str y t => cases c with
        | str z =>
          obtain ⟨h3, h4⟩ := He.ba h2
          have h3 : y = z := of_decide_eq_true h3
          subst h3
          exact ⟨_, e, ⟨t, rfl⟩, of_decide_eq_true h4, h1⟩
        | int i => cases h2
      | _ => cases h2
abbrev AlX : Type := Bool × List He.FnW
def obsX (fa : List Fx) (fn : List DefX) (K : PySem.W.Frag) : AlX := ((fa.all fun f => f.ok K) && fn.all fun d => d.ok K, fn.map fun d => fnA K (d.ad K))
def valX (fn : List DefX) : AlX := (true, fn.map DefX.val)
def SaysX (fa : List Fx) (fn : List DefX) (K : PySem.W.Frag) : Prop := obsX fa fn K = valX fn
def obsXG (n : Nat) (fa : List Fx) (fn : List DefX) (g : Addr → Option Obj) : AlX := obsX fa fn (He.frG g (He.asD g n))
def hookX (n : Nat) (fa : List Fx) (fn : List DefX) : PySem.W.Hook where
  α := AlX
  obs := fun s => obsXG n fa fn s.heap.get?
  val := fun _ => valX fn
  says := fun _ h => ∃ K : PySem.W.Frag, K.In h ∧ SaysX fa fn K
  of := fun _ _ e => ⟨_, He.frG_in, e⟩
  keeps := fun _ _ _ ⟨K, hK, c⟩ k => ⟨K, PySem.W.Frag.In.keeps hK k, c⟩
theorem obsXG_eq {n : Nat} {fa : List Fx} {fn : List DefX} {g : Addr → Option Obj} {s : Shared} (h : ∀ a, g a = s.heap.get? a) : obsXG n fa fn g = (hookX n fa fn).obs s := by
  have e : g = s.heap.get? := funext h
  rw [e] <;> rfl
theorem SaysX.facts {fa : List Fx} {fn : List DefX} {K : PySem.W.Frag} (c : SaysX fa fn K) {f : Fx} (h : f ∈ fa) : f.ok K = true :=
  List.all_eq_true.mp (He.ba (show ((fa.all fun f => f.ok K) && fn.all fun d => d.ok K) = true from congrArg (fun z : AlX => z.1) c)).1 f h
theorem SaysX.defs {fa : List Fx} {fn : List DefX} {K : PySem.W.Frag} (c : SaysX fa fn K) {d : DefX} (h : d ∈ fn) : ∃ fd, L2.FunD K d.name d.qual d.params d.body d.scope (d.dvs K) (d.kws K) (d.ad K) fd := by
  have c1 := (He.ba (show ((fa.all fun f => f.ok K) && fn.all fun d => d.ok K) = true from congrArg (fun z : AlX => z.1) c)).2
  have c2 : (fn.map fun d => fnA K (d.ad K)) = fn.map DefX.val := congrArg (fun z : AlX => z.2) c
  exact DefX.funD (List.map_inj_left.mp c2 d h) (List.all_eq_true.mp c1 d h)
end U

/-! U15: defs, their promises, their calls. -/
namespace U
open PySem PySem.Spec PyProof.Rows

/-! ### a call's end -/
def liftF (r : FR) (s : S) : R D := match r with
  | .bad => .bad
  | .ok d cs => .ok d { s with cs := cs }
  | .exc x cs => .exc x { s with cs := cs }
section
variable {T : Tab}
def FRun (T : Tab) (F : L2.Hp) (ρ : List Addr) (H : L2.Hp) (r : FR) (Q : L2.VK) (E : L2.XK) : Prop := match r with
  | .bad => False
  | .ok d cs => ∀ v H' F' ρ', SR T ⟨H, F, ρ⟩ F' ρ' ⟨[], cs⟩ [] H' → Rep T F' ρ' v d → Q v H'
  | .exc x cs => ∀ cls dd H' F' ρ', SR T ⟨H, F, ρ⟩ F' ρ' ⟨[], cs⟩ [] H' → XR T F' ρ' H' cls dd x → E cls dd H'
def spEv (T : Tab) (calls : List D → List Cell → FR) (n : Nat) : L2.Sp := fun vs H Q E => vs.length = n ∧ ∃ F ρ ds cs, HR T F ρ cs H ∧ RepL T F ρ vs ds ∧ FRun T F ρ H (calls ds cs) Q E
/-- the caller's state behind a call -/
theorem SR.call {e : En} {F F' : L2.Hp} {ρ ρ' : List Addr} {s : S} {cs : List Cell} {σ : L2.St} {H H' : L2.Hp} (q : SR T e F ρ s σ H) (q' : SR T ⟨H, F, ρ⟩ F' ρ' ⟨[], cs⟩ [] H') : SR T e F' ρ' { s with cs := cs } σ H' := by
  have kp : ∀ a o, H a = some o → a ∉ ρ' → H' a = some o := q'.keep
  have fz : Le F F' := q'.fz
  have pr : ρ <+: ρ' := q'.old
  have nw : ∀ a ∈ ρ', a ∈ ρ ∨ H a = none := q'.new
  have fn : ∀ a o, F' a = some o → F a = some o ∨ H a = none := q'.fnew
  have hb : ∀ a, H a = none → e.B a = none := fun a h => q.bnone h
  refine ⟨q'.hr, q.len, fun i d hd => ?_, q.apart, fun a o h1 h2 => ?_, q.fz.trans fz, fun a o h => ?_, q.old.trans pr, fun a h => ?_⟩
  · obtain ⟨v, h1, h2⟩ := q.sl i d hd
    refine ⟨v, h1, h2.upd fz pr fun a o k1 k2 k3 k4 => ?_⟩
    have n1 : a ∉ ρ' := fun z => by
      rcases nw a z with k | k
      · exact k3 k
      · rw [k1] at k; cases k
    refine ⟨kp a o k1 n1, ?_, n1⟩
    cases z : F' a with
    | none => rfl
    | some u =>
      rcases fn a u z with k | k
      · rw [k4] at k; cases k
      · rw [k1] at k; cases k
  · have n1 : a ∉ ρ := fun z => h2 (by obtain ⟨t, rfl⟩ := pr; exact List.mem_append_left _ z)
    exact kp a o (q.keep a o h1 n1) h2
  · rcases fn a o h with k | k
    · exact q.fnew a o k
    · exact .inr (hb a k)
  · rcases nw a h with k | k
    · exact q.new a k
    · exact .inr (hb a k)
/-- a body's state, its slots forgotten -/
theorem SR.leave {e : En} {F : L2.Hp} {ρ : List Addr} {s : S} {σ : L2.St} {H : L2.Hp} (q : SR T e F ρ s σ H) : SR T e F ρ ⟨[], s.cs⟩ [] H :=
  ⟨q.hr, rfl, fun i d h => by simp at h, fun i j d d' v _ h => by simp at h, q.keep, q.fz, q.fnew, q.old, q.new⟩
/-- a body's state at its entry -/
theorem SR.enter {F : L2.Hp} {ρ : List Addr} {cs : List Cell} {H : L2.Hp} {vs : List L2.V} {ds : List D} {N : List Str} (h : HR T F ρ cs H) (r : RepL T F ρ vs ds) : SR T ⟨H, F, ρ⟩ F ρ ⟨ds.map some ++ List.replicate (N.length - ds.length) none, cs⟩ (L2.start N vs) H := by
  have no : ∀ {d}, (∃ v, Rep T F ρ v d) → isOwn d = false := fun {d} ⟨v, z⟩ => by cases z <;> rfl
  have at_ : ∀ i d, (ds.map some ++ List.replicate (N.length - ds.length) none)[i]? = some (some d) → ds[i]? = some d := fun i d hd => by
    by_cases hi : i < ds.length
    · rw [List.getElem?_append_left (by simpa using hi), List.getElem?_map] at hd
      cases e : ds[i]? with
      | none => rw [e] at hd; cases hd
      | some a => rw [e] at hd; cases hd; rfl
    · rw [List.getElem?_append_right (by simpa using hi), List.getElem?_replicate] at hd
      split at hd <;> cases hd
  refine ⟨h, ?_, fun i d hd => ?_, fun i j d d' v _ h1 _ o1 _ _ => ?_, fun a o z _ => z, Le.refl F, fun a o z => .inl z, List.prefix_refl ρ, fun a z => .inl z⟩
  · unfold L2.start
    rw [List.length_append, List.length_append, List.length_map, List.length_map, List.length_replicate, List.length_replicate, r.length]
  · obtain ⟨v, h1, h2⟩ := r.get (at_ i d hd)
    refine ⟨v, ?_, ?_⟩
    · unfold L2.start
      have hi : i < vs.length := (List.getElem?_eq_some_iff.mp h1).1
      rw [List.getElem?_append_left (by simpa using hi), List.getElem?_map, h1]; rfl
    · have o := no ⟨v, h2⟩
      cases d <;> first | exact h2 | cases o
  · obtain ⟨w, _, h2⟩ := r.get (at_ i d h1)
    rw [no ⟨w, h2⟩] at o1; cases o1
end

/-! ### the program -/
structure FnI where
  d : DefX
  N : List Str
  ps : List Str
  dfl : List D := []
/-- how a call binds: n values, then keywords; perm: where the parameters' values stand among values, keywords, defaults -/
structure Shp where
  fn : Nat
  n : Nat
  ks : List Str := []
  perm : List Nat
inductive Gv where
  | fn (i : Nat)
  | con (d : D)
  | cls (i : Nat)
/-- a class: its name, its defs (by number), its written constants, the names that it has not -/
structure ClsI where
  name : Str
  ini : Option Nat := none
  mth : List (Str × Nat) := []
  prp : List (Str × Nat) := []
  cst : List (Str × Cv) := []
  noat : List Str := []
structure Pg where
  fns : List FnI
  cls : List ClsI := []
  glo : List (Str × Gv)
  bl : List Str
  shp : List Shp
  cells : List Pos := []
/-- what the calls are made in -/
structure Wd where
  P : Program
  w : World
  K : PySem.W.Frag
  mg : Str → Option Value
  base : Heap
  T : Tab
def permL {α : Type} (perm : List Nat) (l : List α) (z : α) : List α := perm.map fun i => l.getD i z
def ShOk (K : PySem.W.Frag) (fd : FuncData) (ps : List Str) (dvs : List L2.V) (sh : Shp) : Prop := ∃ its, L2.Vals dvs its ∧
  ∀ (s : Shared) (us ws : List Value), K.In s.heap → us.length = sh.n → ws.length = sh.ks.length → BindsTo s fd ⟨us, sh.ks.zip ws⟩ (ps.zip (permL sh.perm (us ++ ws ++ its) .none))
theorem vals_getD : ∀ {vs : List L2.V} {us : List Value} (i : Nat), L2.Vals vs us → L2.RelV (vs.getD i .non) (us.getD i .none)
  | _, _, _, .nil => rfl
  | _, _, 0, .cons r _ => r
  | _, _, i + 1, .cons _ t => vals_getD i t
theorem vals_perm {vs : List L2.V} {us : List Value} (r : L2.Vals vs us) : ∀ perm : List Nat, L2.Vals (permL perm vs .non) (permL perm us .none)
  | [] => .nil
  | i :: p => .cons (vals_getD i r) (vals_perm r p)
section
variable {T : Tab} {F : L2.Hp} {ρ : List Addr}
theorem rep_getD : ∀ {vs : List L2.V} {ds : List D} (i : Nat), RepL T F ρ vs ds → Rep T F ρ (vs.getD i .non) (ds.getD i .non)
  | _, _, _, .nil => .non
  | _, _, 0, .cons r _ => r
  | _, _, i + 1, .cons _ t => rep_getD i t
theorem rep_perm {vs : List L2.V} {ds : List D} (r : RepL T F ρ vs ds) : ∀ perm : List Nat, RepL T F ρ (permL perm vs .non) (permL perm ds .non)
  | [] => .nil
  | i :: p => .cons (rep_getD i r) (rep_perm r p)
end
structure PgOk (G : Pg) (Z : Wd) : Prop where
  hT : Z.T.K = Z.K
  con : ∀ x d, G.glo.lookup x = some (.con d) → ∃ v u, Z.mg x = some u ∧ L2.RelV v u ∧ ∀ F ρ, Rep Z.T F ρ v d
  bl : ∀ x ∈ G.bl, Z.mg x = none
  cls : ∀ (x : Str) (c : Nat) (ci : ClsI), G.glo.lookup x = some (.cls c) → G.cls[c]? = some ci → Z.mg x = some (.ref (Z.T.cls c))
  cl : ∀ (c : Nat) (ci : ClsI), G.cls[c]? = some ci → L2.Cls Z.K (Z.T.cls c)
  noat : ∀ (c : Nat) (ci : ClsI) (f : Str), G.cls[c]? = some ci → f ∈ ci.noat → L2.NoAttr Z.K (Z.T.cls c) f
  mth : ∀ (c : Nat) (ci : ClsI) (m : Str) (i : Nat) (fi : FnI), G.cls[c]? = some ci → ci.mth.lookup m = some i → G.fns[i]? = some fi → L2.Meth Z.K (Z.T.cls c) m (fi.d.ad Z.K)
  prp : ∀ (c : Nat) (ci : ClsI) (m : Str) (i : Nat) (fi : FnI), G.cls[c]? = some ci → ci.prp.lookup m = some i → G.fns[i]? = some fi → ∃ p, L2.PropOf Z.K (Z.T.cls c) m p (fi.d.ad Z.K)
  cst : ∀ (c : Nat) (ci : ClsI) (f : Str) (v : Cv), G.cls[c]? = some ci → ci.cst.lookup f = some v → ∃ u, L2.Con Z.K (Z.T.cls c) f v.v u
  ini : ∀ (c : Nat) (ci : ClsI) (i : Nat) (fi : FnI), G.cls[c]? = some ci → ci.ini = some i → G.fns[i]? = some fi → L2.Mk Z.K (Z.T.cls c) (fi.d.ad Z.K)
  fn : ∀ x i fi, G.glo.lookup x = some (.fn i) → G.fns[i]? = some fi → Z.mg x = some (.ref (fi.d.ad Z.K))
  fns : ∀ (i : Nat) (fi : FnI), G.fns[i]? = some fi → ∃ fd, L2.FunD Z.K fi.d.name fi.d.qual fi.d.params fi.d.body fi.d.scope (fi.d.dvs Z.K) (fi.d.kws Z.K) (fi.d.ad Z.K) fd ∧ (∀ F ρ, RepL Z.T F ρ (fi.d.dvs Z.K) fi.dfl) ∧ ∀ sh ∈ G.shp, sh.fn = i → ShOk Z.K fd fi.ps (fi.d.dvs Z.K) sh
def FnsOk (G : Pg) (Z : Wd) (k : Nat) (calls : Calls) : Prop := ∀ (i : Nat) (fi : FnI) (fd : FuncData), G.fns[i]? = some fi → L2.FunD Z.K fi.d.name fi.d.qual fi.d.params fi.d.body fi.d.scope (fi.d.dvs Z.K) (fi.d.kws Z.K) (fi.d.ad Z.K) fd →
  L2.FnOk Z.P Z.w Z.K Z.mg Z.base (L2.CX Z.P Z.w) k (fi.d.ad Z.K) fd fi.ps (spEv Z.T (calls i) fi.ps.length)
/-- the place agrees -/
structure At (X : L2.Cx) (c : Cy) (Z : Wd) (k : Nat) : Prop where
  P : X.prog = Z.P
  w : X.w = Z.w
  K : X.K = Z.K
  mg : X.mg = Z.mg
  base : X.base = Z.base
  T : c.T = Z.T
  nd : X.N.Nodup
  kind : X.env.scope.kind = .function
  calm : X.calm = true
  room : L2.Room (k + 1) X.A
  tk : L2.Takes X c.W

section
variable {X : L2.Cx} {c : Cy} {Z : Wd} {G : Pg} {k : Nat} {calls : Calls}
theorem At.hT (a : At X c Z k) (g : PgOk G Z) : c.T.K = X.K := by rw [a.T, a.K]; exact g.hT
theorem run_call {pins : List (Addr × Obj)} {σ : L2.St} {H : L2.Hp} {s0 : Shared} {Q : L2.VK} {us ws : List Value} {vs zs : List L2.V} {i : Nat} {fi : FnI} {sh : Shp} (a : At X c Z k) (g : PgOk G Z) (fo : FnsOk G Z k calls) (hi : G.fns[i]? = some fi) (hsh : sh ∈ G.shp) (hf : sh.fn = i) (I : L2.Inv X pins σ H s0)
    (r : L2.Vals vs us) (rz : L2.Vals zs ws) (l1 : vs.length = sh.n) (l2 : zs.length = sh.ks.length) (h : spEv c.T (calls i) fi.ps.length (permL sh.perm (vs ++ zs ++ fi.d.dvs Z.K) .non) H Q (L2.WE c.W σ)) :
    wpAny (model X.prog X.w) X.A (call (.ref (fi.d.ad Z.K)) us (sh.ks.zip ws)) (L2.EP X pins σ Q) X.xe s0 := by
  obtain ⟨fd, FD, _, shs⟩ := g.fns i fi hi
  obtain ⟨its, rits, to⟩ := shs sh hsh hf
  have F := fo i fi fd hi FD
  rw [← a.P, ← a.w, ← a.K, ← a.mg, ← a.base, ← a.T] at F
  rw [← a.K] at FD rits to h ⊢
  have r2 : L2.Vals (permL sh.perm (vs ++ zs ++ fi.d.dvs X.K) .non) (permL sh.perm (us ++ ws ++ its) .none) := vals_perm ((r.append rz).append rits) _
  have E0 := I.env0
  refine wpAny_call (codeAny_mono (F.run X.A X.stack s0 H ⟨us, sh.ks.zip ws⟩ _ _ Q (L2.WE c.W σ) (a.room.mono (Nat.le_succ _)) E0 (to s0 us ws I.kIn (r.length.symm.trans l1) (rz.length.symm.trans l2)) r2 h) fun r s' hq => ?_)
  cases r with
  | error e => exact L2.passAt a.tk σ pins H s0 e s' I hq
  | ok fl =>
    cases fl with
    | ret u => exact I.after hq
    | next => exact False.elim hq
    | brk => exact False.elim hq
    | cont => exact False.elim hq
/-- the call's data -/
def callD (calls : Calls) (i : Nat) (dfl : List D) (sh : Shp) (as ks : List D) : M D := fun s => if as.length = sh.n ∧ ks.length = sh.ks.length then liftF (calls i (permL sh.perm (as ++ ks ++ dfl) .non) s.cs) s else .bad
theorem callD_ok {F : L2.Hp} {ρ : List Addr} {s : S} {σ : L2.St} {H : L2.Hp} {Q : L2.VK} {i : Nat} {n : Nat} {dfl : List D} {sh : Shp} {as ks : List D} {vs zs dvs : List L2.V} (q : SR c.T c.e F ρ s σ H) (r : RepL c.T F ρ vs as) (rz : RepL c.T F ρ zs ks) (rd : RepL c.T F ρ dvs dfl) (hn : sh.perm.length = n)
    (h : Run c rpD F ρ (callD calls i dfl sh as ks s) σ Q) : vs.length = sh.n ∧ zs.length = sh.ks.length ∧ spEv c.T (calls i) n (permL sh.perm (vs ++ zs ++ dvs) .non) H Q (L2.WE c.W σ) := by
  unfold callD at h
  split at h
  · rename_i g
    refine ⟨r.length.trans g.1, rz.length.trans g.2, by unfold permL; rw [List.length_map]; exact hn, F, ρ, _, s.cs, q.hr, rep_perm ((r.append rz).append rd) _, ?_⟩
    cases e : calls i (permL sh.perm (as ++ ks ++ dfl) .non) s.cs with
    | bad => rw [e] at h; exact h.elim
    | ok d cs =>
      rw [e] at h
      exact fun v H' F' ρ' q' z => h v H' F' ρ' q'.fz q'.old (q.call q') z
    | exc x cs =>
      rw [e] at h
      exact fun cls dd H' F' ρ' q' z => h cls dd H' F' ρ' q'.fz q'.old (q.call q') z
  · exact h.elim
/-! ### keywords -/
theorem kw_all {pos : Pos} {env : Env} : ∀ {kws : List Keyword}, kws.all (·.arg.isSome) = true → (backToKw pos (keywordEach kws env)).all (·.1.isSome) = true
  | [], _ => rfl
  | ⟨n, v, p⟩ :: r, h => by
    rw [List.all_cons, Bool.and_eq_true] at h
    show (n.isSome && (backToKw pos (keywordEach r env)).all (·.1.isSome)) = true
    rw [kw_all h.2, Bool.and_true]
    exact h.1
theorem kw_names {pos : Pos} {env : Env} : ∀ (kws : List Keyword), (backToKw pos (keywordEach kws env)).filterMap (·.1) = kws.filterMap (·.arg)
  | [] => rfl
  | ⟨n, v, p⟩ :: r => by
    show ((n, _) :: backToKw pos (keywordEach r env)).filterMap (·.1) = (⟨n, v, p⟩ :: r : List Keyword).filterMap (·.arg)
    rw [List.filterMap_cons, List.filterMap_cons, kw_names r]
theorem kw_none {pos : Pos} {env : Env} : ∀ {kws : List Keyword}, kws.all (·.arg.isSome) = true → (backToKw pos (keywordEach kws env)).any (·.1.isNone) = false
  | [], _ => rfl
  | ⟨n, v, p⟩ :: r, h => by
    rw [List.all_cons, Bool.and_eq_true] at h
    show (n.isNone || (backToKw pos (keywordEach r env)).any (·.1.isNone)) = false
    rw [kw_none h.2, Bool.or_false]
    have h1 : n.isSome = true := h.1
    cases n with
    | none => cases h1
    | some _ => rfl
theorem pk_imp {kws : List Keyword} {t t' : L2.TA} (h : L2.PK X kws t) (i : ∀ σ H Q, t' σ H Q → t σ H Q) : L2.PK X kws t' :=
  ⟨fun pos pins s σ H Q I q => h.run pos pins s σ H Q I (i σ H Q q)⟩
theorem e_kws {f : Expr → M D} : ∀ {kws : List Keyword}, (∀ kw ∈ kws, L2.PE X kw.value (tG c rpD (f kw.value))) → L2.PK X kws (tG c rpL (mSeq (kws.map fun kw => f kw.value)))
  | [], _ => pk_imp L2.pk_nil fun σ H Q ⟨F, ρ, s, q, h⟩ => Run.done h q RepL.nil
  | ⟨n, v, p⟩ :: r, h => by
    refine pk_imp (L2.pk_cons (h _ List.mem_cons_self) (e_kws fun e' he => h e' (List.mem_cons_of_mem _ he))) fun σ H Q hq => ?_
    refine tG_imp2 (tG_bind2 rpD_mono hq) fun x xs H2 ⟨F, ρ, s, d, ds, q, z1, z2, hh⟩ => ?_
    exact Run.done hh q (RepL.cons z1 z2)
/-! ### f(e, .., k = v, ..) -/
theorem e_call {x : Str} {p pos : Pos} {es : List Expr} {kws : List Keyword} {i : Nat} {fi : FnI} {sh : Shp} {ma mk : M (List D)} (a : At X c Z k) (g : PgOk G Z) (fo : FnsOk G Z k calls) (hx : G.glo.lookup x = some (.fn i)) (hi : G.fns[i]? = some fi) (hsh : sh ∈ G.shp) (hf : sh.fn = i) (hn : sh.perm.length = fi.ps.length) (hks : kws.filterMap (·.arg) = sh.ks) (hall : kws.all (·.arg.isSome) = true)
    (hg : L2.Gl X x) (hdb : (x == ("__debug__" : Str)) = false) (hs : es.all notStar = true) (ha : L2.PA X es (tG c rpL ma)) (hk : L2.PK X kws (tG c rpL mk)) (he : es = [] → ma = mPure []) : L2.PE X (.Call (.Name x p) es kws pos) (tG c rpD (mBind ma fun as => mBind mk fun ks => callD calls i fi.dfl sh as ks)) := by
  have hm : X.mg x = some (.ref (fi.d.ad Z.K)) := by rw [a.mg]; exact g.fn x i fi hx hi
  obtain ⟨fd, FD, rdf, _⟩ := g.fns i fi hi
  have kp : PySem.W.keepIn X.K (.ref (fi.d.ad Z.K)) = true := by rw [a.K]; exact FD.kp
  refine ⟨fun pins s0 σ H Q I h => ?_⟩
  refine wpAny_Call_Name_kw (L2.ld_glob I hg hm ?_ hdb)
  obtain ⟨F, ρ, s, q, h⟩ := h
  have fin : ∀ {s1 us vs H1 F1 ρ1 S1 as}, L2.Inv X pins σ H1 s1 → L2.Vals vs us → SR c.T c.e F1 ρ1 S1 σ H1 → RepL c.T F1 ρ1 vs as → Run c rpD F1 ρ1 (mBind mk (fun ks => callD calls i fi.dfl sh as ks) S1) σ Q →
      wpAny (model X.prog X.w) X.A (evalAll ((backToKw pos (keywordEach kws X.env)).map (·.2))) (fun ks s₂ => X.K.In s₂.heap ∧ wpAny (model X.prog X.w) X.A (call (.ref (fi.d.ad Z.K)) ([] ++ us) (((backToKw pos (keywordEach kws X.env)).filterMap (·.1)).zip ks)) (L2.EP X pins σ Q) X.xe s₂) X.xe s1 := fun {s1 us vs H1 F1 ρ1 S1 as} I1 rv q1 r1 h1 => by
    refine L2.thn (hk.run pos pins s1 σ H1 _ I1 ⟨F1, ρ1, S1, q1, Run.bind h1⟩) fun ws s2 ⟨zs, H2, I2, rz, F2, ρ2, S2, ks, l2, p2, q2, z2, h2⟩ => ⟨I2.kIn, ?_⟩
    rw [kw_names, hks]
    obtain ⟨g1, g2, g3⟩ := callD_ok q2 (r1.mono l2 p2) z2 (by rw [a.T]; exact rdf _ _) hn h2
    exact run_call a g fo hi hsh hf I2 rv rz g1 g2 g3
  cases es with
  | nil =>
    refine PySem.W.callWith_KW0 (h₀ := X.base) I.ok.mod.kin kp (kw_all hall) ?_ (by rw [kw_none hall]; rfl)
    rw [he rfl] at h
    exact fin (us := []) I .nil q .nil h
  | cons e es =>
    rw [List.all_cons, Bool.and_eq_true] at hs
    refine PySem.W.callWith_KW (h₀ := X.base) I.ok.mod.kin kp (kw_all hall) (L2.thn (ha.run pos pins s0 σ H _ I ⟨F, ρ, s, q, Run.bind h⟩) fun us s1 ⟨vs, H1, I1, rv, F1, ρ1, S1, as, l, pr, q1, z1, h1⟩ => fin I1 rv q1 z1 h1) ?_ (starEach_cons hs.1 _ _)
    rw [kw_none hall, starEach_cons hs.1]
    show ((false || (backTo pos (starEach es X.env)).any (·.1)) || false) = false
    rw [backTo_plain hs.2]; rfl
end
end U

/-! X2: objects: attributes, methods, new ones. -/
namespace U
open PySem PySem.Spec PyProof.Rows
def putD (f : Str) (v : D) : List (Str × D) → List (Str × D)
  | [] => [(f, v)]
  | (g, x) :: r => if g = f then (g, v) :: r else (g, x) :: putD f v r
/-- an object: its cell's number, its class, its attributes -/
def objO (s : S) (d : D) : Option (Nat × Nat × List (Str × D)) := match d with
  | .ob n => (match s.cs[n]? with
    | some (.O c fs) => some (n, c, fs)
    | _ => none)
  | _ => none
section
variable (G : Pg) (calls : Calls)
def callO (i n : Nat) (ks : List Str) (as zs : List D) : M D := match G.fns[i]?, G.shp.find? (fun sh => sh.fn == i && sh.n == n && sh.ks == ks) with
  | some fi, some sh => if sh.perm.length == fi.ps.length then callD calls i fi.dfl sh as zs else mBad
  | _, _ => mBad
def cvD : Cv → D
  | .int i => .int i
  | .str z => .str z.cps.toList
def propB (i : Nat) : Bool := match G.shp.find? (fun sh => sh.fn == i && sh.n == 1 && sh.ks == []) with
  | some sh => sh.perm == [0]
  | none => false
/-- o.f -/
def attrD (f : Str) (d : D) : M D := fun s => match objO s d with
  | some (n, c, fs) => (match G.cls[c]? with
    | some ci => if ci.noat.contains f then mOpt (fs.lookup f) s
      else (match ci.prp.lookup f with
        | some i => if propB G i then (match callO G calls i 1 [] [d] [] s with
          | .ok y s' => .ok y s'
          | _ => .bad) else .bad
        | none => (match ci.cst.lookup f with
          | some v => if (fs.lookup f).isNone then .ok (cvD v) s else .bad
          | none => .bad))
    | none => .bad)
  | none => .bad
/-- o.m(..) -/
def methO (m : Str) (n : Nat) (ks : List Str) (d : D) (ma mk : M (List D)) : M D := fun s => match objO s d with
  | some (_, c, fs) => (match (G.cls[c]?).bind fun ci => ci.mth.lookup m with
    | some i => if (fs.lookup m).isNone && (G.fns[i]?).isSome then mBind ma (fun as => mBind mk fun zs => callO G calls i (n + 1) ks (d :: as) zs) s else .bad
    | none => .bad)
  | none => .bad
/-- C(..) -/
def mkO (c n : Nat) (ks : List Str) (as zs : List D) : M D := fun s => match (G.cls[c]?).bind (·.ini) with
  | some i => (match callO G calls i (n + 1) ks (.ob s.cs.length :: as) zs { s with cs := s.cs ++ [.O c []] } with
    | .ok .non s' => .ok (.ob s.cs.length) s'
    | .exc x s' => .exc x s'
    | _ => .bad)
  | none => .bad
/-- o.f = y -/
def setAt (f : Str) (y d : D) : M Unit := fun s => match objO s d with
  | some (n, c, fs) => (match G.cls[c]? with
    | some ci => if ci.noat.contains f && decide (fs.length < 1000) then .ok () { s with cs := s.cs.set n (.O c (putD f y fs)) } else .bad
    | none => .bad)
  | none => .bad
end
section
variable {T : Tab} {e : En} {F : L2.Hp} {ρ : List Addr} {s : S} {σ : L2.St} {H : L2.Hp}
theorem SR.obj {v : L2.V} {d : D} {n c : Nat} {fs : List (Str × D)} (q : SR T e F ρ s σ H) (r : Rep T F ρ v d) (h : objO s d = some (n, c, fs)) :
    d = .ob n ∧ ∃ a dx vs, v = .ref a ∧ ρ[n]? = some a ∧ H a = some (.ins (T.cls c) dx vs) ∧ F dx = some (.own a) ∧ vs.map Prod.fst = fs.map Prod.fst ∧ RepL T F ρ (vs.map Prod.snd) (fs.map Prod.snd) := by
  unfold objO at h
  split at h
  · rename_i m
    split at h
    · rename_i c' fs' e1
      cases h
      cases r with
      | ob h1 =>
        obtain ⟨dx, vs, k1, k2, k3, k4⟩ := q.hr.cell _ _ _ h1 e1
        exact ⟨rfl, _, dx, vs, rfl, h1, k1, k2, k3, k4⟩
    · cases h
  · cases h
theorem look_rep : ∀ {vs : List (Str × L2.V)} {fs : List (Str × D)} {f : Str}, vs.map Prod.fst = fs.map Prod.fst → RepL T F ρ (vs.map Prod.snd) (fs.map Prod.snd) →
    (∀ d, fs.lookup f = some d → ∃ v, vs.lookup f = some v ∧ Rep T F ρ v d) ∧ (fs.lookup f = none → vs.lookup f = none)
  | [], [], _, _, _ => ⟨fun _ h => (by cases h), fun _ => rfl⟩
  | (g, v) :: vs, (g', d) :: fs, f, h1, h2 => by
    simp only [List.map_cons, List.cons.injEq] at h1
    obtain ⟨e, h1⟩ := h1
    subst e
    cases h2 with
    | cons r t =>
      have ih := look_rep (f := f) h1 t
      simp only [List.lookup_cons]
      cases f == g with
      | true => exact ⟨fun d' h => by cases h; exact ⟨v, rfl, r⟩, fun h => (by cases h)⟩
      | false => exact ih
  | [], _ :: _, _, h, _ => by cases h
  | _ :: _, [], _, h, _ => by cases h
theorem put_rep {f : Str} {y : L2.V} {z : D} (r : Rep T F ρ y z) : ∀ {vs : List (Str × L2.V)} {fs : List (Str × D)}, vs.map Prod.fst = fs.map Prod.fst → RepL T F ρ (vs.map Prod.snd) (fs.map Prod.snd) →
    (L2.putF f y vs).map Prod.fst = (putD f z fs).map Prod.fst ∧ RepL T F ρ ((L2.putF f y vs).map Prod.snd) ((putD f z fs).map Prod.snd)
  | [], [], _, _ => ⟨rfl, .cons r .nil⟩
  | (g, v) :: vs, (g', d) :: fs, h1, h2 => by
    simp only [List.map_cons, List.cons.injEq] at h1
    obtain ⟨e, h1⟩ := h1
    subst e
    cases h2 with
    | cons q t =>
      obtain ⟨k1, k2⟩ := put_rep r h1 t
      simp only [L2.putF, putD]
      by_cases h : g = f
      · rw [if_pos h, if_pos h]
        exact ⟨by simp only [List.map_cons, h1], .cons r t⟩
      · rw [if_neg h, if_neg h]
        exact ⟨by simp only [List.map_cons, k1], .cons q k2⟩
  | [], _ :: _, h, _ => by cases h
  | _ :: _, [], h, _ => by cases h
end
section
variable {X : L2.Cx} {c : Cy} {Z : Wd} {G : Pg} {k : Nat} {calls : Calls}
theorem callO_len {s : S} {i n : Nat} {ks : List Str} {as zs : List D} (h : callO G calls i n ks as zs s ≠ .bad) : zs.length = ks.length := by
  unfold callO at h
  cases e1 : G.fns[i]? with
  | none => rw [e1] at h; exact absurd rfl h
  | some fi =>
    cases e2 : G.shp.find? (fun sh => sh.fn == i && sh.n == n && sh.ks == ks) with
    | none => rw [e1, e2] at h; exact absurd rfl h
    | some sh =>
      rw [e1, e2] at h
      dsimp only at h
      have hp := List.find?_some e2
      simp only [Bool.and_eq_true] at hp
      have hk : sh.ks = ks := eq_of_beq hp.2
      by_cases hn : (sh.perm.length == fi.ps.length) = true
      · rw [if_pos hn] at h
        unfold callD at h
        by_cases hl : as.length = sh.n ∧ zs.length = sh.ks.length
        · rw [hl.2, hk]
        · rw [if_neg hl] at h; exact absurd rfl h
      · rw [if_neg hn] at h; exact absurd rfl h
theorem callO_ok {F : L2.Hp} {ρ : List Addr} {s : S} {σ : L2.St} {H : L2.Hp} {Q : L2.VK} {i n : Nat} {ks : List Str} {as zs : List D} {vs ws : List L2.V} (a : At X c Z k) (g : PgOk G Z) (q : SR c.T c.e F ρ s σ H) (r : RepL c.T F ρ vs as) (rz : RepL c.T F ρ ws zs)
    (h : Run c rpD F ρ (callO G calls i n ks as zs s) σ Q) : ∃ fi sh, G.fns[i]? = some fi ∧ sh ∈ G.shp ∧ sh.fn = i ∧ sh.n = n ∧ sh.ks = ks ∧ sh.perm.length = fi.ps.length ∧ vs.length = sh.n ∧ ws.length = sh.ks.length ∧ spEv c.T (calls i) fi.ps.length (permL sh.perm (vs ++ ws ++ fi.d.dvs Z.K) .non) H Q (L2.WE c.W σ) := by
  unfold callO at h
  cases e1 : G.fns[i]? with
  | none => rw [e1] at h; exact h.elim
  | some fi =>
    cases e2 : G.shp.find? (fun sh => sh.fn == i && sh.n == n && sh.ks == ks) with
    | none => rw [e1, e2] at h; exact h.elim
    | some sh =>
      rw [e1, e2] at h
      dsimp only at h
      have hp := List.find?_some e2
      simp only [Bool.and_eq_true] at hp
      obtain ⟨⟨p1, p2⟩, p3⟩ := hp
      by_cases hn : (sh.perm.length == fi.ps.length) = true
      · rw [if_pos hn] at h
        have hn := eq_of_beq hn
        obtain ⟨fd, FD, rdf, _⟩ := g.fns i fi e1
        obtain ⟨g1, g2, g3⟩ := callD_ok q r rz (by rw [a.T]; exact rdf _ _) hn h
        exact ⟨fi, sh, rfl, List.mem_of_find?_eq_some e2, eq_of_beq p1, eq_of_beq p2, eq_of_beq p3, hn, g1, g2, g3⟩
      · rw [if_neg hn] at h; exact h.elim
theorem callO_val {F : L2.Hp} {ρ : List Addr} {s s1 : S} {σ : L2.St} {H : L2.Hp} {Q : L2.VK} {E : L2.XK} {i n : Nat} {ks : List Str} {as zs : List D} {vs ws : List L2.V} {y : D} (a : At X c Z k) (g : PgOk G Z) (q : SR c.T c.e F ρ s σ H) (r : RepL c.T F ρ vs as) (rz : RepL c.T F ρ ws zs)
    (e : callO G calls i n ks as zs s = .ok y s1) (h : Run c rpD F ρ (.ok y s1) σ Q) : ∃ fi sh, G.fns[i]? = some fi ∧ G.shp.find? (fun sh => sh.fn == i && sh.n == n && sh.ks == ks) = some sh ∧ sh ∈ G.shp ∧ sh.fn = i ∧ sh.n = n ∧ sh.ks = ks ∧ sh.perm.length = fi.ps.length ∧ spEv c.T (calls i) fi.ps.length (permL sh.perm (vs ++ ws ++ fi.d.dvs Z.K) .non) H Q E := by
  unfold callO at e
  cases e1 : G.fns[i]? with
  | none => rw [e1] at e; cases e
  | some fi =>
    cases e2 : G.shp.find? (fun sh => sh.fn == i && sh.n == n && sh.ks == ks) with
    | none => rw [e1, e2] at e; cases e
    | some sh =>
      rw [e1, e2] at e
      dsimp only at e
      have hp := List.find?_some e2
      simp only [Bool.and_eq_true] at hp
      obtain ⟨⟨p1, p2⟩, p3⟩ := hp
      by_cases hn : (sh.perm.length == fi.ps.length) = true
      · rw [if_pos hn] at e
        have hn := eq_of_beq hn
        obtain ⟨fd, FD, rdf, _⟩ := g.fns i fi e1
        refine ⟨fi, sh, rfl, rfl, List.mem_of_find?_eq_some e2, eq_of_beq p1, eq_of_beq p2, eq_of_beq p3, hn, ?_⟩
        unfold callD at e
        split at e
        · refine ⟨by unfold permL; rw [List.length_map]; exact hn, F, ρ, _, s.cs, q.hr, rep_perm ((r.append rz).append (by rw [a.T]; exact rdf _ _)) _, ?_⟩
          cases e3 : calls i (permL sh.perm (as ++ zs ++ fi.dfl) .non) s.cs with
          | bad => rw [e3] at e; cases e
          | exc x cs => rw [e3] at e; cases e
          | ok d cs =>
            rw [e3] at e
            cases e
            exact fun v H' F' ρ' q' z => h v H' F' ρ' q'.fz q'.old (q.call q') z
        · cases e
      · rw [if_neg hn] at e; cases e
/-- C(..), run -/
theorem run_mkO {pins : List (Addr × Obj)} {σ : L2.St} {H : L2.Hp} {s0 : Shared} {Q : L2.VK} {us ws : List Value} {vs zs : List L2.V} {i C : Nat} {fi : FnI} {ci : ClsI} {sh : Shp} {as ds : List D} {F : L2.Hp} {ρ : List Addr} {s : S} {n : Nat} {ks : List Str} (a : At X c Z k) (g : PgOk G Z) (fo : FnsOk G Z k calls)
    (I : L2.Inv X pins σ H s0) (r : L2.Vals vs us) (rz : L2.Vals zs ws) (q : SR c.T c.e F ρ s σ H) (rv : RepL c.T F ρ vs as) (rw_ : RepL c.T F ρ zs ds) (hlen : ws.length = ks.length)
    (h : Run c rpD F ρ (mkO G calls C n ks as ds s) σ Q) :
    wpAny (model X.prog X.w) X.A (call (.ref (Z.T.cls C)) us (ks.zip ws)) (L2.EP X pins σ Q) X.xe s0 := by
  unfold mkO at h
  split at h
  · rename_i i hi
    obtain ⟨ci, hc, hi⟩ := Option.bind_eq_some_iff.mp hi
    have fresh : ∀ x dx, H x = none → H dx = none → dx ≠ x → SR c.T c.e (L2.upd F dx (.own x)) (ρ ++ [x]) { s with cs := s.cs ++ [.O C []] } σ (L2.upd (L2.upd H dx (.own x)) x (.ins (c.T.cls C) dx [])) ∧
        Run c rpD (L2.upd F dx (.own x)) (ρ ++ [x]) (callO G calls i (n + 1) ks (.ob s.cs.length :: as) ds { s with cs := s.cs ++ [.O C []] }) σ (fun v H2 => v = .non ∧ Q (.ref x) H2) := fun x dx h1 h2 h3 => by
      have q1 := q.alloc (o := .own x) h2
      have hx1 : L2.upd H dx (.own x) x = none := by rw [L2.upd_ne h3.symm]; exact h1
      have q2 := q1.newC (o := .ins (c.T.cls C) dx []) (k' := .O C []) hx1 ⟨dx, [], L2.upd_same, L2.upd_same, rfl, .nil⟩
      refine ⟨q2, ?_⟩
      have l1 : Le F (L2.upd F dx (.own x)) := Le.upd (q.fnone h2)
      have p1 : ρ <+: ρ ++ [x] := List.prefix_append _ _
      have hlx : (ρ ++ [x])[s.cs.length]? = some x := by rw [← q.hr.len, List.getElem?_append_right (Nat.le_refl _), Nat.sub_self]; rfl
      cases e : callO G calls i (n + 1) ks (.ob s.cs.length :: as) ds { s with cs := s.cs ++ [.O C []] } with
      | bad => rw [e] at h; exact h.elim
      | exc y s' =>
        rw [e] at h
        exact fun cls dd H' F' ρ' l p q z => h cls dd H' F' ρ' (l1.trans l) (p1.trans p) q z
      | ok y s' =>
        rw [e] at h
        cases y with
        | non =>
          intro b H' F' ρ' l p q z
          cases z
          exact ⟨rfl, h (.ref x) H' F' ρ' (l1.trans l) (p1.trans p) q (.ob (pre_get p hlx))⟩
        | _ => exact h.elim
    have repx : ∀ x dx, H x = none → H dx = none → dx ≠ x → RepL c.T (L2.upd F dx (.own x)) (ρ ++ [x]) (.ref x :: vs) (.ob s.cs.length :: as) ∧ RepL c.T (L2.upd F dx (.own x)) (ρ ++ [x]) zs ds := fun x dx h1 h2 h3 => by
      have l1 : Le F (L2.upd F dx (.own x)) := Le.upd (q.fnone h2)
      have p1 : ρ <+: ρ ++ [x] := List.prefix_append _ _
      have hlx : (ρ ++ [x])[s.cs.length]? = some x := by rw [← q.hr.len, List.getElem?_append_right (Nat.le_refl _), Nat.sub_self]; rfl
      exact ⟨.cons (.ob hlx) (rv.mono l1 p1), rw_.mono l1 p1⟩
    have s1 := I.hok.fresh (Nat.le_succ s0.heap.objs.size)
    have s2 := I.hok.fresh (Nat.le_refl s0.heap.objs.size)
    have s3 : s0.heap.objs.size ≠ s0.heap.objs.size + 1 := Nat.ne_of_lt (Nat.lt_succ_self _)
    obtain ⟨q2, h2⟩ := fresh _ _ s1 s2 s3
    obtain ⟨rx, rz2⟩ := repx _ _ s1 s2 s3
    obtain ⟨fi, sh, hf, hsh, hfn, hn, hks, hp, l1, l2, sp⟩ := callO_ok a g q2 rx rz2 h2
    obtain ⟨fd, FD, _, shs⟩ := g.fns i fi hf
    obtain ⟨its, rits, to⟩ := shs sh hsh hfn
    have M := g.ini C ci i fi hc hi hf
    have Fn := fo i fi fd hf FD
    rw [← a.P, ← a.w, ← a.K, ← a.mg, ← a.base, ← a.T] at Fn
    rw [← a.K, ← a.T] at M
    rw [← a.K] at FD rits to sp
    rw [← a.T]
    have I2 := L2.Inv.made (C := c.T.cls C) I
    have r1 : L2.Vals (L2.V.ref (s0.heap.objs.size + 1) :: vs) (Value.ref (s0.heap.objs.size + 1) :: us) := .cons rfl r
    have r2 : L2.Vals (permL sh.perm ((L2.V.ref (s0.heap.objs.size + 1) :: vs) ++ zs ++ fi.d.dvs X.K) .non) (permL sh.perm ((Value.ref (s0.heap.objs.size + 1) :: us) ++ ws ++ its) .none) := vals_perm ((r1.append rz).append rits) _
    have n1 : (Value.ref (s0.heap.objs.size + 1) :: us).length = sh.n := by rw [← l1]; exact r1.length.symm
    have to' := to _ (Value.ref (s0.heap.objs.size + 1) :: us) ws I2.kIn n1 (by rw [hlen, hks])
    rw [hks] at to'
    refine wpAny_call (L2.make_map (f := fi.d.ad X.K) I.kIn M.makes M.init (beq_iff_eq.mp M.fn) (codeAny_mono (Fn.run _ X.stack _ _ ⟨Value.ref (s0.heap.objs.size + 1) :: us, ks.zip ws⟩ _ _ _ (L2.WE c.W σ) (a.room.make (c.T.cls C) us (ks.zip ws))
      (I2.env0.make (c.T.cls C) us (ks.zip ws)) to' r2 sp) fun r s' hq' => ?_))
    cases r with
    | error e => exact L2.passAt a.tk σ pins _ _ e s' I2 hq'
    | ok fl =>
      cases fl with
      | ret u =>
        obtain ⟨v, H', I3, rv, ev, q3⟩ := I2.after hq'
        subst ev
        exact ⟨rv, ⟨.ref (s0.heap.objs.size + 1), H', I3, rfl, q3⟩⟩
      | next => exact False.elim hq'
      | brk => exact False.elim hq'
      | cont => exact False.elim hq'
  · exact h.elim
end
end U

/-! X3: the same, as rules of expressions. -/
namespace U
open PySem PySem.Spec PyProof.Rows
section
variable {X : L2.Cx} {c : Cy} {Z : Wd} {G : Pg} {k : Nat} {calls : Calls}
/-- o.f -/
theorem e_attr {o : Expr} {f : Str} {pos : Pos} {mo : M D} (a : At X c Z k) (g : PgOk G Z) (fo : FnsOk G Z k calls) (ho : L2.PE X o (tG c rpD mo)) (hb : plainBase o = true) : L2.PE X (.Attribute o f pos) (tG c rpD (mBind mo (attrD G calls f))) := by
  refine ⟨fun pins s0 σ H Q I h => ?_⟩
  refine L2.attr_of (base_ok hb _ _ _) (L2.thn (ho.run pins s0 σ H _ I (tG_bind h)) fun u s1 ⟨x, H1, I1, rx, F, ρ, s, d, q, r, h⟩ => ?_)
  unfold attrD at h
  cases e0 : objO s d with
  | none => rw [e0] at h; exact h.elim
  | some t =>
    obtain ⟨n, cc, fs⟩ := t
    rw [e0] at h
    dsimp only at h
    obtain ⟨rfl, ad, dx, vs, rfl, hn, hH, hF, hk, hv⟩ := q.obj r e0
    obtain rfl : u = Value.ref ad := rx
    cases e1 : G.cls[cc]? with
    | none => rw [e1] at h; exact h.elim
    | some ci =>
      rw [e1] at h
      dsimp only at h
      have hcl := g.cl cc ci e1
      rw [← a.K, ← a.T] at hcl
      obtain ⟨look, lookN⟩ := look_rep (f := f) hk hv
      by_cases hf : ci.noat.contains f = true
      · rw [if_pos hf] at h
        have na := g.noat cc ci f e1 (List.contains_iff_mem.mp hf)
        rw [← a.K, ← a.T] at na
        obtain ⟨y, e2, h⟩ := Run.opt h
        obtain ⟨v, k1, k2⟩ := look y e2
        exact L2.getattr_ok I1 hH hcl na k1 fun u s' I2 ru => ⟨v, H1, I2, ru, Run.done h q k2⟩
      · rw [if_neg hf] at h
        cases e2 : ci.prp.lookup f with
        | some i =>
          rw [e2] at h
          dsimp only at h
          by_cases hpb : propB G i = true
          · rw [if_pos hpb] at h
            cases e3 : callO G calls i 1 [] [.ob n] [] s with
            | bad => rw [e3] at h; exact h.elim
            | exc y s' => rw [e3] at h; exact h.elim
            | ok y s' =>
              rw [e3] at h
              obtain ⟨fi, sh, hfi, hfd, hsh, hfn, hn1, hks, hpl, sp⟩ := callO_val (E := fun _ _ _ => False) a g q (.cons (.ob hn) .nil) .nil e3 h
              obtain ⟨fd, FD, _, shs⟩ := g.fns i fi hfi
              obtain ⟨its, rits, to⟩ := shs sh hsh hfn
              obtain ⟨p, hp⟩ := g.prp cc ci f i fi e1 e2 hfi
              have Fn := fo i fi fd hfi FD
              rw [← a.P, ← a.w, ← a.K, ← a.mg, ← a.base, ← a.T] at Fn
              rw [← a.K, ← a.T] at hp
              have hpm : sh.perm = [0] := by
                unfold propB at hpb
                rw [hfd] at hpb
                exact eq_of_beq hpb
              have hps : fi.ps.length = 1 := by rw [← hpl, hpm]; rfl
              have pm : ∀ {α : Type} (u : α) (l : List α) (z : α), permL sh.perm (u :: l) z = [u] := fun u l z => by rw [hpm]; rfl
              have sp' : spEv c.T (calls i) fi.ps.length [.ref ad] H1 Q (fun _ _ _ => False) := by
                have e4 : permL sh.perm ([L2.V.ref ad] ++ [] ++ fi.d.dvs Z.K) .non = [.ref ad] := pm _ _ _
                rw [← e4]; exact sp
              have hb : L2.Binds X.K fd fi.ps [] := fun st us hK hl => by
                rw [List.append_nil] at hl ⊢
                match us, hl.trans hps with
                | [u], _ =>
                  have := to st [u] [] (by rw [← a.K]; exact hK) (by rw [hn1]; rfl) (by rw [hks]; rfl)
                  rw [hks] at this
                  have e5 : permL sh.perm ([u] ++ [] ++ its) .none = [u] := pm _ _ _
                  rw [e5] at this
                  exact this
              have hx : L2.Passes (L2.CX X.prog X.w) X.nox (fun _ _ _ => False) := fun pins σ H s er s' _ ⟨_, _, _, _, _, _, _, _, _, _, _, _, z⟩ => z
              exact L2.getprop_ok (dvs := []) I1 hH hcl hp Fn a.room hb .nil hx sp'
          · rw [if_neg hpb] at h; exact h.elim
        | none =>
          rw [e2] at h
          dsimp only at h
          cases e3 : ci.cst.lookup f with
          | none => rw [e3] at h; exact h.elim
          | some v =>
            rw [e3] at h
            dsimp only at h
            by_cases hN : (fs.lookup f).isNone = true
            · rw [if_pos hN] at h
              obtain ⟨u, hu⟩ := g.cst cc ci f v e1 e3
              rw [← a.K, ← a.T] at hu
              have rv : Rep c.T F ρ v.v (cvD v) := by
                cases v with
                | int i => exact .int i
                | str z =>
                  have e : z = stS z.cps.toList := by cases z; rfl
                  show Rep c.T F ρ (.str z) (.str z.cps.toList)
                  have : Rep c.T F ρ (.str (stS z.cps.toList)) (.str z.cps.toList) := .str _
                  rw [← e] at this; exact this
              exact L2.getcon_ok I1 hH hcl hu (lookN (Option.isNone_iff_eq_none.mp hN)) fun s' I2 => ⟨v.v, H1, I2, hu.rel, Run.done h q rv⟩
            · rw [if_neg hN] at h; exact h.elim
/-- o.m(..): how the call stands -/
theorem eval_meth {o : Expr} {name : Str} {apos pos : Pos} {es : List Expr} {kws : List Keyword} {env : Env} (hb : plainBase o = true) (hs : es.all notStar = true) (hk : kws.all (·.arg.isSome) = true) (hl : es.length + kws.length + 1 < 30) (hline : (apos.endLine == pos.line) = true) :
    eval (.Call (.Attribute o name apos) es kws pos) env = (do
      let ov ← eval o env
      standAt apos.atName
      let (f, first) ← holding [ov] (getMethod ov name (do return (← importBound o env).getD true))
      callWith pos f first (backTo pos (starEach es env)) (backToKw pos (keywordEach kws env))) := by
  have h1 : (backTo pos (starEach es env)).all (fun x => !x.1) = true := by
    have := backTo_plain (pos := pos) (env := env) hs
    rw [List.all_eq_true]
    rw [List.any_eq_false] at this
    intro x hx
    rw [Bool.not_eq_true']
    exact Bool.eq_false_iff.mpr (this x hx)
  have hform : methodCallForm (es.length + kws.length) (backTo pos (starEach es env)) (backToKw pos (keywordEach kws env)) = true := by
    unfold methodCallForm
    rw [h1, kw_all hk]
    show (true && true && decide (_ < 30)) = true
    rw [Bool.true_and, Bool.true_and, decide_eq_true_eq]
    split <;> omega
  have hpos : methodCallPos true o env apos pos = pure pos := by unfold methodCallPos; simp [hline]
  rw [arm_eval_Call, base_ok hb]
  congr 1; funext ov
  congr 1; funext _
  unfold methodCall
  rw [hform, hpos]
  unfold calleeOf
  rw [if_pos rfl]
  congr 1
theorem e_methO {o : Expr} {m : Str} {apos pos : Pos} {es : List Expr} {kws : List Keyword} {mo : M D} {ma mk : M (List D)} (a : At X c Z k) (g : PgOk G Z) (fo : FnsOk G Z k calls) (ho : L2.PE X o (tG c rpD mo)) (hb : plainBase o = true) (hs : es.all notStar = true) (hall : kws.all (·.arg.isSome) = true) (hl : es.length + kws.length + 1 < 30) (hline : (apos.endLine == pos.line) = true)
    (ha : L2.PA X es (tG c rpL ma)) (hk : L2.PK X kws (tG c rpL mk)) (he : es = [] → ma = mPure []) :
    L2.PE X (.Call (.Attribute o m apos) es kws pos) (tG c rpD (mBind mo fun d => methO G calls m es.length (kws.filterMap (·.arg)) d ma mk)) := by
  refine ⟨fun pins s0 σ H Q I h => ?_⟩
  refine PySem.W.methodCall_KW (L2.thn (ho.run pins s0 σ H _ I (tG_bind h)) fun u s1 ⟨x, H1, I1, rx, F, ρ, s, d, q, r, h⟩ => ?_) (eval_meth hb hs hall hl hline)
  unfold methO at h
  cases e0 : objO s d with
  | none => rw [e0] at h; exact h.elim
  | some t =>
    obtain ⟨n, cc, fs⟩ := t
    rw [e0] at h
    dsimp only at h
    obtain ⟨rfl, ad, dx, vs, rfl, hn, hH, hF, hkk, hv⟩ := q.obj r e0
    obtain rfl : u = Value.ref ad := rx
    cases e1 : (G.cls[cc]?).bind fun ci => ci.mth.lookup m with
    | none => rw [e1] at h; exact h.elim
    | some i =>
      rw [e1] at h
      dsimp only at h
      obtain ⟨ci, hci, hmi⟩ := Option.bind_eq_some_iff.mp e1
      have hcl := g.cl cc ci hci
      rw [← a.K, ← a.T] at hcl
      by_cases hNN : ((fs.lookup m).isNone && (G.fns[i]?).isSome) = true
      · rw [if_pos hNN] at h
        rw [Bool.and_eq_true] at hNN
        obtain ⟨hN, hsome⟩ := hNN
        have hvN := (look_rep (f := m) hkk hv).2 (Option.isNone_iff_eq_none.mp hN)
        -- the def's number is one
        cases hfi : G.fns[i]? with
        | none => rw [hfi] at hsome; cases hsome
        | some fi =>
          have hm := g.mth cc ci m i fi hci hmi hfi
          rw [← a.T] at hm
          have hm : L2.Meth X.K (c.T.cls cc) m (fi.d.ad Z.K) := by rw [a.K]; exact hm
          refine L2.getmeth_ok I1 hH hcl hm hvN ?_
          have fin : ∀ {s2 us ws H2 F2 ρ2 S2 as}, L2.Inv X pins σ H2 s2 → L2.Vals ws us → SR c.T c.e F2 ρ2 S2 σ H2 → RepL c.T F2 ρ2 ws as → Rep c.T F2 ρ2 (.ref ad) (.ob n) → Run c rpD F2 ρ2 (mBind mk (fun zs => callO G calls i (es.length + 1) (kws.filterMap (·.arg)) (.ob n :: as) zs) S2) σ Q →
              wpAny (model X.prog X.w) X.A (evalAll ((backToKw pos (keywordEach kws X.env)).map (·.2))) (fun ks s₂ => X.K.In s₂.heap ∧ wpAny (model X.prog X.w) X.A (call (.ref (fi.d.ad Z.K)) ([.ref ad] ++ us) (((backToKw pos (keywordEach kws X.env)).filterMap (·.1)).zip ks)) (L2.EP X pins σ Q) X.xe s₂) X.xe s2 := fun {s2 us ws H2 F2 ρ2 S2 as} I2 rv q2 r2 ro h2 => by
            refine L2.thn (hk.run pos pins s2 σ H2 _ I2 ⟨F2, ρ2, S2, q2, Run.bind h2⟩) fun ks s3 ⟨zs, H3, I3, rz, F3, ρ3, S3, kd, l3, p3, q3, z3, h3⟩ => ⟨I3.kIn, ?_⟩
            rw [kw_names]
            obtain ⟨fi', sh, hfi', hsh, hfn, hn2, hks, hpl, l1, l2, sp⟩ := callO_ok a g q3 (.cons (ro.mono l3 p3) (r2.mono l3 p3)) z3 h3
            rw [hfi] at hfi'; cases hfi'
            rw [← hks]
            exact run_call (us := .ref ad :: us) (vs := .ref ad :: ws) a g fo hfi hsh hfn I3 (.cons rfl rv) rz l1 l2 sp
          have kp : PySem.W.keepIn X.K (.ref (fi.d.ad Z.K)) = true := hm.kp
          cases es with
          | nil =>
            refine PySem.W.callWith_KW0 (h₀ := X.base) I1.ok.mod.kin kp (kw_all hall) ?_ (by rw [kw_none hall]; rfl)
            rw [he rfl] at h
            exact fin (us := []) I1 .nil q .nil r h
          | cons e es =>
            rw [List.all_cons, Bool.and_eq_true] at hs
            refine PySem.W.callWith_KW (h₀ := X.base) I1.ok.mod.kin kp (kw_all hall) (L2.thn (ha.run pos pins s1 σ H1 _ I1 ⟨F, ρ, s, q, Run.bind h⟩) fun us s2 ⟨ws, H2, I2, rv, F2, ρ2, S2, as, l, pr, q2, z2, h2⟩ => fin I2 rv q2 z2 (r.mono l pr) h2) ?_ (starEach_cons hs.1 _ _)
            rw [kw_none hall, starEach_cons hs.1]
            show ((false || (backTo pos (starEach es X.env)).any (·.1)) || false) = false
            rw [backTo_plain hs.2]; rfl
      · rw [if_neg hNN] at h; exact h.elim
/-- C(..) -/
theorem e_mkO {x : Str} {p pos : Pos} {es : List Expr} {kws : List Keyword} {C : Nat} {ci : ClsI} {ma mk : M (List D)} (a : At X c Z k) (g : PgOk G Z) (fo : FnsOk G Z k calls) (hx : G.glo.lookup x = some (.cls C)) (hc : G.cls[C]? = some ci) (hi : ∃ i fi, ci.ini = some i ∧ G.fns[i]? = some fi) (hall : kws.all (·.arg.isSome) = true)
    (hg : L2.Gl X x) (hdb : (x == ("__debug__" : Str)) = false) (hs : es.all notStar = true) (ha : L2.PA X es (tG c rpL ma)) (hk : L2.PK X kws (tG c rpL mk)) (he : es = [] → ma = mPure []) :
    L2.PE X (.Call (.Name x p) es kws pos) (tG c rpD (mBind ma fun as => mBind mk fun ks => mkO G calls C es.length (kws.filterMap (·.arg)) as ks)) := by
  have hm : X.mg x = some (.ref (Z.T.cls C)) := by rw [a.mg]; exact g.cls x C ci hx hc
  obtain ⟨i, fi, hi, hfi⟩ := hi
  have M := g.ini C ci i fi hc hi hfi
  have kp : PySem.W.keepIn X.K (.ref (Z.T.cls C)) = true := by rw [a.K]; exact M.kp
  refine ⟨fun pins s0 σ H Q I h => ?_⟩
  refine wpAny_Call_Name_kw (L2.ld_glob I hg hm ?_ hdb)
  obtain ⟨F, ρ, s, q, h⟩ := h
  have fin : ∀ {s1 us vs H1 F1 ρ1 S1 as}, L2.Inv X pins σ H1 s1 → L2.Vals vs us → SR c.T c.e F1 ρ1 S1 σ H1 → RepL c.T F1 ρ1 vs as → Run c rpD F1 ρ1 (mBind mk (fun ks => mkO G calls C es.length (kws.filterMap (·.arg)) as ks) S1) σ Q →
      wpAny (model X.prog X.w) X.A (evalAll ((backToKw pos (keywordEach kws X.env)).map (·.2))) (fun ks s₂ => X.K.In s₂.heap ∧ wpAny (model X.prog X.w) X.A (call (.ref (Z.T.cls C)) ([] ++ us) (((backToKw pos (keywordEach kws X.env)).filterMap (·.1)).zip ks)) (L2.EP X pins σ Q) X.xe s₂) X.xe s1 := fun {s1 us vs H1 F1 ρ1 S1 as} I1 rv q1 r1 h1 => by
    refine L2.thn (hk.run pos pins s1 σ H1 _ I1 ⟨F1, ρ1, S1, q1, Run.bind h1⟩) fun ws s2 ⟨zs, H2, I2, rz, F2, ρ2, S2, ks, l2, p2, q2, z2, h2⟩ => ⟨I2.kIn, ?_⟩
    rw [kw_names]
    -- how many keywords there are
    have hlen : zs.length = (kws.filterMap (·.arg)).length := by
      unfold mkO at h2
      rw [hc] at h2
      dsimp only [Option.bind_some] at h2
      rw [hi] at h2
      dsimp only at h2
      have hz : zs.length = ks.length := z2.length
      cases e : callO G calls i (es.length + 1) (kws.filterMap (·.arg)) (.ob S2.cs.length :: as) ks { S2 with cs := S2.cs ++ [.O C []] } with
      | bad => rw [e] at h2; exact h2.elim
      | exc y s' => rw [hz]; exact callO_len (fun z => by rw [z] at e; cases e)
      | ok y s' => rw [hz]; exact callO_len (fun z => by rw [z] at e; cases e)
    exact run_mkO (i := i) (fi := fi) (ci := ci) (sh := ⟨0, 0, [], []⟩) a g fo I2 rv rz q2 (r1.mono l2 p2) z2 (rz.length.symm.trans hlen) h2
  cases es with
  | nil =>
    refine PySem.W.callWith_KW0 (h₀ := X.base) I.ok.mod.kin kp (kw_all hall) ?_ (by rw [kw_none hall]; rfl)
    rw [he rfl] at h
    exact fin (us := []) I .nil q .nil h
  | cons e es =>
    rw [List.all_cons, Bool.and_eq_true] at hs
    refine PySem.W.callWith_KW (h₀ := X.base) I.ok.mod.kin kp (kw_all hall) (L2.thn (ha.run pos pins s0 σ H _ I ⟨F, ρ, s, q, Run.bind h⟩) fun us s1 ⟨vs, H1, I1, rv, F1, ρ1, S1, as, l, pr, q1, z1, h1⟩ => fin I1 rv q1 z1 h1) ?_ (starEach_cons hs.1 _ _)
    rw [kw_none hall, starEach_cons hs.1]
    show ((false || (backTo pos (starEach es X.env)).any (·.1)) || false) = false
    rw [backTo_plain hs.2]; rfl
/-! ### o.f = e -/
theorem s_attr {o e : Expr} {f : Str} {pos pos' : Pos} {mo mv : M D} (a : At X c Z k) (g : PgOk G Z) (ho : L2.PE X o (tG c rpD mo)) (hv : L2.PE X e (tG c rpD mv)) (hs : swapsWith e (some (.Attribute o f pos')) pos.line X.env = pure false) :
    L2.PS X (.Assign [.Attribute o f pos'] e pos) (tS c (sB (mBind mv fun y => mBind mo fun d => setAt G f y d) fun _ => .nx)) := by
  refine ps_imp (L2.ps_fld ho hv hs) fun D σ H hq => ?_
  have hq' : tG c (fun _ _ _ _ _ => True) (mBind mv fun y => mBind mo fun d => setAt G f y d) σ H (fun (_ : Unit) H' => D.nx σ H') := by
    obtain ⟨F, ρ, s, q, h⟩ := hq
    refine ⟨F, ρ, s, q, ?_⟩
    unfold sB at h
    cases e1 : (mBind mv fun y => mBind mo fun d => setAt G f y d) s with
    | bad => rw [e1] at h; exact h.elim
    | exc x s' => rw [e1] at h; exact fun cls dd H' F' ρ' l p q z => h cls dd σ H' F' ρ' l p q z
    | ok u s' => rw [e1] at h; exact fun b H' F' ρ' l p q z => h σ H' F' ρ' l p q
  refine tG_imp2 (tG_bind2 rpD_mono hq') fun y x H2 ⟨F, ρ, s, yd, d, q, ry, r, h⟩ => ?_
  unfold setAt at h
  cases e0 : objO s d with
  | none => rw [e0] at h; exact h.elim
  | some t =>
    obtain ⟨n, cc, fs⟩ := t
    rw [e0] at h
    dsimp only at h
    obtain ⟨rfl, ad, dx, vs, rfl, hn, hH, hF, hk, hv⟩ := q.obj r e0
    cases e1 : G.cls[cc]? with
    | none => rw [e1] at h; exact h.elim
    | some ci =>
      rw [e1] at h
      dsimp only at h
      by_cases hb : (ci.noat.contains f && decide (fs.length < 1000)) = true
      · rw [if_pos hb] at h
        rw [Bool.and_eq_true, decide_eq_true_eq] at hb
        have hcl := g.cl cc ci e1
        have na := g.noat cc ci f e1 (List.contains_iff_mem.mp hb.1)
        rw [← a.K, ← a.T] at hcl na
        have hl : vs.length < 1000 := by
          have := congrArg List.length hk
          rw [List.length_map, List.length_map] at this
          omega
        refine ⟨ad, _, dx, vs, rfl, hH, hcl, na, hl, ?_⟩
        obtain ⟨k1, k2⟩ := put_rep (f := f) ry hk hv
        have q2 := q.cellTo (o := .ins (c.T.cls cc) dx (L2.putF f y vs)) (k' := .O cc (putD f yd fs)) hn ⟨dx, _, L2.upd_same, hF, k1, k2⟩
        exact h () _ F ρ (Le.refl F) (List.prefix_refl ρ) q2 trivial
      · rw [if_neg hb] at h; exact h.elim
end
end U

/-! SP: a text split at one sign. -/
namespace U
open PySem PySem.Spec PyProof.Rows Builtin Builtin.Str StrLaws
def splitN (c : Nat) : List Nat → List (List Nat)
  | [] => [[]]
  | k :: r => if k = c then [] :: splitN c r else (match splitN c r with
    | h :: t => (k :: h) :: t
    | [] => [[k]])
/-- where the sign stands, from a place on -/
def cutsN (c : Nat) : Nat → List Nat → List Nat
  | _, [] => []
  | o, k :: r => if k = c then o :: cutsN c (o + 1) r else cutsN c (o + 1) r
theorem splitN_ne (c : Nat) : ∀ z, splitN c z ≠ []
  | [] => by simp [splitN]
  | k :: r => by
    unfold splitN
    split
    · simp
    · split <;> simp
def subN (a : List Nat) (i j : Nat) : List Nat := (a.drop i).take (j - i)
theorem parts_go (c : Nat) (a : List Nat) : ∀ (suf : List Nat) (off st : Nat), st ≤ off → a.drop off = suf → off ≤ a.length →
    ((st :: (cutsN c off suf).map (· + 1)).zip (cutsN c off suf ++ [a.length])).map (fun p => subN a p.1 p.2) = (match splitN c suf with
      | h :: t => (subN a st off ++ h) :: t
      | [] => [])
  | [], off, st, h1, h2, h3 => by
    have e : off = a.length := by
      have := List.drop_eq_nil_iff.mp h2
      omega
    subst e
    simp [cutsN, splitN]
  | k :: r, off, st, h1, h2, h3 => by
    have hlt : off < a.length := by
      by_cases h : off < a.length
      · exact h
      · rw [List.drop_eq_nil_of_le (by omega)] at h2; cases h2
    have hd : a.drop (off + 1) = r := by
      rw [← List.drop_drop, h2]; rfl
    have hk : a[off]? = some k := by
      have := List.getElem?_drop (xs := a) (i := off) (j := 0)
      rw [h2] at this
      simpa using this.symm
    by_cases hc : k = c
    · have ih := parts_go c a r (off + 1) (off + 1) (Nat.le_refl _) hd hlt
      simp only [cutsN, splitN, if_pos hc, List.map_cons, List.cons_append, List.zip_cons_cons]
      rw [ih]
      cases hs : splitN c r with
      | nil => exact absurd hs (splitN_ne c r)
      | cons h t => simp [subN]
    · have ih := parts_go c a r (off + 1) st (by omega) hd hlt
      simp only [cutsN, splitN, if_neg hc]
      rw [ih]
      cases hs : splitN c r with
      | nil => exact absurd hs (splitN_ne c r)
      | cons h t =>
        have e : subN a st (off + 1) = subN a st off ++ [k] := by
          unfold subN
          have e1 : off + 1 - st = (off - st) + 1 := by omega
          rw [e1, List.take_succ]
          congr 1
          rw [List.getElem?_drop]
          have e2 : st + (off - st) = off := by omega
          rw [e2, hk]; rfl
        simp [e]
theorem occ_go (c : Nat) (a : List Nat) : ∀ (suf : List Nat) (off : Nat) (st : Array Nat × Nat), a.drop off = suf → off ≤ a.length → st.1.size ≤ off → st.2 ≤ off →
    (forIn (List.range' off (suf.length + 1)) st (occBody (stS a) ⟨#[c]⟩ a.length (a.length + 1))).run.fst.toList = st.1.toList ++ cutsN c off suf
  | [], off, st, h2, h3, h4, h5 => by
    have e : off = a.length := by
      have := List.drop_eq_nil_iff.mp h2
      omega
    have hr : List.range' off (([] : List Nat).length + 1) = [off] := rfl
    rw [hr, List.forIn_cons]
    unfold occBody
    have hn : ¬ (((st.fst.size < a.length + 1 ∧ st.snd ≤ off) ∧ off + (⟨#[c]⟩ : Str).length ≤ a.length) ∧ subAt (stS a) ⟨#[c]⟩ off = true) := fun h => by
      have h1 : (⟨#[c]⟩ : Str).length = 1 := rfl
      have := h.1.2
      omega
    rw [if_neg hn]
    simp [cutsN]
  | k :: r, off, st, h2, h3, h4, h5 => by
    have hlt : off < a.length := by
      by_cases h : off < a.length
      · exact h
      · rw [List.drop_eq_nil_of_le (by omega)] at h2; cases h2
    have hd : a.drop (off + 1) = r := by
      rw [← List.drop_drop, h2]; rfl
    have hk : a[off]? = some k := by
      have := List.getElem?_drop (xs := a) (i := off) (j := 0)
      rw [h2] at this
      simpa using this.symm
    have hr : List.range' off ((k :: r).length + 1) = off :: List.range' (off + 1) (r.length + 1) := rfl
    rw [hr, List.forIn_cons]
    have so := subAt_one (stS a) c off
    rw [stS_len, stS_cps, hk] at so
    unfold occBody
    by_cases hc : k = c
    · have hp : ((st.fst.size < a.length + 1 ∧ st.snd ≤ off) ∧ off + (⟨#[c]⟩ : Str).length ≤ a.length) ∧ subAt (stS a) ⟨#[c]⟩ off = true := by
        have := so.mpr (by rw [hc])
        exact ⟨⟨⟨by omega, h5⟩, this.1⟩, this.2⟩
      rw [if_pos hp]
      have ih := occ_go c a r (off + 1) (st.fst.push off, off + (⟨#[c]⟩ : Str).length) hd hlt (by simp; omega) (by show off + 1 ≤ off + 1; omega)
      simp only [cutsN, if_pos hc]
      have e : st.1.toList ++ off :: cutsN c (off + 1) r = (st.1.push off).toList ++ cutsN c (off + 1) r := by simp
      rw [e]
      exact ih
    · have hn : ¬ (((st.fst.size < a.length + 1 ∧ st.snd ≤ off) ∧ off + (⟨#[c]⟩ : Str).length ≤ a.length) ∧ subAt (stS a) ⟨#[c]⟩ off = true) := fun h => by
        have := so.mp ⟨h.1.2, h.2⟩
        cases this
        exact hc rfl
      rw [if_neg hn]
      have ih := occ_go c a r (off + 1) (st.fst, st.snd) hd hlt (by show st.1.size ≤ off + 1; omega) (by show st.2 ≤ off + 1; omega)
      simp only [cutsN, if_neg hc]
      exact ih
theorem occ_cuts (c : Nat) (a : List Nat) : occurrences (stS a) ⟨#[c]⟩ 0 a.length (a.length + 1) = cutsN c 0 a := by
  rw [occ_eq]
  have := occ_go c a a 0 (#[], 0) rfl (Nat.zero_le _) (by simp) (by simp)
  simpa using this
theorem strSub_eq (a : List Nat) (i j : Nat) : strSub (stS a) i j = stS (subN a i j) := by
  unfold strSub stS subN
  congr 1
  apply Array.ext'
  simp
theorem cutsN_nil {c : Nat} : ∀ {z : List Nat} {o : Nat}, cutsN c o z = [] → splitN c z = [z]
  | [], _, _ => rfl
  | k :: r, o, h => by
    unfold cutsN at h
    by_cases hc : k = c
    · rw [if_pos hc] at h; cases h
    · rw [if_neg hc] at h
      have ih := cutsN_nil h
      simp [splitN, hc, ih]
theorem kind1 {c : Nat} (h : c < 256) : Builtin.Str.strKind ⟨#[c]⟩ = 1 := by
  unfold Builtin.Str.strKind; simp [h]
theorem kind_ge (x : Str) : 1 ≤ Builtin.Str.strKind x := by
  unfold Builtin.Str.strKind
  split
  · omega
  · split <;> omega
theorem split_eq {c : Nat} (hc : c < 256) (a : List Nat) : Txt.split (stS a) (stS [c]) = (splitN c a).map stS := by
  have e0 : stS [c] = (⟨#[c]⟩ : Str) := rfl
  rw [e0]
  unfold Txt.split
  have hl : (stS a).length = a.length := stS_len a
  rw [hl]
  have h1 : (⟨#[c]⟩ : Str).length = 1 := rfl
  by_cases ha : a = []
  · subst ha
    have : (decide (([] : List Nat).length < (⟨#[c]⟩ : Str).length) || decide (Builtin.Str.strKind (stS []) < Builtin.Str.strKind ⟨#[c]⟩)) = true := by simp [h1]
    rw [if_pos this]; rfl
  · have hp : 0 < a.length := List.length_pos_iff.mpr ha
    have : ¬ (decide (a.length < (⟨#[c]⟩ : Str).length) || decide (Builtin.Str.strKind (stS a) < Builtin.Str.strKind ⟨#[c]⟩)) = true := by
      have := kind_ge (stS a)
      intro h
      rw [Bool.or_eq_true, decide_eq_true_eq, decide_eq_true_eq, h1, kind1 hc] at h
      omega
    rw [if_neg this, occ_cuts]
    by_cases hn : (cutsN c 0 a).isEmpty = true
    · rw [if_pos hn, cutsN_nil (List.isEmpty_iff.mp hn)]; rfl
    · rw [if_neg hn]
      have pg := parts_go c a a 0 0 (Nat.le_refl _) rfl (Nat.zero_le _)
      unfold partsBetween
      rw [hl, h1]
      have e : (splitN c a).map stS = ((match splitN c a with
        | h :: t => (subN a 0 0 ++ h) :: t
        | [] => []) : List (List Nat)).map stS := by
        cases splitN c a with
        | nil => rfl
        | cons h t => simp [subN]
      rw [e, ← pg, List.map_map]
      apply List.map_congr_left
      rintro ⟨i, j⟩ _
      exact strSub_eq a i j
theorem splitN_word (c : Nat) : ∀ (w z : List Nat), c ∉ w → splitN c (w ++ c :: z) = w :: splitN c z
  | [], z, _ => by simp [splitN]
  | k :: w, z, h => by
    have h1 : k ≠ c := fun e => h (by rw [e]; exact List.mem_cons_self)
    have ih := splitN_word c w z fun e => h (List.mem_cons_of_mem _ e)
    rw [List.cons_append]
    simp [splitN, h1, ih]
theorem splitN_one (c : Nat) : ∀ (w : List Nat), c ∉ w → splitN c w = [w]
  | [], _ => rfl
  | k :: w, h => by
    have h1 : k ≠ c := fun e => h (by rw [e]; exact List.mem_cons_self)
    have ih := splitN_one c w fun e => h (List.mem_cons_of_mem _ e)
    simp [splitN, h1, ih]
theorem splitN_join (c : Nat) : ∀ (ws : List (List Nat)), ws ≠ [] → (∀ w ∈ ws, c ∉ w) → splitN c (joinN [c] ws) = ws
  | [w], _, h => by simp only [joinN]; exact splitN_one c w (h w (by simp))
  | w :: v :: r, _, h => by
    simp only [joinN]
    have e : w ++ ([c] ++ joinN [c] (v :: r)) = w ++ c :: joinN [c] (v :: r) := rfl
    rw [e, splitN_word c w _ (h w (by simp)), splitN_join c (v :: r) (by simp) fun x hx => h x (List.mem_cons_of_mem _ hx)]
/-- text.split(sign) -/
def splitD (d : D) (ds : List D) : M D := fun s => match d, ds with
  | .str a, [.str [c]] => if c < 256 ∧ a.length + 2 ≤ sizeLine then .ok (.lst ((splitN c a).map .str)) s else .bad
  | _, _ => .bad
theorem m_split {X : L2.Cx} {c : Cy} : L2.MtR X "str.split" (rGM c splitD) := mtr_of fun x xs H Q ⟨F, ρ, s, σ, d, ds, q, r, rs, h⟩ => by
  unfold splitD at h
  split at h
  · rename_i a b
    cases r
    obtain ⟨v, rfl, rx⟩ := rs.one
    cases rx
    split at h
    · rename_i g
      refine ⟨_, L2.mt_split, _, _, rfl, rfl, by rw [stS_len]; rfl, by rw [stS_len]; exact g.2, fun p hp => ?_⟩
      rw [split_eq g.1]
      exact Run.newL h q RepL.strs hp
    · exact h.elim
  · exact h.elim
end U

/-! X4: o.f op= e. -/
namespace U
open PySem PySem.Spec PyProof.Rows
/-- an attribute, no property; the class too -/
def fldD (G : Pg) (f : Str) (d : D) : M (Nat × D) := fun s => match objO s d with
  | some (_, c, fs) => (match G.cls[c]? with
    | some ci => if ci.noat.contains f then mOpt ((fs.lookup f).map fun x => (c, x)) s else .bad
    | none => .bad)
  | none => .bad
def setAtC (G : Pg) (f : Str) (c0 : Nat) (y d : D) : M Unit := fun s => match objO s d with
  | some (_, c, _) => if c = c0 then setAt G f y d s else .bad
  | none => .bad
def augA (G : Pg) (f : Str) (op : Operator) (mo mv : M D) : M Unit := mBind mo fun d => mBind (fldD G f d) fun x => mBind mv fun y => mBind (iopD op x.2 y) fun z => setAtC G f x.1 z d
theorem mBind_ok {α β : Type} {m : M α} {f : α → M β} {s s' : S} {a : α} (e : m s = .ok a s') : mBind m f s = f a s' := by unfold mBind; rw [e]
section
variable {X : L2.Cx} {c : Cy} {Z : Wd} {G : Pg} {k : Nat} {calls : Calls}
theorem s_attrAug {o e : Expr} {f : Str} {op : Operator} {pos tpos : Pos} {mo mv : M D} (a : At X c Z k) (g : PgOk G Z) (ho : L2.PE X o (tG c rpD mo)) (hv : L2.PE X e (tG c rpD mv)) :
    L2.PS X (.AugAssign (.Attribute o f tpos) op e pos) (tS c (sB (augA G f op mo mv) fun _ => .nx)) := by
  refine ps_imp (L2.ps_fldaug (rd := rG2 c (iopD op)) ho hv (fun pins s σ H x y u v Q I rx ry q => opr_iop (c := c) op pins s σ H x y u v Q I rx ry q)) fun D σ H hq => ?_
  have hq' : tG c (fun _ _ _ _ _ => True) (augA G f op mo mv) σ H (fun (_ : Unit) H' => D.nx σ H') := by
    obtain ⟨F, ρ, s, q, h⟩ := hq
    refine ⟨F, ρ, s, q, ?_⟩
    unfold sB at h
    cases e1 : (augA G f op mo mv) s with
    | bad => rw [e1] at h; exact h.elim
    | exc x s' => rw [e1] at h; exact fun cls dd H' F' ρ' l p q z => h cls dd σ H' F' ρ' l p q z
    | ok u s' => rw [e1] at h; exact fun b H' F' ρ' l p q z => h σ H' F' ρ' l p q
  refine tG_imp (tG_bind hq') fun x H1 ⟨F, ρ, s, d, q, r, h⟩ => ?_
  have h0 := h
  unfold mBind at h
  cases e0 : objO s d with
  | none => unfold fldD at h; rw [e0] at h; exact h.elim
  | some t =>
    obtain ⟨n, cc, fs⟩ := t
    obtain ⟨rfl, ad, dx, vs, rfl, hn, hH, hF, hk, hvv⟩ := q.obj r e0
    cases e1 : G.cls[cc]? with
    | none => unfold fldD at h; rw [e0] at h; dsimp only at h; rw [e1] at h; exact h.elim
    | some ci =>
      by_cases hf : ci.noat.contains f = true
      · cases e2 : fs.lookup f with
        | none => unfold fldD at h; rw [e0] at h; dsimp only at h; rw [e1] at h; dsimp only at h; rw [if_pos hf, e2] at h; exact h.elim
        | some x0 =>
          have ef : fldD G f (.ob n) s = .ok (cc, x0) s := by unfold fldD; rw [e0]; dsimp only; rw [e1]; dsimp only; rw [if_pos hf, e2]; rfl
          have h1 : Run c (fun _ _ _ _ _ => True) F ρ ((mBind mv fun y => mBind (iopD op x0 y) fun z => setAtC G f cc z (.ob n)) s) σ (fun (_ : Unit) H' => D.nx σ H') := by
            have : (mBind (fldD G f (.ob n)) fun x => mBind mv fun y => mBind (iopD op x.2 y) fun z => setAtC G f x.1 z (.ob n)) s = (mBind mv fun y => mBind (iopD op x0 y) fun z => setAtC G f cc z (.ob n)) s := by
              exact mBind_ok ef
            rw [← this]; exact h0
          have hcl := g.cl cc ci e1
          have na := g.noat cc ci f e1 (List.contains_iff_mem.mp hf)
          rw [← a.K, ← a.T] at hcl na
          obtain ⟨v0, k1, k2⟩ := (look_rep (f := f) hk hvv).1 x0 e2
          refine ⟨ad, _, dx, vs, v0, rfl, hH, hcl, na, k1, ⟨F, ρ, s, q, Run.imp (Run.bind h1) fun y H2 ⟨F2, ρ2, s2, yd, l2, p2, q2, ry, h2⟩ => ?_⟩⟩
          refine ⟨F2, ρ2, s2, σ, x0, yd, q2, k2.mono l2 p2, ry, Run.imp (Run.bind h2) fun z H3 ⟨F3, ρ3, s3, zd, l3, p3, q3, rz, h3⟩ => ?_⟩
          unfold setAtC at h3
          cases e3 : objO s3 (.ob n) with
          | none => rw [e3] at h3; exact h3.elim
          | some t3 =>
            obtain ⟨n3, cc3, fs3⟩ := t3
            rw [e3] at h3
            dsimp only at h3
            have r3 : Rep c.T F3 ρ3 (.ref ad) (.ob n) := .ob (pre_get p3 (pre_get p2 hn))
            obtain ⟨en, ad3, dx3, vs3, ea3, hn3, hH3, hF3, hk3, hv3⟩ := q3.obj r3 e3
            cases en
            cases ea3
            by_cases hcc : cc3 = cc
            · subst hcc
              rw [if_pos rfl] at h3
              unfold setAt at h3
              rw [e3] at h3
              dsimp only at h3
              rw [e1] at h3
              dsimp only at h3
              by_cases hb : (ci.noat.contains f && decide (fs3.length < 1000)) = true
              · rw [if_pos hb] at h3
                rw [Bool.and_eq_true, decide_eq_true_eq] at hb
                have hl : vs3.length < 1000 := by
                  have := congrArg List.length hk3
                  rw [List.length_map, List.length_map] at this
                  omega
                obtain ⟨j1, j2⟩ := put_rep (f := f) rz hk3 hv3
                have q4 := q3.cellTo (o := .ins (c.T.cls cc3) dx3 (L2.putF f z vs3)) (k' := .O cc3 (putD f zd fs3)) hn3 ⟨dx3, _, L2.upd_same, hF3, j1, j2⟩
                exact ⟨dx3, vs3, hH3, hl, h3 () _ F3 ρ3 (Le.refl F3) (List.prefix_refl ρ3) q4 trivial⟩
              · rw [if_neg hb] at h3; exact h3.elim
            · rw [if_neg hcc] at h3; exact h3.elim
      · unfold fldD at h; rw [e0] at h; dsimp only at h; rw [e1] at h; dsimp only at h; rw [if_neg hf] at h; exact h.elim
end
end U

/-! U20: sorted(set(..)) of texts. -/
namespace U
open PySem PySem.Spec PyProof.Rows
open PySem.Froz (SD sObj TxOk addTx tailTx)

/-! ### a set of texts that can be walked -/
structure TxS (P : Program) (w : World) (h : Heap) (a : Addr) (l : List Str) : Prop where
  at_ : ∃ Z : SD, h.get? a = some (sObj "set" Z) ∧ TxOk P w Z l ∧ L2.Ris Z.2.2.place.toList ∧ (w.params.followText "set-order" = true ∨ Z.2.2.led = true)
  nd : l.Nodup
section
variable {P : Program} {w : World} {h h' : Heap} {a : Addr} {l : List Str}
theorem TxS.keep (R : TxS P w h a l) (k : ∀ o, h.get? a = some o → h'.get? a = some o) : TxS P w h' a l := by
  obtain ⟨Z, z1, z⟩ := R.at_
  exact ⟨⟨Z, k _ z1, z⟩, R.nd⟩
theorem tab_tail (ep : Nat) (es : Array (Int × Value)) (t : SetTable) (d : Bool) (r : L2.Ris t.place.toList) : L2.Ris (tailTx ep es t d).2.2.place.toList ∧ (tailTx ep es t d).2.2.led = t.led := by
  unfold tailTx
  split
  · exact ⟨L2.relayAll_ris t es _, L2.relayAll_led t es _⟩
  · exact ⟨r, rfl⟩
theorem tab_add (x : Int) (v : Value) (Z : SD) (r : L2.Ris Z.2.2.place.toList) : L2.Ris (addTx x v Z).2.2.place.toList ∧ (addTx x v Z).2.2.led = Z.2.2.led := by
  have r1 := L2.layNew_ris Z.2.2 Z.1 x v r
  have e1 := L2.layNew_led Z.2.2 Z.1 x v
  unfold addTx
  split
  · obtain ⟨h1, h2⟩ := tab_tail Z.2.1 (layNew Z.2.2 Z.1 x v).1 { (layNew Z.2.2 Z.1 x v).2.1 with plain := false } (layNew Z.2.2 Z.1 x v).2.2.1 r1
    exact ⟨h1, h2.trans e1⟩
  · obtain ⟨h1, h2⟩ := tab_tail Z.2.1 (layNew Z.2.2 Z.1 x v).1 (layNew Z.2.2 Z.1 x v).2.1 (layNew Z.2.2 Z.1 x v).2.2.1 r1
    exact ⟨h1, h2.trans e1⟩
theorem TxS.fresh (e : h.get? a = some { cls := .type "set", dict := none, data := .set #[] 0 (.fresh 0 0 (!w.params.followText "set-order")) }) : TxS P w h a [] := by
  refine ⟨⟨(#[], 0, .fresh 0 0 (!w.params.followText "set-order")), e, TxOk.nil rfl, List.Pairwise.nil, ?_⟩, List.nodup_nil⟩
  show _ ∨ (!w.params.followText "set-order") = true
  cases w.params.followText "set-order" <;> simp
end
section
variable {P : Program} {w : World} {A : Around} {E : Value → Shared → Prop} {s : Shared}
/-- one text more -/
theorem add_text {a : Addr} {l : List Str} {k : Str} {u : Tok} {Q : Bool → Shared → Prop} (R : TxS P w s.heap a l) (hb : l.length + 1 < scanBound)
    (hQ : ∀ h' l' b, (∀ c o, c ≠ a → s.heap.get? c = some o → h'.get? c = some o) → TxS P w h' a l' → (∀ x, x ∈ l' ↔ x ∈ l ∨ x = k) → l'.length ≤ l.length + 1 → Q b { s with heap := h', toks := s.toks + 1 }) :
    wpAny (model P w) A (setAdd a (.str k u)) Q E s := by
  obtain ⟨Z, ho, F, r, led⟩ := id R.at_
  have isk : (strKind P w).is k (.str k u) = true := PySem.Froz.is_str k u
  unfold setAdd
  refine wpAny_holding (wpAny_bind ((strKind P w).pyHash isk ?_))
  by_cases hk : k ∈ l
  · obtain ⟨es, ep, t⟩ := Z
    have fit : t.fits es.size = true := F.fit
    have el : ElemsOf (strKind P w) es.toList := F.el
    have small : es.size < scanBound := by have : es.size = l.length := F.sz; omega
    obtain ⟨e, he, hi⟩ := (F.mem k).mp hk
    unfold setAddHashed setAddHashedIn
    refine wpAny_holding (wpAny_bind (wpAny_setState_of (s := { s with toks := s.toks + 1 }) ho rfl fit ?_))
    dsimp only
    rw [byScan_of rfl small el]
    simp only [↓reduceIte]
    unfold setAddByScan
    refine wpAny_bind (wpAny_bind (wpAny_rule ?_))
    refine wpAny_bind (wpAny_setScan_of (s := { s with toks := s.toks + 1 }) (knd := strKind P w) (k := k) isk ho rfl fit el ?_)
    cases hf : List.findIdx? (fun e => (strKind P w).is k e.2) es.toList with
    | none =>
      have c := List.findIdx?_eq_none_iff.mp hf e he
      rw [hi] at c; cases c
    | some j =>
      dsimp only
      refine wpAny_pure (wpAny_pure ?_)
      exact hQ s.heap l _ (fun c o _ z => z) R (fun x => ⟨.inl, fun z => z.elim id fun e => e ▸ hk⟩) (Nat.le_succ _)
  · obtain ⟨r2, led2⟩ := tab_add (hashStr w k) (.str k u) Z r
    refine PySem.Froz.add_x (s := { s with toks := s.toks + 1 }) ho F hk hb (hQ _ (k :: l) _ (fun c o hc z => PySem.Heap.get?_update_of_ne _ (Ne.symm hc) z) ⟨⟨_, PySem.Froz.get_upd _ ho rfl, PySem.Froz.add_ok u F, r2, by rw [led2]; exact led⟩, List.nodup_cons.mpr ⟨hk, R.nd⟩⟩ (fun x => ?_) (Nat.le_refl _))
    rw [List.mem_cons]; exact Or.comm
/-- the texts of a walk, one behind the other -/
theorem up_loop {I : Addr} {fp wr : List Addr} {Gr : Array GenState → Array GenState → Prop} {n : Nat} {Pv : Nat → Value → Prop} {St : Nat → Shared → Prop} {R : Result → Shared → Prop}
    (V : WalksS P w A.in1 I fp wr Gr n Pv St) (D : Addr) (hD : D ∉ fp) (xs : List Str) (hn : n = xs.length) (hb : xs.length + 1 < scanBound) (val : ∀ i v, Pv i v → ∃ x t, xs[i]? = some x ∧ v = .str x t) :
    ∀ (m i : Nat) (s : Shared) (l : List Str), n - i = m → i ≤ n → St i s → TxS P w s.heap D l → (∀ x, x ∈ l ↔ x ∈ xs.take i) → l.length ≤ i →
      (∀ s' l', Moved (D :: wr) Gr s s' → TxS P w s'.heap D l' → (∀ x, x ∈ l' ↔ x ∈ xs) → R (.ok (.ret .none)) s') → codeAny (model P w) A (.builtin "set.update.loop" ⟨[.ref D, .ref I], []⟩) R s := by
  have hDw : D ∉ wr := fun z => hD (V.sub _ z)
  have mo : ∀ b ∈ wr, b ∈ D :: wr := fun b z => List.mem_cons_of_mem _ z
  intro m
  induction m with
  | zero =>
    intro i s l h1 h2 st T mem len fin
    have hi : i = n := by omega
    refine codeAny_builtin F.entry_set_update_loop ?_
    rw [Around.under_plainId F.plain_set_update_loop _]
    show wpAny _ A.in1 (pyNext (.ref I) >>= _) _ _ s
    rw [hi] at st
    refine wpAny_bind (V.done s _ _ st fun s' mv => ?_)
    show wpAny _ A.in1 (ret Value.none) _ _ s'
    refine wpAny_pure (fin s' l (mv.mono mo) (T.keep fun o e => mv.heap D o hDw e) fun x => ?_)
    rw [mem x, List.take_of_length_le (by omega)]
  | succ m ih =>
    intro i s l h1 h2 st T mem len fin
    have hlt : i < n := by omega
    refine codeAny_builtin F.entry_set_update_loop ?_
    rw [Around.under_plainId F.plain_set_update_loop _]
    show wpAny _ A.in1 (pyNext (.ref I) >>= _) _ _ s
    refine wpAny_bind (V.item i s _ _ hlt st fun v s' hv st' mv => ?_)
    obtain ⟨z, t, hz, rfl⟩ := val i v hv
    show wpAny _ A.in1 (holding [Value.str z t] (setAdd D (.str z t)) >>= _) _ _ s'
    refine wpAny_bind (wpAny_holding (add_text (T.keep fun o e => mv.heap D o hDw e) (by omega) fun h' l' b oth T' mem' len' => ?_))
    refine wpAny_pure ⟨plainId_quiet F.plain_set_update_loop _, ih (i + 1) _ l' (by omega) hlt (V.frame _ s' _ _ st' (Nat.le_succ _) fun c hc o e => oth c o (fun q => hD (q ▸ hc)) e) T' (fun x => ?_) (by omega) fun s2 l2 mv2 T2 mem2 => ?_⟩
    · rw [mem' x, mem x, List.take_add_one, hz]
      simp [List.mem_append]
    · exact fin s2 l2 (Moved.trans V.gtrans ((mv.mono mo).then_heap (Nat.le_succ _) fun c o hc e => oth c o (fun q => hc (q ▸ List.mem_cons_self)) e) mv2) T2 mem2
/-! ### set(..) of a list, a tuple -/
/-- what is walked, by its type T -/
structure Src (P : Program) (w : World) (T : String) (l : Addr) (items : Array Value) (o : Obj) : Prop where
  s1 : isSubtype (.type T) (.type "set") = pure false
  s2 : isSubtype (.type T) (.type "frozenset") = pure false
  nd : (Value.type T == Value.type "dict") = false
  cls : o.cls = .type T
  go : ∃ ob : Obj, (∀ (A : Around) (E : Value → Shared → Prop) (s : Shared) (Q : Value → Shared → Prop), s.heap.get? l = some o → Q (.ref s.heap.objs.size) { s with heap := s.heap.push ob } → wpAny (model P w) A (pyIter (.ref l)) Q E s) ∧ ob.isFreed = false ∧
    ∀ (A : Around) (I : Addr), A.handled = none → l ≠ I → ∃ St : Nat → Heap → Prop, Walks P w A I [I, l] [I] items.size (fun i v => items[i]? = some v) St ∧ ∀ h : Heap, h.get? I = some ob → h.get? l = some o → St 0 h
abbrev emSet (w : World) : Obj := { cls := .type "set", dict := none, data := .set #[] 0 (.fresh 0 0 (!w.params.followText "set-order")) }
set_option maxHeartbeats 4000000 in
theorem set_of {T : String} {l : Addr} {items : Array Value} {o : Obj} {xs : List Str} {Q : Value → Shared → Prop} (S : Src P w T l items o) (hh : A.handled = none) (ho : s.heap.get? l = some o) (hi : StrsAre items.toList xs) (hb : xs.length + 1 < scanBound)
    (fin : ∀ (h' : Heap) (tk : Nat) (m : List Str), TxS P w h' s.heap.objs.size m → (∀ x, x ∈ m ↔ x ∈ xs) → (∀ b u, s.heap.get? b = some u → h'.get? b = some u) → Q (.ref s.heap.objs.size) { s with heap := h', toks := tk }) :
    wpAny (model P w) A (call (.type "set") [.ref l]) Q E s := by
  have hsz : items.size = xs.length := by rw [← StrsAre.len_eq hi, Array.length_toList]
  obtain ⟨c, tl, hmro⟩ := F.called_set.mro
  have hmade := F.called_set.made
  have hsub := F.called_set.sub
  refine wpAny_call (codeAny_of_tree ?_)
  show wpAny _ _ (callAny (.type "set") _) _ _ _
  refine wpAny_pure ⟨Code.quiet_builtin _ (by decide +kernel), codeAny_builtin F.entry_type_call ?_⟩
  rw [Around.under_plain (weight_type_call_type "set" [.ref l] []) rfl]
  have h1 := F.called_set.notType
  have h2 := F.called_set.canCreate
  have hct := F.typeCall_set_1 (.ref l)
  repeat (any_goals (first | assumption | wp_step))
  refine codeAny_mono (L2.code_set_led1 (.ref l) (E := E) (Q₁ := fun ob st => ob = .ref s.heap.objs.size ∧ st = { s with heap := s.heap.push (emSet w) }) ⟨rfl, rfl⟩) fun r st hr => ?_
  cases r with
  | error e => exact hr
  | ok fl =>
    cases fl with
    | ret ob =>
      obtain ⟨rfl, rfl⟩ := hr
      have hS : (s.heap.push (emSet w)).get? s.heap.objs.size = some (emSet w) := Heap.get?_push_size _ rfl
      have hT : Shared.TypeIs { s with heap := s.heap.push (emSet w) } (.ref s.heap.objs.size) "set" := ⟨_, hS, rfl⟩
      have hli := F.called_set.init.lookup
      have hbi := F.called_set.init.bind (.ref s.heap.objs.size)
      repeat (any_goals (first | assumption | wp_step))
      refine codeAny_mono (codeAny_call_builtin (R := wants (fun r st => r = .none ∧ ∃ h' tk m, st = { s with heap := h', toks := tk } ∧ TxS P w h' s.heap.objs.size m ∧ (∀ x, x ∈ m ↔ x ∈ xs) ∧ (∀ b u, s.heap.get? b = some u → h'.get? b = some u)) E) F.called_set.init.plain F.entry_set_init (check_set_init_1 hT ?_)) fun r2 st2 hr2 => ?_
      · have hls : l < s.heap.objs.size := Heap.lt_size ho
        have ho1 : (s.heap.push (emSet w)).get? l = some o := Heap.get?_push_of_some _ ho
        have hTl : Shared.TypeIs { s with heap := s.heap.push (emSet w) } (.ref l) T := ⟨o, ho1, S.cls⟩
        have hsls := S.s1
        have hslf := S.s2
        have hne := S.nd
        obtain ⟨ob, iter, live, walk⟩ := S.go
        unfold Builtin.«set.__init__» noKeywords Builtin.Frozenset.updateFrom
        generalize hPI : pyIter = PI
        wp_walk
        subst hPI
        refine iter _ _ _ _ ho1 (wpAny_bind (wpAny_runValue ?_))
        have hz : (s.heap.push (emSet w)).objs.size = s.heap.objs.size + 1 := Heap.size_push ..
        have hlI : l ≠ (s.heap.push (emSet w)).objs.size := by rw [hz]; exact Nat.ne_of_lt (Nat.lt_succ_of_lt hls)
        obtain ⟨St, V, st0⟩ := walk A.in1.in1.in1 (s.heap.push (emSet w)).objs.size (by simp [hh]) hlI
        have hD : s.heap.objs.size ∉ [(s.heap.push (emSet w)).objs.size, l] := fun z => by
          rcases List.mem_cons.mp z with z | z
          · rw [hz] at z; exact absurd z (Nat.ne_of_lt (Nat.lt_succ_self _))
          · exact absurd (List.mem_singleton.mp z) (Nat.ne_of_gt hls)
        have val : ∀ (i : Nat) (v : Value), items[i]? = some v → ∃ x t, xs[i]? = some x ∧ v = .str x t := fun i v hv => by
          have hi2 : i < xs.length := by rw [← hsz]; exact (Array.getElem?_eq_some_iff.mp hv).1
          obtain ⟨t, e⟩ := SS.strs_at hi i v (by rw [Array.getElem?_toList]; exact hv)
          refine ⟨xs[i], t, List.getElem?_eq_getElem hi2, ?_⟩
          rw [e, List.getD_eq_getElem?_getD, List.getElem?_eq_getElem hi2]; rfl
        refine up_loop (A := A.in1.in1) V.toS s.heap.objs.size hD xs hsz hb val (items.size - 0) 0 _ [] (by omega) (Nat.zero_le _) (st0 _ (Heap.get?_push_size _ live) (Heap.get?_push_of_some _ ho1)) (TxS.fresh (Heap.get?_push_of_some _ hS)) (by simp) (Nat.le_refl _) fun s' l' mv T' mem => ?_
        obtain ⟨h', g', d', tk', os'⟩ := s'
        have eg : g' = s.gens := mv.gens
        have ed : d' = s.drawn := mv.drawn
        have eo : os' = s.os := mv.os
        subst eg; subst ed; subst eo
        show wpAny _ _ _ _ _ _
        refine wpAny_pure ?_
        show wpAny _ _ (ret Value.none) _ _ _
        refine wpAny_pure ⟨rfl, h', tk', l', rfl, T', mem, fun b u e => ?_⟩
        have hb0 : b < s.heap.objs.size := Heap.lt_size e
        refine mv.heap b u (fun z => ?_) (Heap.get?_push_of_some _ (Heap.get?_push_of_some _ e))
        rcases List.mem_cons.mp z with z | z
        · exact absurd z (Nat.ne_of_lt hb0)
        · have z := List.mem_singleton.mp z
          rw [hz] at z
          exact absurd z (Nat.ne_of_lt (Nat.lt_succ_of_lt hb0))
      · cases r2 with
        | error e => exact hr2
        | ok fl2 =>
          cases fl2 with
          | ret r =>
            obtain ⟨rfl, h', tk, m, rfl, q1, q2, q3⟩ := hr2
            repeat (any_goals (first | assumption | wp_step))
            exact fin _ _ _ q1 q2 q3
          | _ => exact hr2.elim
    | _ => exact hr.elim
end
end U

/-! U21: sorted(set(..)) of texts, as an expression. -/
namespace U
open PySem PySem.Spec PyProof.Rows
open PySem.Froz (SD sObj TxOk addTx tailTx)

theorem perm_of_sub {α : Type} [BEq α] [LawfulBEq α] : ∀ {l m : List α}, l.Nodup → (∀ x ∈ l, x ∈ m) → m.length ≤ l.length → m.Perm l
  | [], m, _, _, h => by rw [List.eq_nil_of_length_eq_zero (Nat.le_zero.mp h)]
  | a :: l, m, nd, sub, h => by
    have ha : a ∈ m := sub a List.mem_cons_self
    obtain ⟨n1, n2⟩ := List.nodup_cons.mp nd
    have p := List.perm_cons_erase ha
    refine p.trans (List.Perm.cons a (perm_of_sub n2 (fun x hx => ?_) ?_))
    · rcases List.mem_cons.mp (p.mem_iff.mp (sub x (List.mem_cons_of_mem _ hx))) with z | z
      · exact absurd (z ▸ hx) n1
      · exact z
    · have := p.length_eq
      rw [List.length_cons] at this
      rw [List.length_cons] at h
      omega
theorem sub_len {α : Type} [BEq α] [LawfulBEq α] : ∀ {l m : List α}, l.Nodup → (∀ x ∈ l, x ∈ m) → l.length ≤ m.length
  | [], _, _, _ => Nat.zero_le _
  | a :: l, m, nd, sub => by
    have ha : a ∈ m := sub a List.mem_cons_self
    obtain ⟨n1, n2⟩ := List.nodup_cons.mp nd
    have p := List.perm_cons_erase ha
    have := sub_len (l := l) (m := m.erase a) n2 fun x hx => by
      rcases List.mem_cons.mp (p.mem_iff.mp (sub x (List.mem_cons_of_mem _ hx))) with z | z
      · exact absurd (z ▸ hx) n1
      · exact z
    have e := p.length_eq
    rw [List.length_cons] at e ⊢
    omega
theorem perm_nd {α : Type} [BEq α] [LawfulBEq α] {l m : List α} (hm : m.Nodup) (hl : l.Nodup) (mem : ∀ x, x ∈ m ↔ x ∈ l) : m.Perm l :=
  perm_of_sub hl (fun x h => (mem x).mpr h) (sub_len hm fun x h => (mem x).mp h)
def strV : Value → Str
  | .str k _ => k
  | _ => Str.empty
theorem strs_of : ∀ (vs : List Value), (∀ v ∈ vs, ∃ k t, v = Value.str k t) → StrsAre vs (vs.map strV)
  | [], _ => .nil
  | v :: r, h => by
    obtain ⟨k, t, rfl⟩ := h v List.mem_cons_self
    exact .cons k t (strs_of r fun x hx => h x (List.mem_cons_of_mem _ hx))
section
variable {P : Program} {w : World} {A : Around} {E : Value → Shared → Prop} {s : Shared}
theorem isStr_of {k : Str} {v : Value} (h : (strKind P w).is k v = true) : ∃ t, v = .str k t := by
  cases v with
  | str x t =>
    have h : (x == k) = true := h
    exact ⟨t, by rw [eq_of_beq h]⟩
  | _ => cases h
theorem sorted_of {a : Addr} {l : List Str} {Q : Value → Shared → Prop} (R : TxS P w s.heap a l) (hh : A.handled = none) (h64 : l.length < 64)
    (fin : ∀ s' p (out : Array Value) (n : Nat) (ys : List Str), (∀ b o, s.heap.get? b = some o → s'.heap.get? b = some o) → s'.gens = s.gens → s'.os = s.os → s.heap.objs.size ≤ p → s'.heap.get? p = some (seqObj "list" out n) → StrsAre out.toList ys → ys.Perm l → sortedS ys = true → Q (.ref p) s') :
    wpAny (model P w) A (call (.builtin "sorted") [.ref a]) Q E s := by
  obtain ⟨⟨es, ep, t⟩, ho, ok, ris, led⟩ := R.at_
  have fit : t.fits es.size = true := ok.fit
  have esz : es.size = l.length := ok.sz
  have el : ElemsOf (strKind P w) es.toList := ok.el
  refine Calls.call_function_entry kind_sorted plain_sorted entry_sorted (args_sorted1 _) ?_
  unfold Builtin.«sorted»
  refine wpAny_bind (m := checkCount "sorted" 1 1 _) (wpAny_pure ?_)
  refine wpAny_bind (L2.collect_set (A := A.in1) hh ⟨_, ho, rfl, rfl⟩ fit (by rw [esz]; unfold scanBound; omega) ris led fun s1 vs k1 hz g1 o1 pm => ?_)
  have shape : ∀ v ∈ vs, ∃ k t, v = Value.str k t := fun v hv => by
    obtain ⟨e, he, q⟩ := List.mem_map.mp (pm.mem_iff.mp hv)
    obtain ⟨⟨k, h1, _⟩, _⟩ := el e he
    obtain ⟨t, h2⟩ := isStr_of h1
    exact ⟨k, t, by rw [← q]; exact h2⟩
  have hS := strs_of vs shape
  have len : vs.length = l.length := by rw [pm.length_eq, List.length_map, Array.length_toList]; exact esz
  have pl : (vs.map strV).Perm l := perm_of_sub R.nd (fun x hx => by
    obtain ⟨e, he, hi⟩ := (ok.mem x).mp hx
    obtain ⟨t, h2⟩ := isStr_of hi
    exact List.mem_map.mpr ⟨e.2, pm.mem_iff.mpr (List.mem_map.mpr ⟨e, he, rfl⟩), by rw [h2]; rfl⟩) (by rw [List.length_map, len]; exact Nat.le_refl _)
  have line : vs.length ≤ sizeLine := by rw [len, sizeLine_eq]; omega
  refine wpAny_bind (wpAny_newList ?_ line)
  have hoL : (s1.heap.push (seqObj "list" vs.toArray 0)).get? s1.heap.objs.size = some (seqObj "list" vs.toArray 0) := Heap.get?_push_size _ rfl
  refine wpAny_bind (wpAny_holding (wpAny_call_entry slot_list_sort ⟨_, hoL, rfl⟩ entry_list_sort (list_sort_treeKAny strKind_oneLt hoL hS.keysOf (fun v₁ v₂ rest e => keyKind_strs (by rw [← e]; exact hS)) line fun st' hp hs => ⟨_, rfl, ?_⟩) (args_list_sort _)))
  obtain ⟨ys, y1, y2, y3⟩ := sorted_out_str hS hp hs
  obtain ⟨n, hn⟩ := sortedHeap_at (vs := vs) (out := (arrOf st').map (·.2)) hoL
  refine wpAny_pure ⟨_, rfl, fin _ s1.heap.objs.size _ n ys (fun b u e => ?_) g1 o1 hz hn y1 (y2.trans pl) y3⟩
  have q := k1 b u e
  have hlt := Heap.lt_size q
  show (sortedHeap (s1.heap.push (seqObj "list" vs.toArray 0)) s1.heap.objs.size vs _).get? b = some u
  rw [sortedHeap_old (Nat.ne_of_lt hlt) (by rw [Heap.size_push]; exact Nat.lt_succ_of_lt hlt)]
  exact Heap.get?_push_of_some _ q
/-! ### lists, tuples are walked -/
theorem src_list {l : Addr} {items : Array Value} {o : Obj} (hl : ∃ (d : Option Addr) (n : Nat) (sl : Array (Option Value)), o = { cls := .type "list", dict := d, data := .seq items n, slots := sl }) : Src P w "list" l items o := by
  obtain ⟨d, n, sl, rfl⟩ := hl
  have isL : ∀ h : Heap, h.get? l = some { cls := .type "list", dict := d, data := .seq items n, slots := sl } → h.IsList l items := fun h e => ⟨_, e, rfl, n, rfl⟩
  refine ⟨PySem.F.sub_list_set, PySem.F.sub_list_frozenset, by decide, rfl, _, fun A E s Q e q => wpAny_pyIter_list (isL _ e) q, rfl, fun A I hh hne => ⟨_, Walks.list hh I l hne items, fun h e1 e2 => ⟨⟨_, e1, rfl, rfl⟩, isL h e2⟩⟩⟩
theorem src_tup {l : Addr} {items : Array Value} {o : Obj} (hl : ∃ (d : Option Addr) (n : Nat) (sl : Array (Option Value)), o = { cls := .type "tuple", dict := d, data := .seq items n, slots := sl }) : Src P w "tuple" l items o := by
  obtain ⟨d, n, sl, rfl⟩ := hl
  have isT : ∀ h : Heap, h.get? l = some { cls := .type "tuple", dict := d, data := .seq items n, slots := sl } → h.IsTuple l items := fun h e => ⟨_, e, rfl, n, rfl⟩
  refine ⟨PySem.F.sub_tuple_set, PySem.F.sub_tuple_frozenset, by decide, rfl, _, fun A E s Q e q => wpAny_pyIter_tuple (isT _ e) q, rfl, fun A I hh hne => ⟨_, Walks.tuple hh I l hne items, fun h e1 e2 => ⟨⟨_, e1, rfl, rfl⟩, isT h e2⟩⟩⟩
end
/-! ### the expression -/
def dedS : List (List Nat) → List (List Nat)
  | [] => []
  | y :: r => if y ∈ dedS r then dedS r else y :: dedS r
theorem dedS_mem (x : List Nat) : ∀ ys, x ∈ dedS ys ↔ x ∈ ys
  | [] => Iff.rfl
  | y :: r => by
    unfold dedS
    have ih := dedS_mem x r
    split
    · rename_i h
      rw [ih, List.mem_cons]
      exact ⟨.inr, fun z => z.elim (fun e => by rw [e]; exact (dedS_mem y r).mp h) id⟩
    · rw [List.mem_cons, List.mem_cons, ih]
theorem dedS_nd : ∀ ys, (dedS ys).Nodup
  | [] => List.nodup_nil
  | y :: r => by
    unfold dedS
    split
    · exact dedS_nd r
    · rename_i h
      exact List.nodup_cons.mpr ⟨h, dedS_nd r⟩
def sortedSetD (d : D) : M D := fun s => match strsOf s d with
  | some ys => if ys.length < 64 then .ok (.lst ((sortS (dedS ys)).map .str)) s else .bad
  | none => .bad
section
variable {X : L2.Cx} {c : Cy} {pos : Pos}
theorem sortedSet_eq {ys : List (List Nat)} {m out : List Str} (hm : ∀ x, x ∈ m ↔ x ∈ ys.map stS) (nd : m.Nodup) (p : out.Perm m) (hs : sortedS out = true) : out = (sortS (dedS ys)).map stS := by
  have p1 : (m.map fun s => s.cps.toList).Perm (dedS ys) := by
    have nd2 : (m.map fun s => s.cps.toList).Nodup := by
      refine List.pairwise_map.mpr (nd.imp fun {a b} hab e => hab ?_)
      have e1 : stS a.cps.toList = stS b.cps.toList := by rw [e]
      have : stS (stD a) = stS (stD b) := e1
      rwa [stS_D, stS_D] at this
    have mem : ∀ x, x ∈ (m.map fun s => s.cps.toList) ↔ x ∈ dedS ys := fun x => by
      rw [dedS_mem, List.mem_map]
      constructor
      · rintro ⟨a, ha, rfl⟩
        obtain ⟨y, hy, e⟩ := List.mem_map.mp ((hm a).mp ha)
        rw [← e]; exact hy
      · intro hx
        exact ⟨stS x, (hm _).mpr (List.mem_map.mpr ⟨x, hx, rfl⟩), rfl⟩
    exact perm_nd nd2 (dedS_nd ys) mem
  have p2 : (out.map fun s => s.cps.toList).Perm (dedS ys) := (p.map _).trans p1
  rw [strs_back (l := out), sortS_only p2 (List.pairwise_map.mpr (sortedS_pw hs))]
theorem vals_strs {ys : List Str} {us : List Value} (r : L2.Vals (ys.map L2.V.str) us) : StrsAre us ys := r.strs
theorem e_sortedSet {a : Expr} {m : M D} {p p2 q : Pos} (hT : c.T.K = X.K) (hc : X.calm = true) (hg : L2.Gl X "sorted") (hm : X.mg "sorted" = none) (hg2 : L2.Gl X "set") (hm2 : X.mg "set" = none) (hs : notStar a = true) (ha : L2.PE X a (tG c rpD m)) :
    L2.PE X (.Call (.Name "sorted" p) [.Call (.Name "set" p2) [a] [] q] [] pos) (tG c rpD (mBind m sortedSetD)) := by
  refine ⟨fun pins s0 σ H Q I h => ?_⟩
  have na : starEach [a] X.env = (false, eval a X.env) :: starEach [] X.env := starEach_cons hs _ _
  refine Call_ (L2.ld_blt I hg hm (by rfl) ?_)
  refine PyProof.Rows.callWith_builtin1 (PyProof.Rows.args_cons ?_ rfl) rfl rfl
  refine Call_ (L2.ld_blt I hg2 hm2 PyProof.Rows.boot_set ?_)
  refine PyProof.Rows.callWith_type1 (PyProof.Rows.args_cons (L2.thn (ha.run pins s0 σ H _ I (tG_bind h)) fun v s1 ⟨x, H1, I1, r1, F, ρ, s, d, q1, z1, hh⟩ => PyProof.Rows.args_nil ?_) na) na rfl
  unfold sortedSetD at hh
  split at hh
  · rename_i ys e
    split at hh
    · rename_i g
      have fin : ∀ {l : Addr} {T : String} {items : Array Value} {o : Obj}, Src X.prog X.w T l items o → s1.heap.get? l = some o → StrsAre items.toList (ys.map stS) →
          wpAny (model X.prog X.w) X.A (call (.type "set") [.ref l]) (fun v s₂ => wpAny (model X.prog X.w) X.A (spliced (backTo pos (starEach [] X.env))) (fun vs s₃ => wpAny (model X.prog X.w) X.A (call (.builtin "sorted") (v :: vs)) (L2.EP X pins σ Q) X.xe s₃) X.xe s₂) X.xe s1 := fun {l T items o} S ho hi => by
        refine set_of S (I1.ok.hd hc) ho hi (by rw [List.length_map]; unfold scanBound; omega) fun h' tk ms R mem kp => PyProof.Rows.args_nil ?_
        have len : ms.length ≤ ys.length := by
          have := sub_len R.nd fun x hx => (mem x).mp hx
          rwa [List.length_map] at this
        refine sorted_of R (I1.ok.hd hc) (by omega) fun s' pa out n zs k2 g2 o2 hp hob hst pm so => ?_
        have e2 : zs = (sortS (dedS ys)).map stS := sortedSet_eq mem R.nd pm so
        have k3 : ∀ b u, s1.heap.get? b = some u → s'.heap.get? b = some u := fun b u z => k2 b u (kp b u z)
        have hp2 : s1.heap.objs.size ≤ pa := by
          obtain ⟨Z, ez, _⟩ := R.at_
          exact Nat.le_trans (Nat.le_of_lt (Heap.lt_size ez)) hp
        have hn : H1 pa = none := I1.hok.fresh hp2
        have lz : (zs.map L2.V.str).length ≤ sizeLine := by
          rw [List.length_map, pm.length_eq, sizeLine_eq]; omega
        have J : L2.Inv X pins σ (L2.upd H1 pa (.lst (zs.map L2.V.str))) { s1 with heap := s'.heap, gens := s'.gens, drawn := s'.drawn, toks := s'.toks } :=
          I1.call (ch := []) (L2.Un.laid k3 hp2 hn) (I1.hok.laid k3 hp2 ⟨lz, out.toList, n, L2.vals_of_strs hst, hob⟩) (by rw [g2]; exact I1.bare) (fun _ z => nomatch z)
        have e3 : s' = { s1 with heap := s'.heap, gens := s'.gens, drawn := s'.drawn, toks := s'.toks } := by
          cases s'; cases s1; cases o2; rfl
        rw [e3]
        refine ⟨.ref pa, _, J, rfl, ?_⟩
        rw [e2]
        exact Run.newL hh q1 RepL.strs hn
      unfold strsOf at e
      split at e
      · obtain ⟨l, vs, rfl, h1, r2⟩ := q1.asT z1
        rw [asStrs_ok e] at r2
        rw [r2.ofStrs, hT] at h1
        obtain ⟨its, rv, hl, _⟩ := I1.tuple h1
        cases r1
        obtain ⟨ol, hol, hcl, nl, hdl⟩ := hl
        obtain ⟨oc, od, odt, osl⟩ := ol
        cases hcl; cases hdl
        exact fin (src_tup ⟨_, _, _, rfl⟩) hol (by simpa using rv.strs)
      · obtain ⟨zs, e1, e2⟩ := Option.bind_eq_some_iff.mp e
        obtain ⟨l, vs, rfl, h1, r2⟩ := q1.asL z1 e1
        rw [asStrs_ok e2] at r2
        rw [r2.ofStrs] at h1
        obtain ⟨its, rv, hl, _⟩ := I1.list (L2.SqL.of h1)
        cases r1
        obtain ⟨ol, hol, hcl, nl, hdl⟩ := hl.isList
        obtain ⟨oc, od, odt, osl⟩ := ol
        cases hcl; cases hdl
        exact fin (src_list ⟨_, _, _, rfl⟩) hol (by simpa using rv.strs)
    · exact hh.elim
  · exact hh.elim
end
end U

/-! U21b: starred items of displays. -/
namespace U
open PySem PySem.Spec PyProof.Rows
def starD : D → M (List D)
  | .lst xs => mPure xs
  | .tup xs => mPure xs
  | _ => mBad
def mCat : List (M (List D)) → M (List D)
  | [] => mPure []
  | m :: r => mBind m fun xs => mBind (mCat r) fun ys => mPure (xs ++ ys)
theorem mCat_cons (m : M (List D)) (r : List (M (List D))) : mCat (m :: r) = mBind m fun xs => mBind (mCat r) fun ys => mPure (xs ++ ys) := rfl
def mOne (m : M D) : M (List D) := mBind m fun d => mPure [d]
/-- an item of a display -/
def mArg (f : Expr → M D) : Expr → M (List D)
  | .Starred e _ => mBind (f e) starD
  | e => mOne (f e)
/-- an item that is passed, by its own expression -/
def unStar : Expr → Expr
  | .Starred e _ => e
  | e => e
section
variable {X : L2.Cx} {c : Cy}
theorem e_argsS {f : Expr → M D} (hT : c.T.K = X.K) : ∀ {es : List Expr}, (∀ e ∈ es, L2.PE X (unStar e) (tG c rpD (f (unStar e)))) → L2.PA X es (tG c rpL (mCat (es.map (mArg f))))
  | [], _ => pa_imp L2.pa_nil fun σ H Q ⟨F, ρ, s, q, h⟩ => Run.done h q RepL.nil
  | e :: r, h => by
    have ih := e_argsS hT (f := f) (es := r) fun e' he => h e' (List.mem_cons_of_mem _ he)
    have h1 := h e List.mem_cons_self
    by_cases hs : notStar e = true
    · have eu : unStar e = e := by cases e <;> first | rfl | cases hs
      have em : mArg f e = mOne (f e) := by cases e <;> first | rfl | cases hs
      rw [eu] at h1
      refine pa_imp (L2.pa_cons h1 ih (starEach_cons hs _ _)) fun σ H Q hq => ?_
      rw [List.map_cons, em] at hq
      have hq' : tG c rpL (mBind (f e) fun d => mBind (mCat (r.map (mArg f))) fun ys => mPure (d :: ys)) σ H Q := by
        obtain ⟨F, ρ, s, q, z⟩ := hq
        refine ⟨F, ρ, s, q, ?_⟩
        have e1 : mCat (mOne (f e) :: r.map (mArg f)) s = (mBind (f e) fun d => mBind (mCat (r.map (mArg f))) fun ys => mPure (d :: ys)) s := by
          rw [mCat_cons]
          unfold mOne mBind
          cases f e s <;> rfl
        rw [← e1]; exact z
      refine tG_imp2 (tG_bind2 rpD_mono hq') fun x xs H2 ⟨F, ρ, s, d, ds, q, z1, z2, hh⟩ => ?_
      exact Run.done hh q (RepL.cons z1 z2)
    · cases e with
      | Starred e p =>
        refine pa_imp (StX.pa_star h1 ih) fun σ H Q hq => ?_
        rw [List.map_cons] at hq
        have hq' : tG c rpL (mBind (f e) fun d => mBind (starD d) fun xs => mBind (mCat (r.map (mArg f))) fun ys => mPure (xs ++ ys)) σ H Q := by
          obtain ⟨F, ρ, s, q, z⟩ := hq
          refine ⟨F, ρ, s, q, ?_⟩
          have e1 : mCat (mArg f (.Starred e p) :: r.map (mArg f)) s = (mBind (f e) fun d => mBind (starD d) fun xs => mBind (mCat (r.map (mArg f))) fun ys => mPure (xs ++ ys)) s := by
            rw [mCat_cons]
            show mBind (mBind (f e) starD) _ s = _
            unfold mBind
            cases f e s <;> rfl
          rw [← e1]; exact z
        refine tG_imp (tG_bind hq') fun v H1 ⟨F1, ρ1, s1, d, q, z, hh⟩ => ?_
        have go : ∀ xs : List D, starD d = mPure xs → ∀ {a : Addr} {vs : List L2.V}, RepL c.T F1 ρ1 vs xs → tG c rpL (mCat (r.map (mArg f))) σ H1 fun ys H2 => Q (vs ++ ys) H2 := fun xs hx a vs rv => by
          rw [hx] at hh
          have hh' : Run c rpL F1 ρ1 (mBind (mCat (r.map (mArg f))) (fun ys => mPure (xs ++ ys)) s1) σ Q := hh
          refine ⟨F1, ρ1, s1, q, Run.imp (Run.bind hh') fun ys H2 ⟨F2, ρ2, s2, ds, l2, p2, q2, z2, h2⟩ => ?_⟩
          exact Run.done h2 q2 ((rv.mono l2 p2).append z2)
        cases z with
        | @lst a vs xs h2 h3 => exact ⟨a, vs, rfl, .inr (L2.SqL.of (q.hr.sub _ _ h2)), go xs rfl (a := a) h3⟩
        | @tup a vs xs h2 h3 =>
          rw [hT] at h2
          exact ⟨a, vs, rfl, .inl ((Le.tupAt q.hr.sub h2).sq), go xs rfl (a := a) h3⟩
        | _ => exact hh.elim
      | _ => exact absurd rfl hs
end
end U

/-! U16: the evaluator of expressions. -/
namespace U
open PySem PySem.Spec PyProof.Rows

structure Sc where
  N : List Str
  sc : Scope
  top : Bool
def Sc.kd (δ : Sc) (x : Str) : Option NameKind := δ.sc.names.lookup x
def Sc.ix (δ : Sc) (x : Str) : Option Nat := δ.N.findIdx? (· == x)
/-- a name that is read from a slot -/
def Sc.rd (δ : Sc) (x : Str) : Option Nat := match δ.kd x with
  | some .local => if x == "__debug__" || x == "__classdict__" then none else δ.ix x
  | some .cell => if x == "__debug__" || x == "__classdict__" then none else δ.ix x
  | some .free => if x == "__debug__" || x == "__classdict__" then none else δ.ix x
  | _ => none
/-- .. that is written -/
def Sc.wr (δ : Sc) (x : Str) : Option Nat := match δ.kd x with
  | some .local => δ.ix x
  | some .cell => if δ.top then δ.ix x else none
  | _ => none
def Sc.gl (δ : Sc) (x : Str) : Bool := δ.kd x == some .globalImplicit && !(x == "__debug__")
def Sc.inner (δ : Sc) (scope : Scope) : Sc := ⟨δ.N, L2.relS scope δ.sc, false⟩

/-! ### targets -/
def wrs (δ : Sc) : List Expr → Option (List Nat)
  | [] => some []
  | .Name x _ :: r => match δ.wr x, wrs δ r with
    | some i, some is => some (i :: is)
    | _, _ => none
  | _ :: _ => none
def tgD (δ : Sc) : Expr → Option (List Nat × (D → M Unit))
  | .Name x _ => (δ.wr x).map fun i => ([i], setSlot i)
  | .Tuple es _ _ => (wrs δ es).map fun is => (is, asgT (.tp is))
  | _ => none
def isTup : Expr → Bool
  | .Tuple _ _ _ => true
  | _ => false

/-! ### blocks -/
def ownOf (N : List Str) (scope : Scope) : List (Str × Nat) := scope.names.filterMap fun y => if y.2 == .local || y.2 == .cell then (N.findIdx? (· == y.1)).map fun i => (y.1, i) else none
def blkB (δ : Sc) (scope : Scope) : Bool := scope.kind == .function && (scope.names.all fun y => scope.names.lookup y.1 == some y.2) &&
  scope.names.all fun y => !(y.2 == .free) || (δ.kd y.1 == some .cell || δ.kd y.1 == some .free)

/-! ### expressions -/
structure Ev where
  E : Sc → Expr → M D
  T : Sc → Expr → M Bool
  I : Sc → Bool → Expr → M (List D)
def litD : Const → M D
  | .none => mPure .non
  | .bool b => mPure (.bl b)
  | .int i => mPure (.int i)
  | .str x => mPure (.str (stD x))
  | _ => mBad
def bltB : List (Str × (List D → M D)) := [("len", lenD), ("sum", sumD), ("sorted", sortedD), ("min", minD), ("max", maxD), ("all", onBls fun bs => bs.all id), ("any", onBls fun bs => bs.any id), ("isinstance", isiD)]
def bltT : List (Str × (List D → M D)) := [("list", listD), ("tuple", tupleD), ("int", intD), ("bool", boolD), ("str", strD)]
def strMs : List (Str × (D → List D → M D)) := [("join", joinD), ("split", splitD)]
def lstMs : List (Str × (D → List D → M D)) := [("index", indexD)]
def muOf : List (Str × Mu) := [("append", .append), ("insert", .insert), ("extend", .extend), ("clear", .clear), ("pop", .pop)]
section
variable (G : Pg) (calls : Calls) (v : Ev)
def ifsD (δ : Sc) : List Expr → Option (M Bool)
  | [] => some (mPure true)
  | [c] => some (v.T δ c)
  | _ => none
/-- a list that is made -/
def frE (δ : Sc) : Expr → Option (M (List D))
  | .List es _ => if es.all notStar then some (mBind (mSeq (es.map (v.E δ))) mChk) else some (mBind (mCat (es.map (mArg (v.E δ)))) mChk)
  | .ListComp elt [⟨tg, iter, ifs, 0⟩] scope _ =>
    if blkB δ scope && notSetD iter then
      match tgD (δ.inner scope) tg, ifsD v (δ.inner scope) ifs with
      | some (js, g), some mt => if js.all fun j => ((ownOf δ.N scope).map (·.2)).contains j then some (lcM ((ownOf δ.N scope).map (·.2)) (v.I δ (isTup tg) iter) g mt (v.E (δ.inner scope) elt)) else none
      | _, _ => none
    else none
  | _ => none
def exPos : Expr → Pos
  | .List _ p => p
  | .ListComp _ _ _ p => p
  | _ => ⟨0, 0, 0, 0⟩
def mkE (δ : Sc) (e : Expr) : M D := match frE v δ e with
  | some m => if G.cells.contains (exPos e) then mCell m else mL m
  | none => mBad
def callE (δ : Sc) (x : Str) (es : List Expr) (kws : List Keyword) : M D :=
  if δ.gl x && es.all notStar then
    match G.glo.lookup x with
    | some (.fn i) => (match G.fns[i]?, G.shp.find? (fun sh => sh.fn == i && sh.n == es.length && sh.ks == kws.filterMap (·.arg)) with
      | some fi, some sh => if kws.all (·.arg.isSome) && sh.perm.length == fi.ps.length then mBind (mSeq (es.map (v.E δ))) fun as => mBind (mSeq (kws.map fun kw => v.E δ kw.value)) fun ks => callD calls i fi.dfl sh as ks else mBad
      | _, _ => mBad)
    | some (.cls C) => (match G.cls[C]? with
      | some ci => if kws.all (·.arg.isSome) && ((ci.ini.bind fun i => G.fns[i]?).isSome) then mBind (mSeq (es.map (v.E δ))) fun as => mBind (mSeq (kws.map fun kw => v.E δ kw.value)) fun ks => mkO G calls C es.length (kws.filterMap (·.arg)) as ks else mBad
      | none => mBad)
    | some _ => mBad
    | none => if G.bl.contains x && kws.isEmpty && !es.isEmpty then
        (match bltB.lookup x with
        | some g => mBind (mSeq (es.map (v.E δ))) g
        | none => (match bltT.lookup x with
          | some g => mBind (mSeq (es.map (v.E δ))) g
          | none => mBad)) else mBad
  else mBad
def methE (δ : Sc) (o : Expr) (name : Str) (es : List Expr) (ok : Bool) : M D :=
  if ok && es.all notStar && decide (es.length < 30) then
    match muOf.lookup name, o with
    | some m, .Name x _ => (match δ.rd x with
      | some i => muV m i (mSeq (es.map (v.E δ)))
      | none => mBad)
    | _, _ => if plainBase o && !es.isEmpty then
        (match strMs.lookup name with
        | some g => mMth "str" (v.E δ o) (mSeq (es.map (v.E δ))) g
        | none => (match lstMs.lookup name with
          | some g => mMth "list" (v.E δ o) (mSeq (es.map (v.E δ))) g
          | none => mBad)) else mBad
  else mBad
/-- a name of a method of a class -/
def objM (G : Pg) (m : Str) : Bool := G.cls.any fun ci => (ci.mth.lookup m).isSome
def methOE (δ : Sc) (o : Expr) (m : Str) (es : List Expr) (kws : List Keyword) (ok : Bool) : M D :=
  if ok && plainBase o && es.all notStar && kws.all (·.arg.isSome) && decide (es.length + kws.length + 1 < 30) then
    mBind (v.E δ o) fun d => methO G calls m es.length (kws.filterMap (·.arg)) d (mSeq (es.map (v.E δ))) (mSeq (kws.map fun kw => v.E δ kw.value))
  else mBad
def optE (δ : Sc) : Option Expr → M (Option Int)
  | none => mPure none
  | some e => mBind (v.E δ e) asI
def subE (δ : Sc) (a b : Expr) : M D := match b with
  | .Slice lo hi none _ => mBind (v.E δ a) fun x => mBind (optE v δ lo) fun l => mBind (optE v δ hi) fun h => slcD x l h
  | b => if notSlice b then (match a with
    | .Name x _ => (match δ.rd x with
      | some i => mBind (peek i) fun _ => mBind (v.E δ b) fun y => mBind (peek i) fun x => idxD x y
      | none => mBind (v.E δ a) fun x => mBind (v.E δ b) (idxD x))
    | a => mBind (v.E δ a) fun x => mBind (v.E δ b) (idxD x)) else mBad
def nameE (δ : Sc) (x : Str) : M D := match δ.rd x with
  | some i => getVar i
  | none => if δ.gl x then (match G.glo.lookup x with
    | some (.con d) => mPure d
    | _ => (match G.glo.lookup x, G.bl.contains x, tyNamesB.lookup x with
      | none, true, some n => mPure (.ty n)
      | _, _, _ => mBad)) else mBad
  where tyNamesB : List (Str × String) := [("int", "int"), ("bool", "bool"), ("str", "str"), ("list", "list"), ("tuple", "tuple")]
def stepE (δ : Sc) : Expr → M D
  | .Constant c _ _ => litD c
  | .Name x _ => nameE G δ x
  | .BinOp a op b _ => mBind (v.E δ a) fun x => mBind (v.E δ b) (binD op x)
  | .UnaryOp .Not a _ => mTru (v.E δ a) fun _ k => mPure (.bl (!k))
  | .UnaryOp .USub a _ => mBind (v.E δ a) (unD .USub)
  | .UnaryOp .Invert a _ => mBind (v.E δ a) (unD .Invert)
  | .BoolOp .And es _ => mAndV (es.map (v.E δ))
  | .BoolOp .Or es _ => mOrV (es.map (v.E δ))
  | .Compare a [op] [b] _ => if notSet b then mBind (v.E δ a) fun x => mBind (v.E δ b) (cmpD op x) else mBad
  | .Compare a [op, op'] [b, d] _ => if notSet b && notSet d then mChain (v.E δ a) (v.E δ b) (v.E δ d) (cmpD op) (cmpD op') else mBad
  | .IfExp t a b _ => mIte (v.T δ t) (v.E δ a) (v.E δ b)
  | .Call (.Name x _) [.Call (.Name y p2) [a] [] q] [] _ => if x == "sorted" && y == "set" && δ.gl x && δ.gl y && G.bl.contains x && G.bl.contains y && notStar a then mBind (v.E δ a) sortedSetD else callE G calls v δ x [.Call (.Name y p2) [a] [] q] []
  | .Call (.Name x _) es kws _ => callE G calls v δ x es kws
  | .Call (.Attribute o name apos) es kws cpos => if objM G name then methOE G calls v δ o name es kws (apos.endLine == cpos.line) else if kws.isEmpty then methE v δ o name es (apos.endLine == cpos.line) else mBad
  | .Attribute o f _ => if plainBase o then mBind (v.E δ o) (attrD G calls f) else mBad
  | .Subscript a b _ => subE v δ a b
  | .Tuple es _ _ => if es.all notStar then mBind (mSeq (es.map (v.E δ))) mTup else mBad
  | .List es p => mkE G v δ (.List es p)
  | .ListComp elt gs scope p => mkE G v δ (.ListComp elt gs scope p)
  | _ => mBad
def stepT (δ : Sc) : Expr → M Bool
  | .UnaryOp .Not a _ => mNot (v.T δ a)
  | .BoolOp .And es _ => mAndT (es.map (v.T δ))
  | .BoolOp .Or es _ => mOrT (es.map (v.T δ))
  | .IfExp t a b _ => mIte (v.T δ t) (v.T δ a) (v.T δ b)
  | .Compare a [op] [b] _ => if notSet b then mBind (v.E δ a) fun x => mBind (v.E δ b) fun y => mBind (cmpD op x y) asB else mBad
  | .Compare a [op, op'] [b, d] _ => if notSet b && notSet d then mChainT (v.E δ a) (v.E δ b) (v.E δ d) (cmpD op) (cmpD op') else mBad
  | e => if plainT e then mBind (v.E δ e) truD else mBad
def stepI (δ : Sc) (tup : Bool) (e : Expr) : M (List D) := match e with
  | .Call (.Name x _) es [] _ => if δ.gl x && G.bl.contains x && es.all notStar then
      (if x == "range" then (match es with
        | [_] => mBind (mSeq (es.map (v.E δ))) range1D
        | [_, _] => mBind (mSeq (es.map (v.E δ))) range2D
        | _ => mBad)
      else if x == "enumerate" && tup then (match es with
        | [_] => mBind (mSeq (es.map (v.E δ))) enumD
        | _ => mBad)
      else if x == "zip" && tup then (match es with
        | [_, _] => mBind (mSeq (es.map (v.E δ))) zipD
        | _ => mBad)
      else mBind (v.E δ e) itemsD) else mBind (v.E δ e) itemsD
  | e => mBind (v.E δ e) itemsD
end
def evN (G : Pg) (calls : Calls) : Nat → Ev
  | 0 => ⟨fun _ _ => mBad, fun _ _ => mBad, fun _ _ _ => mBad⟩
  | n + 1 => ⟨stepE G calls (evN G calls n), stepT (evN G calls n), stepI G (evN G calls n)⟩
end U

/-! U17: the evaluator of expressions is right. -/
namespace U
open PySem PySem.Spec PyProof.Rows

/-- the names agree -/
structure Sa (X : L2.Cx) (δ : Sc) : Prop where
  N : X.N = δ.N
  sc : X.env.scope = δ.sc
  top : δ.top = true → ∀ x, X.fn x = true
structure EvOk (G : Pg) (Z : Wd) (k : Nat) (v : Ev) : Prop where
  E : ∀ {X : L2.Cx} {c : Cy} {δ : Sc} (e : Expr), At X c Z k → Sa X δ → L2.PE X e (tG c rpD (v.E δ e))
  T : ∀ {X : L2.Cx} {c : Cy} {δ : Sc} (e : Expr), At X c Z k → Sa X δ → L2.PT X e (tG c rpB (v.T δ e))
  I : ∀ {X : L2.Cx} {c : Cy} {δ : Sc} (tg e : Expr), At X c Z k → Sa X δ → L2.PI X tg e (tG c rpI (v.I δ (isTup tg) e))
theorem t_bad {X : L2.Cx} {c : Cy} {e : Expr} : L2.PT X e (tG c rpB mBad) := ⟨fun _ _ _ _ _ _ h => by obtain ⟨_, _, _, _, r⟩ := h; exact r.elim⟩
theorem i_bad {X : L2.Cx} {c : Cy} {tg e : Expr} : L2.PI X tg e (tG c rpI mBad) := ⟨fun _ _ _ _ _ _ h => by obtain ⟨_, _, _, _, r⟩ := h; exact r.elim⟩
section
variable {X : L2.Cx} {c : Cy} {Z : Wd} {G : Pg} {k : Nat} {calls : Calls} {δ : Sc} {v : Ev}
theorem ix_at {x : Str} {i : Nat} (s : Sa X δ) (h : δ.ix x = some i) : X.N[i]? = some x := by
  unfold Sc.ix at h
  rw [List.findIdx?_eq_some_iff_getElem] at h
  obtain ⟨hi, h1, _⟩ := h
  rw [s.N, List.getElem?_eq_getElem hi]
  exact congrArg some (eq_of_beq h1)
theorem kd_eq (s : Sa X δ) (x : Str) : X.env.scope.names.lookup x = δ.kd x := by unfold Sc.kd; rw [s.sc]
theorem or_false2 {a b : Bool} (h : ¬ (a || b) = true) : a = false ∧ b = false := by cases a <;> cases b <;> simp_all
theorem rd_ok {x : Str} {i : Nat} (s : Sa X δ) (h : δ.rd x = some i) : X.N[i]? = some x ∧ L2.Vis X.env.scope x ∧ (x == ("__debug__" : Str)) = false ∧ (x == ("__classdict__" : Str)) = false := by
  unfold Sc.rd at h
  split at h
  · rename_i e
    split at h
    · cases h
    · rename_i g
      exact ⟨ix_at s h, .inl (by rw [kd_eq s]; exact e), or_false2 g⟩
  · rename_i e
    split at h
    · cases h
    · rename_i g
      exact ⟨ix_at s h, .inr (.inl (by rw [kd_eq s]; exact e)), or_false2 g⟩
  · rename_i e
    split at h
    · cases h
    · rename_i g
      exact ⟨ix_at s h, .inr (.inr (by rw [kd_eq s]; exact e)), or_false2 g⟩
  · cases h
theorem wr_ok {x : Str} {i : Nat} (nd : X.N.Nodup) (s : Sa X δ) (h : δ.wr x = some i) : NmOk X x i := by
  unfold Sc.wr at h
  split at h
  · rename_i e
    exact ⟨nd, ix_at s h, .inl (by rw [kd_eq s]; exact e), .inr (by rw [kd_eq s]; exact e)⟩
  · rename_i e
    split at h
    · rename_i g
      exact ⟨nd, ix_at s h, .inr (by rw [kd_eq s]; exact e), .inl (s.top g x)⟩
    · cases h
  · cases h
theorem gl_ok {x : Str} (s : Sa X δ) (h : δ.gl x = true) : L2.Gl X x ∧ (x == ("__debug__" : Str)) = false := by
  unfold Sc.gl at h
  rw [Bool.and_eq_true] at h
  refine ⟨?_, by simpa using h.2⟩
  show X.env.scope.names.lookup x = _
  rw [kd_eq s]
  exact eq_of_beq h.1
theorem wrs_ok (nd : X.N.Nodup) (s : Sa X δ) : ∀ {es : List Expr} {is : List Nat}, wrs δ es = some is → (∀ (e : Expr), e ∈ es → ∃ x p, e = .Name x p) ∧ es.length = is.length ∧ ∀ (j : Nat) (x : Str) (p : Pos) (i : Nat), es[j]? = some (.Name x p) → is[j]? = some i → NmOk X x i
  | [], _, h => by
    unfold wrs at h; cases h
    exact ⟨fun e he => (by cases he), rfl, fun j x p i h1 => by simp at h1⟩
  | e :: r, is, h => by
    unfold wrs at h
    split at h
    · cases h; rename_i z; cases z
    · rename_i x p r' z
      cases z
      split at h
      · rename_i i is' e1 e2
        cases h
        obtain ⟨h1, h2, h3⟩ := wrs_ok nd s e2
        refine ⟨fun e he => ?_, by simp [h2], fun j y q i' k1 k2 => ?_⟩
        · rcases List.mem_cons.mp he with rfl | he
          · exact ⟨_, _, rfl⟩
          · exact h1 e he
        · cases j with
          | zero => simp at k1 k2; obtain ⟨rfl, rfl⟩ := k1; subst k2; exact wr_ok nd s e1
          | succ j => exact h3 j y q i' (by simpa using k1) (by simpa using k2)
      · cases h
    · cases h
theorem tg_ok {tg : Expr} {is : List Nat} {g : D → M Unit} (a : At X c Z k) (pg : PgOk G Z) (s : Sa X δ) (h : tgD δ tg = some (is, g)) : L2.PG X tg (tT c is g) := by
  unfold tgD at h
  split at h
  · obtain ⟨i, e1, e2⟩ := Option.map_eq_some_iff.mp h
    cases e2
    exact g_name (wr_ok a.nd s e1)
  · obtain ⟨is', e1, e2⟩ := Option.map_eq_some_iff.mp h
    cases e2
    obtain ⟨h1, h2, h3⟩ := wrs_ok a.nd s e1
    exact g_tup a.calm (a.hT pg) h1 h2 h3
  · cases h
theorem blk_ok {scope : Scope} (s : Sa X δ) (h : blkB δ scope = true) : L2.BlkOk X.N X.env.scope scope (ownOf δ.N scope) := by
  unfold blkB at h
  rw [Bool.and_eq_true, Bool.and_eq_true] at h
  obtain ⟨⟨h1, h2⟩, h3⟩ := h
  refine ⟨eq_of_beq h1, fun y hy => eq_of_beq (List.all_eq_true.mp h2 y hy), fun p hp => ?_, fun y hy e => ?_, fun y hy e => ?_⟩
  · unfold ownOf at hp
    obtain ⟨y, hy, e⟩ := List.mem_filterMap.mp hp
    split at e
    · obtain ⟨i, e1, e2⟩ := Option.map_eq_some_iff.mp e
      cases e2
      exact ix_at s e1
    · cases e
  · have z := List.all_eq_true.mp h3 y hy
    rw [e] at z
    have z : (false || (δ.kd y.1 == some .cell || δ.kd y.1 == some .free)) = true := z
    rw [Bool.false_or, Bool.or_eq_true] at z
    rw [kd_eq s]
    rcases z with z | z
    · exact .inl (eq_of_beq z)
    · exact .inr (eq_of_beq z)
  · by_cases hm : y.1 ∈ X.N
    · left
      rw [s.N] at hm
      have : ∃ i, δ.N.findIdx? (· == y.1) = some i := by
        cases z : δ.N.findIdx? (· == y.1) with
        | some i => exact ⟨i, rfl⟩
        | none =>
          rw [List.findIdx?_eq_none_iff] at z
          have := z y.1 hm
          simp at this
      obtain ⟨i, hi⟩ := this
      refine List.mem_map.mpr ⟨(y.1, i), ?_, rfl⟩
      unfold ownOf
      refine List.mem_filterMap.mpr ⟨y, hy, ?_⟩
      rw [hi]
      rcases e with e | e <;> rw [e] <;> rfl
    · exact .inr hm
theorem At.blk (a : At X c Z k) {s0 : Shared} {H : L2.Hp} {scope : Scope} {C : Addr} {cl : List (Str × Addr)} {fp : List Addr} {c' : Cy} (hT : c'.T = c.T) (hW : ∀ a b d e, ¬ c'.W a b d e) (hk : scope.kind = .function) : At (X.blk s0 H scope (compEnvC scope cl C X.env) fp) c' Z k :=
  ⟨a.P, a.w, a.K, a.mg, a.base, hT.trans a.T, a.nd, hk, a.calm, a.room, fun u s' ⟨_, _, _, _, _, _, _, _, _, _, _, _, _, _, _, _, w⟩ => (hW _ _ _ _ w).elim⟩
theorem Sa.blk (s : Sa X δ) {s0 : Shared} {H : L2.Hp} {scope : Scope} {C : Addr} {cl : List (Str × Addr)} {fp : List Addr} : Sa (X.blk s0 H scope (compEnvC scope cl C X.env) fp) (δ.inner scope) :=
  ⟨s.N, by show relabel scope X.env = L2.relS scope δ.sc; rw [← s.sc]; rfl, fun h => by cases h⟩
theorem ifs_ok (g : PgOk G Z) (o : EvOk G Z k v) {X : L2.Cx} {c : Cy} {δ : Sc} (a : At X c Z k) (s : Sa X δ) {ifs : List Expr} {m : M Bool} (h : ifsD v δ ifs = some m) : L2.PTs X ifs (tG c rpB m) := by
  unfold ifsD at h
  split at h
  · cases h
    exact ⟨fun pins s0 σ H Q I ⟨F, ρ, st, q, hh⟩ => L2.pts_nil.run pins s0 σ H Q I (Run.done hh q rfl)⟩
  · cases h
    exact L2.pts_one (o.T _ a s)
  · cases h
theorem fr_ok (g : PgOk G Z) (o : EvOk G Z k v) (a : At X c Z k) (s : Sa X δ) {e : Expr} {m : M (List D)} (h : frE v δ e = some m) : L2.PE X e (tF c m) := by
  unfold frE at h
  split at h
  · split at h
    · rename_i hs
      cases h
      exact f_lst (e_args hs fun e' _ => o.E e' a s)
    · cases h
      exact f_lst (e_argsS (a.hT g) fun e' _ => o.E _ a s)
  · rename_i elt tg iter ifs scope p
    split at h
    · rename_i hb
      rw [Bool.and_eq_true] at hb
      split at h
      · rename_i js gg mt e1 e2
        split at h
        · rename_i hj
          cases h
          have ok := blk_ok s hb.1
          refine f_lc (js := js) a.calm a.nd (o.I tg iter a s) ok (fun i hi => ?_) (fun s0 H C cl fp c' h1 h2 => ?_) (fun s0 H C cl fp c' h1 h2 => ?_) (fun s0 H C cl fp c' h1 h2 => ?_) hb.2
          · exact List.contains_iff_mem.mp (List.all_eq_true.mp hj i hi)
          · exact tg_ok (a.blk h1 h2 ok.kind) g s.blk e1
          · exact ifs_ok g o (a.blk h1 h2 ok.kind) s.blk e2
          · exact o.E elt (a.blk h1 h2 ok.kind) s.blk
        · cases h
      · cases h
    · cases h
  · cases h
theorem mk_ok (g : PgOk G Z) (o : EvOk G Z k v) (a : At X c Z k) (s : Sa X δ) (e : Expr) : L2.PE X e (tG c rpD (mkE G v δ e)) := by
  unfold mkE
  split
  · rename_i m h
    split
    · exact e_cell (fr_ok g o a s h)
    · exact e_ofF (fr_ok g o a s h)
  · exact e_bad
theorem bltB_ok {x : Str} {f : List D → M D} (a : At X c Z k) (pg : PgOk G Z) (h : bltB.lookup x = some f) : ∃ id, L2.CallR X (.builtin id) (rGC c f) ∧ bootBuiltins x = some (.builtin id) ∧ x ≠ "__name__" := by
  have m := PySem.mem_of_lookup h
  unfold bltB at m
  simp only [List.mem_cons, List.mem_nil_iff, or_false, Prod.mk.injEq] at m
  have hT := a.hT pg
  have hc := a.calm
  rcases m with ⟨rfl, rfl⟩ | ⟨rfl, rfl⟩ | ⟨rfl, rfl⟩ | ⟨rfl, rfl⟩ | ⟨rfl, rfl⟩ | ⟨rfl, rfl⟩ | ⟨rfl, rfl⟩ | ⟨rfl, rfl⟩
  · exact ⟨_, c_len hT, rfl, by decide⟩
  · exact ⟨_, c_sum hc, rfl, by decide⟩
  · exact ⟨_, c_sorted, rfl, by decide⟩
  · exact ⟨_, c_min hc, rfl, by decide⟩
  · exact ⟨_, c_max hc, rfl, by decide⟩
  · exact ⟨_, c_all hc, rfl, by decide⟩
  · exact ⟨_, c_any hc, rfl, by decide⟩
  · exact ⟨_, c_isi hT, rfl, by decide⟩
theorem bltT_ok {x : Str} {f : List D → M D} (a : At X c Z k) (pg : PgOk G Z) (h : bltT.lookup x = some f) : ∃ id, L2.CallR X (.type id) (rGC c f) ∧ bootBuiltins x = some (.type id) ∧ x ≠ "__name__" := by
  have m := PySem.mem_of_lookup h
  unfold bltT at m
  simp only [List.mem_cons, List.mem_nil_iff, or_false, Prod.mk.injEq] at m
  have hT := a.hT pg
  rcases m with ⟨rfl, rfl⟩ | ⟨rfl, rfl⟩ | ⟨rfl, rfl⟩ | ⟨rfl, rfl⟩ | ⟨rfl, rfl⟩
  · exact ⟨_, c_list hT, rfl, by decide⟩
  · exact ⟨_, c_tuple hT, rfl, by decide⟩
  · exact ⟨_, c_int, rfl, by decide⟩
  · exact ⟨_, c_bool, rfl, by decide⟩
  · exact ⟨_, c_str, rfl, by decide⟩
theorem call_ok (g : PgOk G Z) (fo : FnsOk G Z k calls) (o : EvOk G Z k v) (a : At X c Z k) (s : Sa X δ) {x : Str} {p pos : Pos} {es : List Expr} {kws : List Keyword} : L2.PE X (.Call (.Name x p) es kws pos) (tG c rpD (callE G calls v δ x es kws)) := by
  unfold callE
  split
  · rename_i h0
    rw [Bool.and_eq_true] at h0
    obtain ⟨hg, hdb⟩ := gl_ok s h0.1
    have args := e_args (c := c) (f := v.E δ) h0.2 fun e' _ => o.E e' a s
    split
    · rename_i i hx
      split
      · rename_i fi sh hi hsh
        split
        · rename_i hk
          rw [Bool.and_eq_true] at hk
          have hm := List.mem_of_find?_eq_some hsh
          have hp := List.find?_some hsh
          rw [Bool.and_eq_true, Bool.and_eq_true] at hp
          exact e_call a g fo hx hi hm (eq_of_beq hp.1.1) (eq_of_beq hk.2) (eq_of_beq hp.2).symm hk.1 hg hdb h0.2 args (e_kws (f := v.E δ) fun kw _ => o.E kw.value a s) (fun he => by rw [he]; rfl)
        · exact e_bad
      · exact e_bad
    · rename_i C hx
      split
      · rename_i ci hc
        split
        · rename_i hk
          rw [Bool.and_eq_true] at hk
          obtain ⟨fi, hfi⟩ := Option.isSome_iff_exists.mp hk.2
          obtain ⟨i, hi, hfi⟩ := Option.bind_eq_some_iff.mp hfi
          exact e_mkO a g fo hx hc ⟨i, fi, hi, hfi⟩ hk.1 hg hdb h0.2 args (e_kws (f := v.E δ) fun kw _ => o.E kw.value a s) (fun he => by rw [he]; rfl)
        · exact e_bad
      · exact e_bad
    · exact e_bad
    · split
      · rename_i h1
        rw [Bool.and_eq_true, Bool.and_eq_true] at h1
        obtain ⟨⟨hb, hk⟩, he⟩ := h1
        have hm : X.mg x = none := by rw [a.mg]; exact g.bl x (List.contains_iff_mem.mp hb)
        cases kws with
        | cons _ _ => cases hk
        | nil =>
          cases es with
          | nil => cases he
          | cons e es =>
            split
            · rename_i f hf
              obtain ⟨id, h2, h3, h4⟩ := bltB_ok a g hf
              exact e_callB h2 hg hm h3 h4 hdb h0.2 args
            · split
              · rename_i f hf
                obtain ⟨id, h2, h3, h4⟩ := bltT_ok a g hf
                exact e_callT h2 hg hm h3 h4 hdb h0.2 args
              · exact e_bad
      · exact e_bad
  · exact e_bad
theorem muOf_ok {name : Str} {m : Mu} (h : muOf.lookup name = some m) : name = muName m := by
  have q := PySem.mem_of_lookup h
  unfold muOf at q
  simp only [List.mem_cons, List.mem_nil_iff, or_false, Prod.mk.injEq] at q
  rcases q with ⟨rfl, rfl⟩ | ⟨rfl, rfl⟩ | ⟨rfl, rfl⟩ | ⟨rfl, rfl⟩ | ⟨rfl, rfl⟩ <;> rfl
theorem meth_ok (g : PgOk G Z) (o : EvOk G Z k v) (a : At X c Z k) (s : Sa X δ) {ob : Expr} {name : Str} {es : List Expr} {apos cpos : Pos} : L2.PE X (.Call (.Attribute ob name apos) es [] cpos) (tG c rpD (methE v δ ob name es (apos.endLine == cpos.line))) := by
  unfold methE
  split
  · rename_i h0
    rw [Bool.and_eq_true, Bool.and_eq_true, decide_eq_true_eq] at h0
    obtain ⟨⟨hline, hs⟩, hl⟩ := h0
    have args := e_args (c := c) (f := v.E δ) hs fun e' _ => o.E e' a s
    split
    · rename_i m x p hm
      rw [muOf_ok hm]
      split
      · rename_i i hi
        obtain ⟨h1, h2, h3, h4⟩ := rd_ok s hi
        cases es with
        | nil => exact e_muV0 h1 h2 h3 h4 hline
        | cons e es => exact e_muV h1 h2 h3 h4 args hs hl hline
      · exact e_bad
    · split
      · rename_i h1
        rw [Bool.and_eq_true] at h1
        cases es with
        | nil => cases h1.2
        | cons e es =>
          split
          · rename_i f hf
            have q := PySem.mem_of_lookup hf
            unfold strMs at q
            simp only [List.mem_cons, List.mem_nil_iff, or_false, Prod.mk.injEq] at q
            rcases q with ⟨rfl, rfl⟩ | ⟨rfl, rfl⟩
            · exact e_mth PySem.F.plainAttrs_str PySem.F.slot_str_join PySem.F.type_str_join (m_join (a.hT g)) (o.E _ a s) args h1.1 hs hl hline
            · exact e_mth PySem.F.plainAttrs_str PySem.F.slot_str_split PySem.F.type_str_split m_split (o.E _ a s) args h1.1 hs hl hline
          · split
            · rename_i f hf
              have q := PySem.mem_of_lookup hf
              unfold lstMs at q
              simp only [List.mem_cons, List.mem_nil_iff, or_false, Prod.mk.injEq] at q
              obtain ⟨rfl, rfl⟩ := q
              exact e_mth PySem.F.plainAttrs_list PySem.F.slot_list_index PySem.F.type_list_index m_index (o.E _ a s) args h1.1 hs hl hline
            · exact e_bad
      · exact e_bad
  · exact e_bad
theorem opt_ok (o : EvOk G Z k v) (a : At X c Z k) (s : Sa X δ) (e : Option Expr) : L2.PO X e (tG c rpO (optE v δ e)) := by
  cases e with
  | none => exact o_none
  | some e => exact o_some (o.E e a s)
theorem sub_ok (g : PgOk G Z) (o : EvOk G Z k v) (a : At X c Z k) (s : Sa X δ) {ob b : Expr} {pos : Pos} : L2.PE X (.Subscript ob b pos) (tG c rpD (subE v δ ob b)) := by
  have hT := a.hT g
  unfold subE
  split
  · exact e_slc hT (o.E ob a s) (opt_ok o a s _) (opt_ok o a s _)
  · split
    · rename_i h
      split
      · split
        · rename_i i hi
          obtain ⟨h1, h2, h3, h4⟩ := rd_ok s hi
          exact e_idxV hT h1 h2 h3 h4 (o.E b a s) h
        · exact e_idx hT (o.E _ a s) (o.E b a s) h
      · exact e_idx hT (o.E _ a s) (o.E b a s) h
    · exact e_bad
theorem name_ok (g : PgOk G Z) (a : At X c Z k) (s : Sa X δ) {x : Str} {pos : Pos} : L2.PE X (.Name x pos) (tG c rpD (nameE G δ x)) := by
  unfold nameE
  split
  · rename_i i hi
    obtain ⟨h1, h2, h3, h4⟩ := rd_ok s hi
    exact e_var h1 h2 h3 h4
  · split
    · rename_i h0
      obtain ⟨hg, hdb⟩ := gl_ok s h0
      split
      · rename_i d hd
        obtain ⟨v, u, h1, h2, h3⟩ := g.con x d hd
        rw [← a.T] at h3
        exact e_lit (L2.pe_glob hg (by rw [a.mg]; exact h1) h2 hdb) h3
      · split
        · rename_i n e1 e2 e3
          have hm : X.mg x = none := by rw [a.mg]; exact g.bl x (List.contains_iff_mem.mp e2)
          have q := PySem.mem_of_lookup e3
          unfold nameE.tyNamesB at q
          simp only [List.mem_cons, List.mem_nil_iff, or_false, Prod.mk.injEq] at q
          refine e_lit (L2.pe_bltn (v := .ty n) (u := .type n) hg hm ?_ rfl ?_ hdb) fun _ _ => .ty n
          · rcases q with ⟨rfl, rfl⟩ | ⟨rfl, rfl⟩ | ⟨rfl, rfl⟩ | ⟨rfl, rfl⟩ | ⟨rfl, rfl⟩ <;> rfl
          · rcases q with ⟨rfl, rfl⟩ | ⟨rfl, rfl⟩ | ⟨rfl, rfl⟩ | ⟨rfl, rfl⟩ | ⟨rfl, rfl⟩ <;> decide
        · exact e_bad
    · exact e_bad
theorem methO_ok (g : PgOk G Z) (fo : FnsOk G Z k calls) (o : EvOk G Z k v) (a : At X c Z k) (s : Sa X δ) {ob : Expr} {name : Str} {es : List Expr} {kws : List Keyword} {apos cpos : Pos} : L2.PE X (.Call (.Attribute ob name apos) es kws cpos) (tG c rpD (methOE G calls v δ ob name es kws (apos.endLine == cpos.line))) := by
  unfold methOE
  split
  · rename_i h
    simp only [Bool.and_eq_true, decide_eq_true_eq] at h
    obtain ⟨⟨⟨⟨h1, h2⟩, h3⟩, h4⟩, h5⟩ := h
    exact e_methO a g fo (o.E _ a s) h2 h3 h4 h5 h1 (e_args (f := v.E δ) h3 fun e' _ => o.E e' a s) (e_kws (f := v.E δ) fun kw _ => o.E kw.value a s) (fun he => by rw [he]; rfl)
  · exact e_bad
theorem stepE_ok (g : PgOk G Z) (fo : FnsOk G Z k calls) (o : EvOk G Z k v) (a : At X c Z k) (s : Sa X δ) (e : Expr) : L2.PE X e (tG c rpD (stepE G calls v δ e)) := by
  have hT := a.hT g
  have hu : X.A.units + 65 < cLine := by have := a.room.un; omega
  unfold stepE
  split
  · unfold litD
    split
    · exact e_none
    · exact e_bl
    · exact e_int
    · exact e_str
    · exact e_bad
  · exact name_ok g a s
  · exact e_bin (o.E _ a s) (o.E _ a s) (opr_bin _ hT)
  · exact e_not hT (o.E _ a s)
  · exact e_neg (o.E _ a s)
  · exact e_inv (o.E _ a s)
  · rename_i es p
    cases es with
    | nil => exact e_bad
    | cons e es => exact e_and hT (List.cons_ne_nil _ _) fun e' _ => o.E e' a s
  · rename_i es p
    cases es with
    | nil => exact e_bad
    | cons e es => exact e_or hT (List.cons_ne_nil _ _) fun e' _ => o.E e' a s
  · split
    · rename_i h
      exact e_cmp (opr_cmp _ hT hu) (o.E _ a s) (o.E _ a s) h
    · exact e_bad
  · split
    · rename_i h
      rw [Bool.and_eq_true] at h
      exact e_chain (opr_cmp _ hT hu) (opr_cmp _ hT hu) (o.E _ a s) (o.E _ a s) (o.E _ a s) h.1 h.2
    · exact e_bad
  · exact e_ifExp (o.T _ a s) (o.E _ a s) (o.E _ a s)
  · split
    · rename_i h
      simp only [Bool.and_eq_true] at h
      obtain ⟨⟨⟨⟨⟨⟨h1, h2⟩, h3⟩, h4⟩, h5⟩, h6⟩, h7⟩ := h
      have h1 := eq_of_beq h1
      have h2 := eq_of_beq h2
      subst h1; subst h2
      exact e_sortedSet hT a.calm (gl_ok s h3).1 (by rw [a.mg]; exact g.bl _ (List.contains_iff_mem.mp h5)) (gl_ok s h4).1 (by rw [a.mg]; exact g.bl _ (List.contains_iff_mem.mp h6)) h7 (o.E _ a s)
    · exact call_ok g fo o a s
  · exact call_ok g fo o a s
  · split
    · exact methO_ok g fo o a s
    · split
      · rename_i hk
        have hk := List.isEmpty_iff.mp hk
        subst hk
        exact meth_ok g o a s
      · exact e_bad
  · split
    · rename_i h
      exact e_attr a g fo (o.E _ a s) h
    · exact e_bad
  · exact sub_ok g o a s
  · split
    · rename_i h
      exact e_tup (e_args h fun e' _ => o.E e' a s)
    · exact e_bad
  · exact mk_ok g o a s _
  · exact mk_ok g o a s _
  · exact e_bad
theorem stepT_ok (g : PgOk G Z) (o : EvOk G Z k v) (a : At X c Z k) (s : Sa X δ) (e : Expr) : L2.PT X e (tG c rpB (stepT v δ e)) := by
  have hT := a.hT g
  have hu : X.A.units + 65 < cLine := by have := a.room.un; omega
  unfold stepT
  split
  · exact t_not (o.T _ a s)
  · rename_i es p
    cases es with
    | nil => exact t_bad
    | cons e es => exact (t_and (List.cons_ne_nil _ _) fun e' _ => o.T e' a s).pt
  · rename_i es p
    cases es with
    | nil => exact t_bad
    | cons e es => exact (t_or (List.cons_ne_nil _ _) fun e' _ => o.T e' a s).pt
  · exact t_ifExp (o.T _ a s) (o.T _ a s) (o.T _ a s)
  · split
    · rename_i h
      exact t_cmp (opr_cmp _ hT hu) (o.E _ a s) (o.E _ a s) h
    · exact t_bad
  · split
    · rename_i h
      rw [Bool.and_eq_true] at h
      exact t_chain (opr_cmp _ hT hu) (opr_cmp _ hT hu) (o.E _ a s) (o.E _ a s) (o.E _ a s) h.1 h.2
    · exact t_bad
  · split
    · rename_i h
      exact t_truth hT (o.E _ a s) h
    · exact t_bad
theorem stepI_ok (g : PgOk G Z) (o : EvOk G Z k v) (a : At X c Z k) (s : Sa X δ) (tg e : Expr) : L2.PI X tg e (tG c rpI (stepI G v δ (isTup tg) e)) := by
  have hT := a.hT g
  have seq : ∀ e, L2.PI X tg e (tG c rpI (mBind (v.E δ e) itemsD)) := fun e => i_seq hT (o.E e a s)
  have tupOf : isTup tg = true → ∃ es k p, tg = .Tuple es k p := fun h => by
    cases tg <;> first | exact ⟨_, _, _, rfl⟩ | cases h
  unfold stepI
  split
  · rename_i x p es p2
    split
    · rename_i h0
      rw [Bool.and_eq_true, Bool.and_eq_true] at h0
      obtain ⟨⟨h1, h2⟩, hs⟩ := h0
      obtain ⟨hg, hdb⟩ := gl_ok s h1
      have hm : X.mg x = none := by rw [a.mg]; exact g.bl x (List.contains_iff_mem.mp h2)
      have args := e_args (c := c) (f := v.E δ) hs fun e' _ => o.E e' a s
      split
      · rename_i hx
        have hx := eq_of_beq hx
        subst hx
        split
        · rw [List.all_cons, Bool.and_eq_true] at hs
          exact i_range1 hg hm hs.1 args
        · rw [List.all_cons, Bool.and_eq_true, List.all_cons, Bool.and_eq_true] at hs
          exact i_range2 hg hm hs.1 hs.2.1 args
        · exact i_bad
      · split
        · rename_i hx
          rw [Bool.and_eq_true] at hx
          have hx1 := eq_of_beq hx.1
          subst hx1
          obtain ⟨ts, kk, tp, rfl⟩ := tupOf hx.2
          split
          · rw [List.all_cons, Bool.and_eq_true] at hs
            exact i_enum hT hg hm hs.1 args
          · exact i_bad
        · split
          · rename_i hx
            rw [Bool.and_eq_true] at hx
            have hx1 := eq_of_beq hx.1
            subst hx1
            obtain ⟨ts, kk, tp, rfl⟩ := tupOf hx.2
            split
            · rw [List.all_cons, Bool.and_eq_true, List.all_cons, Bool.and_eq_true] at hs
              exact i_zip hT hg hm hs.1 hs.2.1 args
            · exact i_bad
          · exact seq _
    · exact seq _
  · exact seq _
end
theorem evN_ok {G : Pg} {Z : Wd} {k : Nat} {calls : Calls} (g : PgOk G Z) (fo : FnsOk G Z k calls) : ∀ n, EvOk G Z k (evN G calls n)
  | 0 => ⟨fun _ _ _ => e_bad, fun _ _ _ => t_bad, fun _ _ _ _ => i_bad⟩
  | n + 1 => ⟨fun e a s => stepE_ok g fo (evN_ok g fo n) a s e, fun e a s => stepT_ok g (evN_ok g fo n) a s e, fun tg e a s => stepI_ok g (evN_ok g fo n) a s tg e⟩
end U

/-! U18: the evaluator of statements and of defs. -/
namespace U
open PySem PySem.Spec PyProof.Rows

def swD (ts vs : List Expr) (sc : Scope) : Option (Option (List Str)) :=
    if (!(ts.length == 2 || ts.length == 3) || vs.length != ts.length) = true then some none
    else if (vs.any isStarred) = true then some none
    else if ((locNames ts sc).length != ts.length || (locNames ts sc).eraseDups.length != (locNames ts sc).length) = true then some none
    else if (vs.all (foldedForSure 8)) = true then some none
    else if (vs.all (constantsAlone 8)) = true then none
    else some (some (locNames ts sc))
theorem swD_ok {ts vs : List Expr} {k k2 : Nat} {p p2 : Pos} {env : Env} {o : Option (List Str)} (hk : env.scope.kind = .function) (h : swD ts vs env.scope = some o) : swappedStores [.Tuple ts k p] (.Tuple vs k2 p2) env = pure o := by
  rw [sw_eq ts vs k k2 p p2 env hk]
  unfold swD at h
  split at h
  · rename_i g; rw [if_pos g]; cases h; rfl
  · rename_i g; rw [if_neg g]
    split at h
    · rename_i g; rw [if_pos g]; cases h; rfl
    · rename_i g; rw [if_neg g]
      split at h
      · rename_i g; rw [if_pos g]; cases h; rfl
      · rename_i g; rw [if_neg g]
        split at h
        · rename_i g; rw [if_pos g]; cases h; rfl
        · rename_i g; rw [if_neg g]
          split at h
          · cases h
          · rename_i g; rw [if_neg g]; cases h; rfl
section
variable (G : Pg) (v : Ev) (sv : Sc → Stmt → MS) (W : Nat)
def asgM (m : M D) (g : D → M Unit) : MS := sB m fun d s => match g d s with
  | .ok _ s' => .nx s'
  | _ => .bad
def parM (m : M (List D)) (is : List Nat) : MS := sB m fun ds s => match setSlots is ds s with
  | .ok _ s' => .nx s'
  | _ => .bad
def parE (δ : Sc) (ts vs : List Expr) (tg e : Expr) : MS := match swD ts vs δ.sc with
  | some none => (match tgD δ tg with
    | some (_, g) => asgM (v.E δ e) g
    | none => fun _ => .bad)
  | some (some names) => (match ts with
    | [.Name x _, .Name y _] => (match vs, δ.ix x, δ.ix y with
      | [a, b], some i, some j => if names == [x, y] && δ.kd x == some .local && δ.kd y == some .local && (i != j) && notStar a && notStar b then parM (mSeq ([a, b].map (v.E δ))) [i, j] else fun _ => .bad
      | _, _, _ => fun _ => .bad)
    | [.Name x _, .Name y _, .Name z _] => (match vs, δ.ix x, δ.ix y, δ.ix z with
      | [a, b, d], some i, some j, some l => if names == [x, y, z] && δ.kd x == some .local && δ.kd y == some .local && δ.kd z == some .local && (i != j) && (i != l) && (j != l) && notStar a && notStar b && notStar d then parM (mSeq ([a, b, d].map (v.E δ))) [i, j, l] else fun _ => .bad
      | _, _, _, _ => fun _ => .bad)
    | _ => fun _ => .bad)
  | none => fun _ => .bad
def isLst : Expr → Bool
  | .List _ _ => true
  | _ => false
def asgE (δ : Sc) (tg e : Expr) : MS := match tg with
  | .Name x _ => (match δ.wr x with
    | some i =>
      if notComp e then
        (if isLst e && !G.cells.contains (exPos e) then (match frE v δ e with
          | some m => sB m (setOwn i)
          | none => fun _ => .bad)
        else sB (v.E δ e) fun d s => .nx { s with sl := s.sl.set i (some d) })
      else (match e with
        | .ListComp _ _ _ _ => (match frE v δ e with
          | some m => sB m (setOwn i)
          | none => fun _ => .bad)
        | _ => fun _ => .bad)
    | none => fun _ => .bad)
  | .Tuple ts _ _ => (match e with
    | .Tuple vs _ _ => parE v δ ts vs tg e
    | e => if notComp e then (match tgD δ tg with
      | some (_, g) => asgM (v.E δ e) g
      | none => fun _ => .bad) else fun _ => .bad)
  | .Subscript (.Name x _) b _ => (match δ.rd x with
    | some i => if notComp e && notSlice b then sB (v.E δ e) fun d s => if (s.sl[i]?).join.isSome then sB (v.E δ b) (fun k => setIx i k d) s else .bad else fun _ => .bad
    | none => fun _ => .bad)
  | .Attribute o f _ => if notComp e then sB (mBind (v.E δ e) fun y => mBind (v.E δ o) fun d => setAt G f y d) fun _ => .nx else fun _ => .bad
  | _ => fun _ => .bad
def stepS (δ : Sc) : Stmt → MS
  | .Pass _ => .nx
  | .Break _ => .bk
  | .Continue _ => .ct
  | .Expr (.Constant (.str _) _ _) _ => .nx
  | .Expr e _ => if notComp e then sB (v.E δ e) fun _ => .nx else fun _ => .bad
  | .Return (some e) _ => sB (v.E δ e) .rt
  | .Return none _ => .rt .non
  | .If t a b _ => sIte (v.T δ t) (sSeq (a.map (sv δ))) (sSeq (b.map (sv δ)))
  | .For tg it body [] _ => if notSetD it then (match tgD δ tg with
    | some (_, g) => sB (v.I δ (isTup tg) it) (forL g (sSeq (body.map (sv δ))))
    | none => fun _ => .bad) else fun _ => .bad
  | .While t body [] _ => whileL (v.T δ t) (sSeq (body.map (sv δ))) W
  | .AugAssign (.Name x _) op e _ => (match δ.wr x with
    | some i => sB (mBind (slotV i) fun d0 => mBind (v.E δ e) fun d => iopD op d0 d) fun d s => .nx { s with sl := s.sl.set i (some d) }
    | none => fun _ => .bad)
  | .AugAssign (.Attribute o f _) op e _ => sB (augA G f op (v.E δ o) (v.E δ e)) fun _ => .nx
  | .Assign [tg] e _ => asgE G v δ tg e
  | _ => fun _ => .bad
end
def svN (G : Pg) (v : Ev) (W : Nat) : Nat → Sc → Stmt → MS
  | 0 => fun _ _ _ => .bad
  | n + 1 => stepS G v (svN G v W n) W
structure SvOk (G : Pg) (Z : Wd) (k : Nat) (sv : Sc → Stmt → MS) : Prop where
  S : ∀ {X : L2.Cx} {c : Cy} {δ : Sc} (st : Stmt), At X c Z k → Sa X δ → PassesOwn (model X.prog X.w) X.A X.env X.xe → L2.PS X st (tS c (sv δ st))
section
variable {X : L2.Cx} {c : Cy} {Z : Wd} {G : Pg} {k : Nat} {calls : Calls} {δ : Sc} {v : Ev} {sv : Sc → Stmt → MS} {W : Nat}
theorem ne_of_bne {i j : Nat} (h : (i != j) = true) : i ≠ j := by simpa using h
theorem par_ok (g : PgOk G Z) (o : EvOk G Z k v) (a : At X c Z k) (s : Sa X δ) {ts vs : List Expr} {k1 k2 : Nat} {p1 p2 pos : Pos} : L2.PS X (.Assign [.Tuple ts k1 p1] (.Tuple vs k2 p2) pos) (tS c (parE v δ ts vs (.Tuple ts k1 p1) (.Tuple vs k2 p2))) := by
  have lk : ∀ x, δ.kd x == some .local → X.env.scope.names.lookup x = some .local := fun x h => by rw [kd_eq s]; exact eq_of_beq h
  unfold parE
  split
  · rename_i h
    rw [← s.sc] at h
    split
    · rename_i is gg hg
      exact s_asg (o.E _ a s) (tg_ok a g s hg) rfl (swD_ok a.kind h) rfl
    · exact s_bad
  · rename_i names h
    rw [← s.sc] at h
    split
    · split
      · split
        · rename_i x px y py va vb i j hi hj hh
          simp only [Bool.and_eq_true] at hh
          obtain ⟨⟨⟨⟨⟨h1, h2⟩, h3⟩, h4⟩, h5⟩, h6⟩ := hh
          have h1 := eq_of_beq h1
          subst h1
          exact s_par2 a.calm a.nd (ix_at s hi) (ix_at s hj) (ne_of_bne h4) (lk _ h2) (lk _ h3) (e_args (by rw [List.all_cons, h5, List.all_cons, h6]; rfl) fun e' _ => o.E e' a s) (swD_ok a.kind h)
        · exact s_bad
      · exact s_bad
    · split
      · split
        · rename_i x px y py z pz va vb vd i j l hi hj hl hh
          simp only [Bool.and_eq_true] at hh
          obtain ⟨⟨⟨⟨⟨⟨⟨⟨⟨h1, h2⟩, h3⟩, h4⟩, h5⟩, h6⟩, h7⟩, h8⟩, h9⟩, h10⟩ := hh
          have h1 := eq_of_beq h1
          subst h1
          exact s_par3 a.calm a.nd (ix_at s hi) (ix_at s hj) (ix_at s hl) (ne_of_bne h5) (ne_of_bne h6) (ne_of_bne h7) (lk _ h2) (lk _ h3) (lk _ h4) (e_args (by rw [List.all_cons, h8, List.all_cons, h9, List.all_cons, h10]; rfl) fun e' _ => o.E e' a s) (swD_ok a.kind h)
        · exact s_bad
      · exact s_bad
    · exact s_bad
  · exact s_bad
theorem setLc_ok (g : PgOk G Z) (o : EvOk G Z k v) (a : At X c Z k) (s : Sa X δ) {x : Str} {p pos : Pos} {i : Nat} {elt : Expr} {gs : List Comprehension} {scope : Scope} {p2 : Pos} {m : M (List D)} (hx : NmOk X x i) (h : frE v δ (.ListComp elt gs scope p2) = some m) :
    L2.PS X (.Assign [.Name x p] (.ListComp elt gs scope p2) pos) (tS c (sB m (setOwn i))) := by
  unfold frE at h
  split at h
  · rename_i z; cases z
  · rename_i elt' tg iter ifs scope' p' z
    cases z
    split at h
    · rename_i hb
      rw [Bool.and_eq_true] at hb
      split at h
      · rename_i js gg mt e1 e2
        split at h
        · rename_i hj
          cases h
          have ok := blk_ok s hb.1
          refine s_setLc (js := js) hx a.kind a.calm (o.I tg iter a s) ok (fun i hi => ?_) (fun s0 H C cl fp c' h1 h2 => ?_) (fun s0 H C cl fp c' h1 h2 => ?_) (fun s0 H C cl fp c' h1 h2 => ?_) hb.2
          · exact List.contains_iff_mem.mp (List.all_eq_true.mp hj i hi)
          · exact tg_ok (a.blk h1 h2 ok.kind) g s.blk e1
          · exact ifs_ok g o (a.blk h1 h2 ok.kind) s.blk e2
          · exact o.E elt (a.blk h1 h2 ok.kind) s.blk
        · cases h
      · cases h
    · cases h
  · cases h
theorem asg_ok (g : PgOk G Z) (o : EvOk G Z k v) (a : At X c Z k) (s : Sa X δ) {tg e : Expr} {pos : Pos} : L2.PS X (.Assign [tg] e pos) (tS c (asgE G v δ tg e)) := by
  unfold asgE
  split
  · split
    · rename_i i hi
      have hx := wr_ok a.nd s hi
      split
      · rename_i hn
        split
        · split
          · rename_i m hm
            exact s_setF hx (fr_ok g o a s hm) hn
          · exact s_bad
        · exact s_set hx (o.E _ a s) hn
      · split
        · split
          · rename_i m hm
            exact setLc_ok g o a s hx hm
          · exact s_bad
        · exact s_bad
    · exact s_bad
  · split
    · exact par_ok g o a s
    · rename_i hne
      split
      · rename_i hn
        split
        · rename_i is gg hg
          exact s_asg (o.E _ a s) (tg_ok a g s hg) hn (swNone_of fun es k p z => hne es k p z) rfl
        · exact s_bad
      · exact s_bad
  · split
    · rename_i i hi
      obtain ⟨h1, h2, h3, h4⟩ := rd_ok s hi
      split
      · rename_i hh
        rw [Bool.and_eq_true] at hh
        exact s_setIx h1 h2 h3 h4 (o.E _ a s) (o.E _ a s) hh.1 hh.2
      · exact s_bad
    · exact s_bad
  · split
    · rename_i hn
      exact s_attr a g (o.E _ a s) (o.E _ a s) (swaps_no hn _ _ _)
    · exact s_bad
  · exact s_bad
theorem stepS_ok (g : PgOk G Z) (o : EvOk G Z k v) (so : SvOk G Z k sv) (a : At X c Z k) (s : Sa X δ) (hp : PassesOwn (model X.prog X.w) X.A X.env X.xe) (st : Stmt) : L2.PS X st (tS c (stepS G v sv W δ st)) := by
  have seq : ∀ sts, L2.PSs X sts (tS c (sSeq (sts.map (sv δ)))) := fun sts => s_seq fun st _ => so.S st a s hp
  unfold stepS
  split
  · exact s_pass
  · exact s_break
  · exact s_cont
  · exact s_doc
  · split
    · rename_i h
      exact s_expr (o.E _ a s) h
    · exact s_bad
  · exact s_ret (o.E _ a s)
  · exact s_retN
  · exact s_if (o.T _ a s) (seq _) (seq _)
  · split
    · rename_i h
      split
      · rename_i is gg hg
        exact s_for hp a.calm (o.I _ _ a s) (tg_ok a g s hg) (seq _) h
      · exact s_bad
    · exact s_bad
  · exact s_while hp (o.T _ a s) (seq _)
  · split
    · rename_i i hi
      exact s_aug (wr_ok a.nd s hi) (o.E _ a s)
    · exact s_bad
  · exact s_attrAug a g (o.E _ a s) (o.E _ a s)
  · exact asg_ok g o a s
  · exact s_bad
end
theorem svN_ok {G : Pg} {Z : Wd} {k : Nat} {v : Ev} {W : Nat} (g : PgOk G Z) (o : EvOk G Z k v) : ∀ n, SvOk G Z k (svN G v W n)
  | 0 => ⟨fun _ _ _ _ => s_bad⟩
  | n + 1 => ⟨fun st a s hp => stepS_ok g o (svN_ok g o n) a s hp st⟩

/-! ### defs -/
def fnB (fi : FnI) : Bool := fi.d.scope.kind == .function && !fi.d.scope.isCoroutine && !fi.d.scope.isGenerator && decide fi.N.Nodup && fi.N.take fi.ps.length == fi.ps &&
  (fi.ps.all fun x => fi.d.scope.names.lookup x == some .local || fi.d.scope.names.lookup x == some .cell) && fi.d.scope.names.all fun y => !(y.2 == .free)
theorem fnB_ok {fi : FnI} (h : fnB fi = true) : L2.FnScope fi.N fi.ps fi.d.scope := by
  unfold fnB at h
  simp only [Bool.and_eq_true, decide_eq_true_eq] at h
  obtain ⟨⟨⟨⟨⟨⟨h1, h2⟩, h3⟩, h4⟩, h5⟩, h6⟩, h7⟩ := h
  refine ⟨eq_of_beq h1, by simpa using h2, by simpa using h3, h4, eq_of_beq h5, fun x hx => ?_, fun y hy e => ?_⟩
  · have := List.all_eq_true.mp h6 x hx
    rw [Bool.or_eq_true] at this
    exact this.imp eq_of_beq eq_of_beq
  · have := List.all_eq_true.mp h7 y hy
    rw [e] at this
    cases this
def endF : RS → FR
  | .nx s => .ok .non s.cs
  | .rt d s => .ok d s.cs
  | .exc x s => .exc x s.cs
  | _ => .bad
def bodyF (G : Pg) (M W : Nat) (calls : Calls) (fi : FnI) (ds : List D) (cs : List Cell) : FR :=
  if ds.length == fi.ps.length && fnB fi then endF (sSeq (fi.d.body.map (svN G (evN G calls M) W M ⟨fi.N, fi.d.scope, true⟩)) ⟨ds.map some ++ List.replicate (fi.N.length - ds.length) none, cs⟩) else .bad
def runF0 (G : Pg) (M W : Nat) : Nat → Calls
  | 0 => fun _ _ _ => .bad
  | n + 1 => fun i ds cs => match G.fns[i]? with
    | some fi => bodyF G M W (runF0 G M W n) fi ds cs
    | none => .bad
theorem runF0_ok {G : Pg} {Z : Wd} {M W : Nat} (g : PgOk G Z) : ∀ n, FnsOk G Z (2 * n) (runF0 G M W n)
  | 0 => fun i fi fd hi FD => ⟨fun vs H Q E h => h.1, fun A outer s H args us vs Q E _ _ _ _ h => by
    obtain ⟨_, _, _, _, _, _, _, z⟩ := h
    exact z.elim⟩
  | n + 1 => fun i fi fd hi FD => by
    have ih := runF0_ok (M := M) (W := W) g n
    by_cases hb : fnB fi = true
    · have S := fnB_ok hb
      have hk : 2 * (n + 1) = (2 * n + 1) + 1 := by omega
      rw [hk]
      refine FD.ok S (fun vs H Q E h => h.1) fun cdv A outer s0 H vs Q E hr h => ?_
      obtain ⟨hl, F, ρ, ds, cs, hR, rr, fin⟩ := h
      have e1 : runF0 G M W (n + 1) i ds cs = bodyF G M W (runF0 G M W n) fi ds cs := by
        show (match G.fns[i]? with
          | some fi => bodyF G M W (runF0 G M W n) fi ds cs
          | none => .bad) = _
        rw [hi]
      rw [e1] at fin
      have hds : ds.length = fi.ps.length := by rw [← rr.length]; exact hl
      unfold bodyF at fin
      rw [if_pos (by rw [hds, hb]; simp)] at fin
      let X : L2.Cx := L2.cxOf (L2.CX Z.P Z.w) Z.P Z.w Z.K Z.mg Z.base fi.N fi.d.qual fi.d.scope (fi.d.ad Z.K) cdv A outer s0 H E
      let c : Cy := ⟨Z.T, fun cls d _ H => E cls d H, ⟨H, F, ρ⟩⟩
      have a : At X c Z (2 * n) := ⟨rfl, rfl, rfl, rfl, rfl, rfl, S.nd, S.kind, rfl, hr, L2.takes_of rfl rfl rfl rfl⟩
      have sa : Sa X ⟨fi.N, fi.d.scope, true⟩ := ⟨rfl, rfl, fun _ _ => rfl⟩
      have hp : PassesOwn (model X.prog X.w) X.A X.env X.xe := L2.passes_of rfl
      have o := evN_ok g ih M
      have so := svN_ok (W := W) g o M
      refine ⟨_, s_seq (c := c) fun st _ => so.S st a sa hp, F, ρ, _, SR.enter hR rr, ?_⟩
      cases e2 : sSeq (fi.d.body.map (svN G (evN G (runF0 G M W n) M) W M ⟨fi.N, fi.d.scope, true⟩)) ⟨ds.map some ++ List.replicate (fi.N.length - ds.length) none, cs⟩ with
      | nx s' =>
        rw [e2] at fin
        exact fun σ' H' F' ρ' l p q => fin .non H' F' ρ' q.leave .non
      | rt d s' =>
        rw [e2] at fin
        exact fun v σ' H' F' ρ' l p q z => fin v H' F' ρ' q.leave z
      | exc x s' =>
        rw [e2] at fin
        exact fun cls dd σ' H' F' ρ' l p q z => fin cls dd H' F' ρ' q.leave z
      | bad => rw [e2] at fin; exact fin.elim
      | bk s' => rw [e2] at fin; exact fin.elim
      | ct s' => rw [e2] at fin; exact fin.elim
    · refine ⟨fun vs H Q E h => h.1, fun A outer s H args us vs Q E _ _ _ _ h => ?_⟩
      obtain ⟨_, F, ρ, ds, cs, _, _, z⟩ := h
      have e1 : runF0 G M W (n + 1) i ds cs = bodyF G M W (runF0 G M W n) fi ds cs := by
        show (match G.fns[i]? with
          | some fi => bodyF G M W (runF0 G M W n) fi ds cs
          | none => .bad) = _
        rw [hi]
      rw [e1] at z
      unfold bodyF at z
      rw [if_neg (by rw [Bool.and_eq_true]; exact fun w => hb w.2)] at z
      exact z.elim
@[irreducible] def runF (G : Pg) (M W n : Nat) : Calls := runF0 G M W n
theorem runF_ok {G : Pg} {Z : Wd} {M W : Nat} (g : PgOk G Z) (n : Nat) : FnsOk G Z (2 * n) (runF G M W n) := by
  unfold runF; exact runF0_ok g n
/-- the law's promise -/
theorem sp_law {T : Tab} {calls : List D → List Cell → FR} {H : L2.Hp} {a : Addr} {ns : List Int} (hS : L2.SqL T.K H a (ns.map L2.V.int)) (h : ∃ cs, calls [.scr ns] [] = .ok (.bl true) cs) : spEv T calls 1 [.ref a] H (fun v _ => v = .bl true) fun _ _ _ => False := by
  obtain ⟨cs, e⟩ := h
  refine ⟨rfl, H, [], [.scr ns], [], ⟨Le.refl H, rfl, fun n a c h => by simp at h, List.nodup_nil, fun a h => by cases h⟩, .cons (.scr hS) .nil, ?_⟩
  rw [e]
  intro v H' F' ρ' q z
  cases z
  rfl
end U

/-! U19: from the head's facts to the program's. -/
namespace U
open PySem PySem.Spec PyProof.Rows

/-- what binds without defaults -/
def ShN (fi : FnI) (sh : Shp) : Prop := ∀ (kV doc pm : Value) (an : Option Addr) (cdv ct : Value) (us ws : List Value), us.length = sh.n → ws.length = sh.ks.length →
  bindArgs (PySem.W.fnOf fi.d.name fi.d.qual fi.d.params fi.d.body fi.d.scope .none kV doc pm an cdv ct) ⟨us, sh.ks.zip ws⟩ = pure (fi.ps.zip (permL sh.perm (us ++ ws ++ []) .none))
theorem ShN.ok {K : PySem.W.Frag} {fi : FnI} {sh : Shp} {fd : FuncData} {f : Addr} (h : ShN fi sh) (hd : fi.d.dfl = []) (F : L2.FunD K fi.d.name fi.d.qual fi.d.params fi.d.body fi.d.scope (fi.d.dvs K) (fi.d.kws K) f fd) : ShOk K fd fi.ps (fi.d.dvs K) sh := by
  have e : fi.d.dvs K = [] := by unfold DefX.dvs; rw [hd]; rfl
  rw [e] at F ⊢
  obtain ⟨oc, od, dV, kV, doc, pm, an, cdv, ct, osl, rfl, lk, hcd, hD, hK⟩ := F.ex
  rcases hD with ⟨_, rfl⟩ | ⟨e, _⟩
  · exact ⟨[], .nil, fun s us ws _ h1 h2 => .of_eq (h kV doc pm an cdv ct us ws h1 h2)⟩
  · exact absurd rfl e
/-- the head's facts of a program -/
def gvFa : Str × Gv → Option Fx
  | (x, .fn _) => some (.he (.glo x))
  | (x, .cls _) => some (.he (.glo x))
  | (x, .con (.str z)) => some (.he (.str x (stS z)))
  | (x, .con (.int i)) => some (.he (.int x i))
  | _ => none
def clFa (ci : ClsI) : List Fx := .he (.cls ci.name) :: (ci.noat.map (fun f => Fx.he (.noat ci.name f)) ++ ci.mth.map (fun y => Fx.he (.meth ci.name y.1)) ++ ci.prp.map (fun y => Fx.prop ci.name y.1) ++ ci.cst.map (fun y => Fx.con ci.name y.1 y.2) ++
  (match ci.ini with
  | some _ => [.he (.mkr ci.name)]
  | none => []))
def faOf (G : Pg) : List Fx := G.glo.filterMap gvFa ++ G.bl.map (fun x => .he (.free x)) ++ G.cls.flatMap clFa
def fnsD (G : Pg) : List DefX := G.fns.map (·.d)
def plB (G : Pg) (i : Nat) (p : Plc) : Bool := match G.fns[i]? with
  | some fi => decide (fi.d.at_ = p)
  | none => true
def gloB (G : Pg) : Bool := (G.glo.all fun y => match y.2 with
  | .fn i => plB G i (.glo y.1)
  | .con (.str _) => true
  | .con (.int _) => true
  | .cls c => (match G.cls[c]? with
    | some ci => decide (ci.name = y.1)
    | none => true)
  | _ => false) && G.cls.all fun ci => (ci.mth.all fun y => plB G y.2 (.meth ci.name y.1)) && ((ci.prp.all fun y => plB G y.2 (.prop ci.name y.1)) && (match ci.ini with
  | some i => plB G i (.meth ci.name "__init__")
  | none => true))
theorem plB_ok {G : Pg} {i : Nat} {p : Plc} {fi : FnI} (h : plB G i p = true) (hi : G.fns[i]? = some fi) : fi.d.at_ = p := by
  unfold plB at h
  rw [hi] at h
  exact of_decide_eq_true h
theorem lookup_mem' {α : Type} {x : Str} {v : α} {l : List (Str × α)} (h : l.lookup x = some v) : (x, v) ∈ l := PySem.mem_of_lookup h
def clsAt (G : Pg) (K : PySem.W.Frag) (c : Nat) : Addr := match G.cls[c]? with
  | some ci => He.ga K ci.name
  | none => 0
def tabOf (G : Pg) (K : PySem.W.Frag) : Tab := ⟨K, clsAt G K, fun _ => Str.empty, fun _ => True⟩
/-- where the program stands -/
def wdOf (G : Pg) (P : Program) (w : World) (K : PySem.W.Frag) (mg : Str → Option Value) (base : Heap) : Wd := ⟨P, w, K, mg, base, tabOf G K⟩
theorem pgOk_of {G : Pg} {P : Program} {w : World} {K : PySem.W.Frag} {mg : Str → Option Value} {base h : Heap} (X : K.In h) (N : h.Ns mainGlobals mg) (c : SaysX (faOf G) (fnsD G) K) (hg : gloB G = true) (hd : ∀ fi ∈ G.fns, fi.d.dfl = [] ∧ fi.dfl = []) (hs : ∀ sh ∈ G.shp, ∀ fi, G.fns[sh.fn]? = some fi → ShN fi sh) :
    PgOk G (wdOf G P w K mg base) := by
  have fact : ∀ {f}, f ∈ faOf G → f.ok K = true := fun hf => c.facts hf
  have factH : ∀ {f : He.Fa}, Fx.he f ∈ faOf G → f.ok K = true := fun hf => c.facts hf
  obtain ⟨hg1, hg2⟩ := He.ba hg
  have inC : ∀ {c ci f}, G.cls[c]? = some ci → f ∈ clFa ci → f ∈ faOf G := fun {c ci f} h1 h2 => List.mem_append_right _ (List.mem_flatMap.mpr ⟨ci, List.mem_of_getElem? h1, h2⟩)
  have at_ : ∀ {c ci}, G.cls[c]? = some ci → (tabOf G K).cls c = He.ga K ci.name := fun {c ci} h1 => by
    show clsAt G K c = _
    unfold clsAt; rw [h1]
  refine ⟨rfl, fun x d hx => ?_, fun x hx => ?_, fun x c ci hx hc => ?_, fun c ci hc => ?_, fun c ci f hc hf => ?_, fun c ci m i fi hc hm hi => ?_, fun c ci m i fi hc hm hi => ?_, fun c ci f v hc hf => ?_, fun c ci i fi hc hm hi => ?_, fun x i fi hx hi => ?_, fun i fi hi => ?_⟩
  · have m := lookup_mem' hx
    have b := List.all_eq_true.mp hg1 _ m
    cases d with
    | str z =>
      obtain ⟨t, e⟩ := He.str_ok X N (factH (f := .str x (stS z)) (List.mem_append_left _ (List.mem_append_left _ (List.mem_filterMap.mpr ⟨_, m, rfl⟩))))
      exact ⟨.str (stS z), _, e, ⟨t, rfl⟩, fun F ρ => .str z⟩
    | int i =>
      obtain ⟨t, e⟩ := He.int_ok X N (factH (f := .int x i) (List.mem_append_left _ (List.mem_append_left _ (List.mem_filterMap.mpr ⟨_, m, rfl⟩))))
      exact ⟨.int i, _, e, ⟨t, rfl⟩, fun F ρ => .int i⟩
    | _ => cases b
  · exact He.free_ok X N (factH (f := .free x) (List.mem_append_left _ (List.mem_append_right _ (List.mem_map.mpr ⟨x, hx, rfl⟩))))
  · have m := lookup_mem' hx
    have b : (match G.cls[c]? with
      | some ci => decide (ci.name = x)
      | none => true) = true := List.all_eq_true.mp hg1 _ m
    rw [hc] at b
    have e : ci.name = x := of_decide_eq_true b
    have := He.glo_ok X N (factH (f := .glo x) (List.mem_append_left _ (List.mem_append_left _ (List.mem_filterMap.mpr ⟨_, m, rfl⟩))))
    show mg x = some (.ref ((tabOf G K).cls c))
    rw [at_ hc, e]; exact this
  · show L2.Cls K ((tabOf G K).cls c)
    rw [at_ hc]
    exact He.cls_ok (factH (inC hc List.mem_cons_self))
  · show L2.NoAttr K ((tabOf G K).cls c) f
    rw [at_ hc]
    exact He.noat_ok (factH (inC hc (List.mem_cons_of_mem _ (List.mem_append_left _ (List.mem_append_left _ (List.mem_append_left _ (List.mem_append_left _ (List.mem_map.mpr ⟨f, hf, rfl⟩))))))))
  · have m1 := lookup_mem' hm
    have b := (He.ba (List.all_eq_true.mp hg2 ci (List.mem_of_getElem? hc))).1
    have e := plB_ok (List.all_eq_true.mp b _ m1) hi
    show L2.Meth K ((tabOf G K).cls c) m (fi.d.at_.ad K)
    rw [at_ hc, e]
    exact He.meth_ok (factH (inC hc (List.mem_cons_of_mem _ (List.mem_append_left _ (List.mem_append_left _ (List.mem_append_left _ (List.mem_append_right _ (List.mem_map.mpr ⟨_, m1, rfl⟩))))))))
  · have m1 := lookup_mem' hm
    have b := (He.ba (He.ba (List.all_eq_true.mp hg2 ci (List.mem_of_getElem? hc))).2).1
    have e := plB_ok (List.all_eq_true.mp b _ m1) hi
    show ∃ p, L2.PropOf K ((tabOf G K).cls c) m p (fi.d.at_.ad K)
    rw [at_ hc, e]
    exact ⟨_, prop_ok (fact (inC hc (List.mem_cons_of_mem _ (List.mem_append_left _ (List.mem_append_left _ (List.mem_append_right _ (List.mem_map.mpr ⟨_, m1, rfl⟩)))))))⟩
  · have m1 := lookup_mem' hf
    show ∃ u, L2.Con K ((tabOf G K).cls c) f v.v u
    rw [at_ hc]
    exact con_ok (fact (inC hc (List.mem_cons_of_mem _ (List.mem_append_left _ (List.mem_append_right _ (List.mem_map.mpr ⟨_, m1, rfl⟩))))))
  · have b := (He.ba (He.ba (List.all_eq_true.mp hg2 ci (List.mem_of_getElem? hc))).2).2
    rw [hm] at b
    have e := plB_ok b hi
    show L2.Mk K ((tabOf G K).cls c) (fi.d.at_.ad K)
    rw [at_ hc, e]
    exact He.mkr_ok (factH (inC hc (List.mem_cons_of_mem _ (List.mem_append_right _ (by rw [hm]; exact List.mem_singleton_self _)))))
  · have m := lookup_mem' hx
    have b : plB G i (.glo x) = true := List.all_eq_true.mp hg1 _ m
    have e := plB_ok b hi
    have := He.glo_ok X N (factH (f := .glo x) (List.mem_append_left _ (List.mem_append_left _ (List.mem_filterMap.mpr ⟨_, m, rfl⟩))))
    show mg x = some (.ref (fi.d.at_.ad K))
    rw [e]
    exact this
  · have m : fi ∈ G.fns := List.mem_of_getElem? hi
    obtain ⟨fd, F⟩ := c.defs (d := fi.d) (List.mem_map.mpr ⟨fi, m, rfl⟩)
    obtain ⟨h1, h2⟩ := hd fi m
    refine ⟨fd, F, fun Fz ρ => ?_, fun sh hsh e => ?_⟩
    · have e : fi.d.dvs K = [] := by unfold DefX.dvs; rw [h1]; rfl
      show RepL _ Fz ρ (fi.d.dvs K) fi.dfl
      rw [e, h2]; exact .nil
    · exact (hs sh hsh fi (by rw [e]; exact hi)).ok h1 F
/-- what the law's end wants -/
theorem law_facts {G : Pg} {M W n iL : Nat} {fi : FnI} {K : PySem.W.Frag} {h : Heap} {mg : Str → Option Value} {fa : Addr} {l : PySem.W.OpenLaw} {w : World} {x y : Str} (X : K.In h) (N : h.Ns mainGlobals mg) (hfa : mg x = some (.ref fa)) (c : SaysX (faOf G) (fnsD G) K) (hg : gloB G = true)
    (hd : ∀ fi ∈ G.fns, fi.d.dfl = [] ∧ fi.dfl = []) (hs : ∀ sh ∈ G.shp, ∀ fi, G.fns[sh.fn]? = some fi → ShN fi sh) (hx : G.glo.lookup x = some (.fn iL)) (hi : G.fns[iL]? = some fi) (hps : fi.ps = [y]) (hb : ShN fi ⟨iL, 1, [], [0]⟩)
    (law : ∀ ns : List Int, ns.length ≤ 63 → ∃ cs, runF G M W n iL [.scr ns] [] = .ok (.bl true) cs) :
    ∃ (fd : FuncData) (sp : L2.Sp), (∀ (s : Shared) (u : Value), BindsTo s fd ⟨[u], []⟩ [(y, u)]) ∧
        (∀ (H : L2.Hp) (a : Addr) (ns : List Int), ns.length ≤ 63 → L2.SqL K H a (ns.map L2.V.int) → sp [.ref a] H (fun v _ => v = .bl true) fun _ _ _ => False) ∧
        ∀ base : Heap, K.In base → base.Ns mainGlobals mg → L2.FnOk l.prog w K mg base (L2.CX l.prog w) (2 * n) fa fd [y] sp := by
  have g0 := pgOk_of (P := l.prog) (w := w) (base := h) X N c hg hd hs
  obtain ⟨fd, FD, _, _⟩ := g0.fns iL fi hi
  have e := hfa.symm.trans (g0.fn x iL fi hx hi)
  have e : fa = fi.d.ad K := by
    have e := Option.some.inj e
    exact Value.ref.inj e
  subst e
  refine ⟨fd, spEv (tabOf G K) (runF G M W n iL) 1, fun s u => ?_, fun H a ns hl hS => sp_law hS (law ns hl), fun base X' N' => ?_⟩
  · have e2 : fi.d.dvs K = [] := by unfold DefX.dvs; rw [(hd fi (List.mem_of_getElem? hi)).1]; rfl
    rw [show (wdOf G l.prog w K mg h).K = K from rfl, e2] at FD
    obtain ⟨oc, od, dV, kV, doc, pm, an, cdv, ct, osl, rfl, lk, hcd, hD, hK⟩ := FD.ex
    rcases hD with ⟨_, rfl⟩ | ⟨e, _⟩
    · have := hb kV doc pm an cdv ct [u] [] rfl rfl
      rw [hps] at this
      exact .of_eq this
    · exact absurd rfl e
  · have g1 := pgOk_of (P := l.prog) (w := w) (base := base) X' N' c hg hd hs
    have := runF_ok (M := M) (W := W) g1 n iL fi fd hi FD
    rw [hps] at this
    exact this
/-- a law's end; what is raised lies as L2.CX says -/
theorem walk_w {l : PySem.W.OpenLaw} {n k : Nat} {q : Program} {loose : List Str} {XP : (Str → Option Value) → Heap → Prop} {YP : World → Heap → Prop} {d : DefRec} {x : Str} (hn : l.most = some n) (hn2 : n ≤ sizeLine) (hdf : d.params.defaults = []) (hr : L2.Room k callerA)
    (body : ∀ (w : World) (mg : Str → Option Value) (fa : Addr) (h : Heap), YP w h → h.Ns mainGlobals mg → mg d.name = some (.ref fa) → ∃ (K : PySem.W.Frag) (fd : FuncData) (sp : L2.Sp), K.In h ∧ (∀ (s : Shared) (u : Value), BindsTo s fd ⟨[u], []⟩ [(x, u)]) ∧
      (∀ (H : L2.Hp) (a : Addr) (ns : List Int), ns.length ≤ n → L2.SqL K H a (ns.map L2.V.int) → sp [.ref a] H (fun v _ => v = .bl true) fun _ _ _ => False) ∧ ∀ base : Heap, K.In base → base.Ns mainGlobals mg → L2.FnOk l.prog w K mg base (L2.CX l.prog w) k fa fd [x] sp) :
    PySem.W.WalkO q loose XP YP l.row.toRowW d [] (fun f vs => PySem.call f vs) := by
  refine Att.attach_call hn hdf fun w _ s1 mg _ fa _ _ _ _ a vs ns gr yy _ _ _ hmg obj hin len gens => ?_
  obtain ⟨K, fd, sp, kin, bind, prom, ok⟩ := body w mg fa _ yy gr.T.g hmg
  exact L2.law_call kin gr.T.g gr.T.b gr.T.builtins gr.T.nolimit gens obj hin (Nat.le_trans len hn2) hr ok bind (fun H _ sq => prom H a ns len sq) fun H e s' ⟨_, _, _, _, _, _, _, _, _, _, _, _, z⟩ => z
end U

/-! U22: what runs give, step by step. -/
namespace U
open PySem PySem.Spec PyProof.Rows

def MW {α : Type} (m : M α) (s : S) (Q : α → S → Prop) : Prop := match m s with
  | .ok a s' => Q a s'
  | _ => False
def FW (r : FR) (Q : D → List Cell → Prop) : Prop := match r with
  | .ok d cs => Q d cs
  | _ => False
def SW (m : MS) (s : S) (N : S → Prop) (R : D → S → Prop) : Prop := match m s with
  | .nx s' => N s'
  | .rt d s' => R d s'
  | _ => False
theorem MW.imp {α : Type} {m : M α} {s : S} {Q Q' : α → S → Prop} (h : MW m s Q) (i : ∀ a s', Q a s' → Q' a s') : MW m s Q' := by
  unfold MW at h ⊢
  split at h
  · exact i _ _ h
  · exact h.elim
theorem FW.imp {r : FR} {Q Q' : D → List Cell → Prop} (h : FW r Q) (i : ∀ a s', Q a s' → Q' a s') : FW r Q' := by
  unfold FW at h ⊢
  split at h
  · exact i _ _ h
  · exact h.elim
theorem FW.ex {r : FR} {Q : D → List Cell → Prop} (h : FW r Q) : ∃ d cs, r = .ok d cs ∧ Q d cs := by
  unfold FW at h
  split at h
  · exact ⟨_, _, rfl, h⟩
  · exact h.elim
theorem SW.imp {m : MS} {s : S} {N N' : S → Prop} {R R' : D → S → Prop} (h : SW m s N R) (i : ∀ s', N s' → N' s') (j : ∀ d s', R d s' → R' d s') : SW m s N' R' := by
  unfold SW at h ⊢
  split at h
  · exact i _ h
  · exact j _ _ h
  · exact h.elim
section
variable {α β : Type} {s : S}
@[simp] theorem MW_pure {a : α} {Q : α → S → Prop} : MW (mPure a) s Q = Q a s := rfl
theorem MW_ok {a : α} {s' : S} {m : M α} {Q : α → S → Prop} (e : m s = .ok a s') : MW m s Q = Q a s' := by unfold MW; rw [e]
@[simp] theorem MW_bind {m : M α} {f : α → M β} {Q : β → S → Prop} : MW (mBind m f) s Q = MW m s fun a s' => MW (f a) s' Q := by
  unfold MW mBind
  cases m s <;> rfl
@[simp] theorem MW_nil {α : Type} {Q : List α → S → Prop} : MW (mSeq []) s Q = Q [] s := rfl
@[simp] theorem MW_cons {α : Type} {m : M α} {r : List (M α)} {Q : List α → S → Prop} : MW (mSeq (m :: r)) s Q = MW m s fun d s' => MW (mSeq r) s' fun ds s'' => Q (d :: ds) s'' := by
  show MW (mBind m fun d => mBind (mSeq r) fun ds => mPure (d :: ds)) s Q = _
  rw [MW_bind]
  congr 1; funext d s'
  rw [MW_bind]; rfl
@[simp] theorem MW_tru {m : M D} {f : D → Bool → M D} {Q : D → S → Prop} : MW (mTru m f) s Q = MW m s fun d s' => match truB s' d with
    | some k => MW (f d k) s' Q
    | none => False := by
  unfold mTru
  rw [MW_bind]
  congr 1; funext d s'
  cases e : truB s' d <;> simp [MW, e]
theorem truD_eq (d : D) : truD d s = match truB s d with
  | some k => .ok k s
  | none => .bad := by
  unfold truD truB
  cases d with
  | str x => dsimp only; split <;> rfl
  | ob n => dsimp only; cases s.lc n <;> rfl
  | _ => rfl
@[simp] theorem MW_truD {d : D} {Q : Bool → S → Prop} : MW (truD d) s Q = match truB s d with
    | some k => Q k s
    | none => False := by
  unfold MW
  rw [truD_eq]
  cases truB s d <;> rfl
@[simp] theorem MW_not {m : M Bool} {Q : Bool → S → Prop} : MW (mNot m) s Q = MW m s fun k s' => Q (!k) s' := by
  unfold mNot; rw [MW_bind]; rfl
@[simp] theorem MW_ite {t : M Bool} {a b : M α} {Q : α → S → Prop} : MW (mIte t a b) s Q = MW t s fun k s' => if k = true then MW a s' Q else MW b s' Q := by
  unfold mIte; rw [MW_bind]
  congr 1; funext k s'
  cases k <;> rfl
@[simp] theorem MW_or1 {m : M Bool} {Q : Bool → S → Prop} : MW (mOrT [m]) s Q = MW m s Q := rfl
@[simp] theorem MW_or {m m2 : M Bool} {r : List (M Bool)} {Q : Bool → S → Prop} : MW (mOrT (m :: m2 :: r)) s Q = MW m s fun k s' => if k = true then Q true s' else MW (mOrT (m2 :: r)) s' Q := by
  show MW (mBind m fun b => if b then mPure true else mOrT (m2 :: r)) s Q = _
  rw [MW_bind]
  congr 1; funext k s'
  cases k <;> rfl
@[simp] theorem MW_and1 {m : M Bool} {Q : Bool → S → Prop} : MW (mAndT [m]) s Q = MW m s Q := rfl
@[simp] theorem MW_and {m m2 : M Bool} {r : List (M Bool)} {Q : Bool → S → Prop} : MW (mAndT (m :: m2 :: r)) s Q = MW m s fun k s' => if k = true then MW (mAndT (m2 :: r)) s' Q else Q false s' := by
  show MW (mBind m fun b => if b then mAndT (m2 :: r) else mPure false) s Q = _
  rw [MW_bind]
  congr 1; funext k s'
  cases k <;> rfl
@[simp] theorem MW_andV1 {m : M D} {Q : D → S → Prop} : MW (mAndV [m]) s Q = MW m s Q := rfl
@[simp] theorem MW_andV {m m2 : M D} {r : List (M D)} {Q : D → S → Prop} : MW (mAndV (m :: m2 :: r)) s Q = MW m s fun d s' => match truB s' d with
    | some k => if k = true then MW (mAndV (m2 :: r)) s' Q else Q d s'
    | none => False := by
  show MW (mTru m fun d k => if k then mAndV (m2 :: r) else mPure d) s Q = _
  rw [MW_tru]
  congr 1; funext d s'
  cases truB s' d with
  | none => rfl
  | some k => cases k <;> rfl
@[simp] theorem MW_orV1 {m : M D} {Q : D → S → Prop} : MW (mOrV [m]) s Q = MW m s Q := rfl
@[simp] theorem MW_orV {m m2 : M D} {r : List (M D)} {Q : D → S → Prop} : MW (mOrV (m :: m2 :: r)) s Q = MW m s fun d s' => match truB s' d with
    | some k => if k = true then Q d s' else MW (mOrV (m2 :: r)) s' Q
    | none => False := by
  show MW (mTru m fun d k => if k then mPure d else mOrV (m2 :: r)) s Q = _
  rw [MW_tru]
  congr 1; funext d s'
  cases truB s' d with
  | none => rfl
  | some k => cases k <;> rfl
@[simp] theorem MW_asB {b : Bool} {Q : Bool → S → Prop} : MW (asB (.bl b)) s Q = Q b s := rfl
@[simp] theorem MW_asI {i : Int} {Q : Option Int → S → Prop} : MW (asI (.int i)) s Q = Q (some i) s := rfl
@[simp] theorem MW_chain {ma mb mc : M D} {g g' : D → D → M D} {Q : D → S → Prop} : MW (mChain ma mb mc g g') s Q = MW ma s fun x s1 => MW mb s1 fun y s2 => MW (g x y) s2 fun z s3 => MW (asB z) s3 fun k s4 => if k = true then MW mc s4 fun w s5 => MW (g' y w) s5 Q else Q z s4 := by
  unfold mChain
  simp only [MW_bind]
  congr 1; funext x s1; congr 1; funext y s2; congr 1; funext z s3; congr 1; funext k s4
  cases k <;> simp [MW_bind, MW_pure]
@[simp] theorem MW_chainT {ma mb mc : M D} {g g' : D → D → M D} {Q : Bool → S → Prop} : MW (mChainT ma mb mc g g') s Q = MW ma s fun x s1 => MW mb s1 fun y s2 => MW (g x y) s2 fun z s3 => MW (asB z) s3 fun k s4 => if k = true then MW mc s4 fun w s5 => MW (g' y w) s5 fun v s6 => MW (asB v) s6 Q else Q false s4 := by
  unfold mChainT
  simp only [MW_bind]
  congr 1; funext x s1; congr 1; funext y s2; congr 1; funext z s3; congr 1; funext k s4
  cases k <;> simp [MW_bind, MW_pure]
@[simp] theorem MW_opt {o : Option α} {Q : α → S → Prop} : MW (mOpt o) s Q = match o with
    | some a => Q a s
    | none => False := by cases o <;> rfl
theorem MW_call {calls : Calls} {i : Nat} {dfl : List D} {sh : Shp} {as ks : List D} {Q : D → S → Prop} : MW (callD calls i dfl sh as ks) s Q = (as.length = sh.n ∧ ks.length = sh.ks.length ∧ FW (calls i (permL sh.perm (as ++ ks ++ dfl) .non) s.cs) fun d cs => Q d { s with cs := cs }) := by
  unfold callD MW
  dsimp only
  split
  · rename_i h
    have h' : as.length = sh.n ∧ ks.length = sh.ks.length := by
      by_cases g : as.length = sh.n ∧ ks.length = sh.ks.length
      · exact g
      · rw [if_neg g] at h; cases h
    rw [if_pos h'] at h
    unfold liftF at h
    split at h
    · cases h
    · rename_i e; cases h; rw [e]; simp [FW, h']
    · cases h
  · rename_i h
    by_cases g : as.length = sh.n ∧ ks.length = sh.ks.length
    · rw [if_pos g] at h
      unfold liftF at h
      split at h
      · rename_i e; rw [e]; simp [FW]
      · rename_i e; exact absurd rfl (h _ _)
      · rename_i e; rw [e]; simp [FW]
    · simp only [eq_iff_iff, false_iff]
      exact fun z => g ⟨z.1, z.2.1⟩
@[simp] theorem MW_L {m : M (List D)} {Q : D → S → Prop} : MW (mL m) s Q = MW m s fun ds s' => Q (.lst ds) s' := by unfold mL; rw [MW_bind]; rfl
@[simp] theorem MW_cell {m : M (List D)} {Q : D → S → Prop} : MW (mCell m) s Q = MW m s fun ds s' => Q (.ob s'.cs.length) { s' with cs := s'.cs ++ [.L ds] } := by
  cases e : m s <;> simp [MW, mCell, e]
@[simp] theorem MW_guard {p : Prop} [Decidable p] {m : M α} {Q : α → S → Prop} : MW (if p then m else mBad) s Q = (p ∧ MW m s Q) := by
  by_cases h : p
  · rw [if_pos h]; simp [h]
  · rw [if_neg h]; simp [h, MW, mBad]
@[simp] theorem MW_chk {ds : List D} {Q : List D → S → Prop} : MW (mChk ds) s Q = (ds.length ≤ sizeLine ∧ Q ds s) := by unfold mChk; rw [MW_guard]; rfl
@[simp] theorem MW_tup {ds : List D} {Q : D → S → Prop} : MW (mTup ds) s Q = (ds.length ≤ sizeLine ∧ Q (.tup ds) s) := by unfold mTup; rw [MW_guard]; rfl
@[simp] theorem MW_mth {T : String} {mo : M D} {ma : M (List D)} {g : D → List D → M D} {Q : D → S → Prop} : MW (mMth T mo ma g) s Q = MW mo s fun d s' => isT T d s' = true ∧ MW ma s' fun ds s'' => MW (g d ds) s'' Q := by
  unfold mMth
  rw [MW_bind]
  congr 1; funext d s'
  by_cases h : isT T d s' = true
  · have : MW (fun s => if isT T d s = true then mBind ma (g d) s else .bad) s' Q = MW (mBind ma (g d)) s' Q := by simp [MW, h]
    rw [this, MW_bind]; simp [h]
  · have : MW (fun s => if isT T d s = true then mBind ma (g d) s else .bad) s' Q = False := by simp [MW, h]
    rw [this]; simp [h]
/-! statements -/
variable {N : S → Prop} {R : D → S → Prop}
@[simp] theorem SW_nil : SW (sSeq []) s N R = N s := rfl
@[simp] theorem SW_cons {m : MS} {r : List MS} : SW (sSeq (m :: r)) s N R = SW m s (fun s' => SW (sSeq r) s' N R) R := by
  unfold SW
  show (match (match m s with | .nx s' => sSeq r s' | x => x) with | .nx s' => N s' | .rt d s' => R d s' | _ => False) = _
  cases m s <;> rfl
@[simp] theorem SW_B {m : M α} {f : α → MS} : SW (sB m f) s N R = MW m s fun a s' => SW (f a) s' N R := by
  unfold SW MW sB
  cases m s <;> rfl
@[simp] theorem SW_rt {d : D} : SW (.rt d) s N R = R d s := rfl
@[simp] theorem SW_nx {f : S → S} : SW (fun s => .nx (f s)) s N R = N (f s) := rfl
@[simp] theorem SW_nx0 : SW .nx s N R = N s := rfl
@[simp] theorem SW_ite {t : M Bool} {a b : MS} : SW (sIte t a b) s N R = MW t s fun k s' => if k = true then SW a s' N R else SW b s' N R := by
  unfold sIte; rw [SW_B]
  congr 1; funext k s'
  cases k <;> rfl
@[simp] theorem SW_own {i : Nat} {ds : List D} : SW (setOwn i ds) s N R = N { s with sl := s.sl.set i (some (.own ds)) } := rfl
@[simp] theorem FW_end {b : MS} {Q : D → List Cell → Prop} : FW (endF (b s)) Q = SW b s (fun s' => Q .non s'.cs) fun d s' => Q d s'.cs := by
  unfold FW SW endF
  cases b s <;> rfl
@[simp] theorem SW_par {m : M (List D)} {is : List Nat} : SW (parM m is) s N R = MW m s fun ds s' => MW (setSlots is ds) s' fun _ s'' => N s'' := by
  unfold parM; rw [SW_B]
  congr 1; funext ds s'
  cases e : setSlots is ds s' <;> simp [SW, MW, e]
@[simp] theorem SW_asg {m : M D} {g : D → M Unit} : SW (asgM m g) s N R = MW m s fun d s' => MW (g d) s' fun _ s'' => N s'' := by
  unfold asgM; rw [SW_B]
  congr 1; funext ds s'
  cases e : g ds s' <;> simp [SW, MW, e]
@[simp] theorem MW_set {i : Nat} {d : D} {Q : Unit → S → Prop} : MW (setSlot i d) s Q = Q () { s with sl := s.sl.set i (some d) } := rfl
@[simp] theorem MW_sets0 {Q : Unit → S → Prop} : MW (setSlots [] []) s Q = Q () s := rfl
@[simp] theorem MW_sets {i : Nat} {is : List Nat} {d : D} {ds : List D} {Q : Unit → S → Prop} : MW (setSlots (i :: is) (d :: ds)) s Q = MW (setSlots is ds) { s with sl := s.sl.set i (some d) } Q := rfl
/-- for, by an invariant over what is left; a body that neither breaks nor goes on early -/
theorem SW_for {tgt : D → M Unit} {body : MS} (Inv : List D → S → Prop) (hstep : ∀ d r s, Inv (d :: r) s → MW (tgt d) s fun _ s1 => SW body s1 (Inv r) R) (hend : ∀ s, Inv [] s → N s) : ∀ (items : List D) (s : S), Inv items s → SW (forL tgt body items) s N R
  | [], s, h => hend s h
  | d :: r, s, h => by
    have h1 := hstep d r s h
    unfold SW forL
    unfold MW at h1
    split at h1
    · rename_i a s1 e
      unfold SW at h1
      rw [e]
      dsimp only
      split at h1
      · rename_i s2 e2
        rw [e2]
        exact SW_for Inv hstep hend r s2 h1
      · rename_i d2 s2 e2
        rw [e2]
        exact h1
      · exact h1.elim
    · exact h1.elim
/-! comprehensions -/
theorem lcL_inv {is : List Nat} {tgt : D → M Unit} {mt : M Bool} {me : M D} {Q : List D → S → Prop} (Inv : List D → List D → S → Prop)
    (hstep : ∀ d r acc s, Inv (d :: r) acc s → MW (tgt d) s fun _ s1 => MW mt s1 fun k s2 => if k = true then MW me s2 fun y s3 => acc.length < sizeLine ∧ Inv r (acc ++ [y]) (wipeS is s3) else Inv r acc (wipeS is s2)) (hend : ∀ acc s, Inv [] acc s → Q acc s) :
    ∀ (items acc : List D) (s : S), Inv items acc s → MW (lcL is tgt mt me items acc) s Q
  | [], acc, s, h => hend acc s h
  | d :: r, acc, s, h => by
    have h1 := hstep d r acc s h
    unfold MW
    rw [lcL_cons]
    unfold MW at h1
    split at h1
    · rename_i a s1 e1
      rw [e1]
      dsimp only
      split at h1
      · rename_i k s2 e2
        rw [e2]
        try dsimp only
        cases k with
        | true =>
          rw [if_pos rfl] at h1
          try dsimp only
          split at h1
          · rename_i y s3 e3
            rw [e3]
            dsimp only
            rw [if_pos h1.1]
            exact lcL_inv Inv hstep hend r _ _ h1.2
          · exact h1.elim
        | false =>
          rw [if_neg (by decide)] at h1
          exact lcL_inv Inv hstep hend r _ _ h1
      · exact h1.elim
    · exact h1.elim
@[simp] theorem MW_lc {is : List Nat} {mi : M (List D)} {tgt : D → M Unit} {mt : M Bool} {me : M D} {Q : List D → S → Prop} : MW (lcM is mi tgt mt me) s Q = MW mi s fun items s' => freeSlots is s' = true ∧ MW (lcL is tgt mt me items []) (wipeS is s') fun acc s'' => Q acc (backS is s' s'') := by
  unfold lcM
  rw [MW_bind]
  congr 1; funext items s'
  by_cases h : freeSlots is s' = true
  · cases e : lcL is tgt mt me items [] (wipeS is s') <;> simp [MW, h, e]
  · simp [MW, h]
/-- each element by itself, the state as it was -/
theorem lc_map {is : List Nat} {tgt : D → M Unit} {mt : M Bool} {me : M D} {Q : List D → S → Prop} {items : List D} {s0 : S} (f : D → D) (hl : items.length ≤ sizeLine)
    (h : ∀ d ∈ items, MW (tgt d) s0 fun _ s1 => MW mt s1 fun k s2 => k = true ∧ MW me s2 fun y s3 => y = f d ∧ wipeS is s3 = s0) (q : Q (items.map f) s0) : MW (lcL is tgt mt me items []) s0 Q := by
  refine lcL_inv (fun r acc s => s = s0 ∧ ∃ pre, items = pre ++ r ∧ acc = pre.map f) (fun d r acc s hi => ?_) (fun acc s hi => ?_) items [] s0 ⟨rfl, [], rfl, rfl⟩
  · obtain ⟨rfl, pre, e, rfl⟩ := hi
    refine (h d (by rw [e]; simp)).imp fun _ s1 h1 => h1.imp fun k s2 h2 => ?_
    rw [if_pos h2.1]
    refine h2.2.imp fun y s3 h3 => ⟨?_, h3.2, pre ++ [d], by rw [e]; simp, by rw [h3.1]; simp⟩
    rw [List.length_map]
    have := congrArg List.length e
    rw [List.length_append, List.length_cons] at this
    omega
  · obtain ⟨rfl, pre, e, rfl⟩ := hi
    rw [List.append_nil] at e
    rw [← e]; exact q
end
end U

/-! U23: rules of single operations, for simp. -/
namespace U
open PySem PySem.Spec PyProof.Rows
section
variable {s : S} {Q : D → S → Prop}
@[simp] theorem MW_peek {i : Nat} : MW (peek i) s Q = match s.sl[i]? with
    | some (some d) => Q d s
    | _ => False := by
  unfold MW peek
  cases s.sl[i]? with
  | none => rfl
  | some o => cases o <;> rfl
def frzD : D → D
  | .own xs => .lst xs
  | .ownI c fs => .ins c fs
  | d => d
@[simp] theorem MW_var {i : Nat} : MW (getVar i) s Q = match s.sl[i]? with
    | some (some d) => Q (frzD d) (if isOwn d = true then { s with sl := s.sl.set i (some (frzD d)) } else s)
    | _ => False := by
  unfold MW getVar
  cases s.sl[i]? with
  | none => rfl
  | some o => cases o with
    | none => rfl
    | some d => cases d <;> rfl
@[simp] theorem MW_slotV {i : Nat} : MW (slotV i) s Q = match s.sl[i]? with
    | some (some d) => isOwn d = false ∧ Q d s
    | _ => False := by
  cases e : s.sl[i]? with
  | none => simp [MW, slotV, e]
  | some o => cases o with
    | none => simp [MW, slotV, e]
    | some d => cases d <;> simp [MW, slotV, e, isOwn]
@[simp] theorem MW_idxO {n : Nat} {k : Int} : MW (idxD (.ob n) (.int k)) s Q = match (s.lc n).bind fun xs => L2.atI xs k with
    | some d => Q d s
    | none => False := by
  show MW (mOpt ((s.lc n).bind fun xs => L2.atI xs k)) s Q = _
  rw [MW_opt]; cases (s.lc n).bind fun xs => L2.atI xs k <;> rfl
@[simp] theorem MW_idxL {xs : List D} {k : Int} : MW (idxD (.lst xs) (.int k)) s Q = match L2.atI xs k with
    | some d => Q d s
    | none => False := by
  show MW (mOpt (L2.atI xs k)) s Q = _
  rw [MW_opt]; cases L2.atI xs k <;> rfl
@[simp] theorem MW_idxW {xs : List D} {k : Int} : MW (idxD (.own xs) (.int k)) s Q = match L2.atI xs k with
    | some d => Q d s
    | none => False := by
  show MW (mOpt (L2.atI xs k)) s Q = _
  rw [MW_opt]; cases L2.atI xs k <;> rfl
@[simp] theorem MW_idxT {xs : List D} {k : Int} : MW (idxD (.tup xs) (.int k)) s Q = match L2.atI xs k with
    | some d => Q d s
    | none => False := by
  show MW (mOpt (L2.atI xs k)) s Q = _
  rw [MW_opt]; cases L2.atI xs k <;> rfl
@[simp] theorem MW_idxS {z : List Nat} {k : Int} : MW (idxD (.str z) (.int k)) s Q = (z.length ≤ sizeLine ∧ match L2.atI z k with
    | some c => Q (.str [c]) s
    | none => False) := by
  by_cases h : z.length ≤ sizeLine
  · have : MW (idxD (.str z) (.int k)) s Q = MW (mOpt ((L2.atI z k).map fun c => D.str [c])) s Q := by simp [MW, idxD, h]
    rw [this, MW_opt]
    cases L2.atI z k <;> simp [h]
  · simp [MW, idxD, h]
/-! ints, texts -/
@[simp] theorem MW_addI {i j : Int} : MW (binD .Add (.int i) (.int j)) s Q = Q (.int (i + j)) s := rfl
@[simp] theorem MW_subI {i j : Int} : MW (binD .Sub (.int i) (.int j)) s Q = Q (.int (i - j)) s := rfl
@[simp] theorem MW_mulI {i j : Int} : MW (binD .Mult (.int i) (.int j)) s Q = ((in64 i || in64 j) = true ∧ Q (.int (i * j)) s) := by
  show MW (if (in64 i || in64 j) = true then mPure (.int (i * j)) else mBad) s Q = _
  rw [MW_guard]; rfl
@[simp] theorem MW_divI {i j : Int} : MW (binD .FloorDiv (.int i) (.int j)) s Q = ((0 < j ∧ j < 1073741824) ∧ Q (.int (i / j)) s) := by
  show MW (if 0 < j ∧ j < 1073741824 then mPure (.int (i / j)) else mBad) s Q = _
  rw [MW_guard]; rfl
@[simp] theorem MW_modI {i j : Int} : MW (binD .Mod (.int i) (.int j)) s Q = (0 < j ∧ Q (.int (i % j)) s) := by
  show MW (if 0 < j then mPure (.int (i % j)) else mBad) s Q = _
  rw [MW_guard]; rfl
@[simp] theorem MW_powI {i j : Int} : MW (binD .Pow (.int i) (.int j)) s Q = ((0 ≤ j ∧ j ≤ 1000000 ∧ i.natAbs < 2 ^ 64) ∧ Q (.int (i ^ j.toNat)) s) := by
  show MW (if 0 ≤ j ∧ j ≤ 1000000 ∧ i.natAbs < 2 ^ 64 then mPure (.int (i ^ j.toNat)) else mBad) s Q = _
  rw [MW_guard]; rfl
@[simp] theorem MW_shlI {i j : Int} : MW (binD .LShift (.int i) (.int j)) s Q = ((0 ≤ j ∧ j ≤ 1000000 ∧ i.natAbs < 2 ^ 64) ∧ Q (.int (i * 2 ^ j.toNat)) s) := by
  show MW (if 0 ≤ j ∧ j ≤ 1000000 ∧ i.natAbs < 2 ^ 64 then mPure (.int (i * 2 ^ j.toNat)) else mBad) s Q = _
  rw [MW_guard]; rfl
@[simp] theorem MW_shrI {i j : Int} : MW (binD .RShift (.int i) (.int j)) s Q = (0 ≤ j ∧ Q (.int (i / 2 ^ j.toNat)) s) := by
  show MW (if 0 ≤ j then mPure (.int (i / 2 ^ j.toNat)) else mBad) s Q = _
  rw [MW_guard]; rfl
@[simp] theorem MW_addS {x y : List Nat} : MW (binD .Add (.str x) (.str y)) s Q = (x.length + y.length ≤ sizeLine ∧ Q (.str (x ++ y)) s) := by
  show MW (if x.length + y.length ≤ sizeLine then mPure (.str (x ++ y)) else mBad) s Q = _
  rw [MW_guard]; rfl
@[simp] theorem MW_addL {x y : List D} : MW (binD .Add (.lst x) (.lst y)) s Q = (x.length + y.length ≤ sizeLine ∧ Q (.lst (x ++ y)) s) := by
  show MW (if x.length + y.length ≤ sizeLine then mPure (.lst (x ++ y)) else mBad) s Q = _
  rw [MW_guard]; rfl
@[simp] theorem MW_mulL {x : List D} {k : Int} : MW (binD .Mult (.lst x) (.int k)) s Q = ((in64 k = true ∧ -(2 ^ 63) ≤ k ∧ k < 2 ^ 63 ∧ x.length * k.toNat ≤ sizeLine) ∧ Q (.lst (List.replicate k.toNat x).flatten) s) := by
  show MW (if in64 k = true ∧ -(2 ^ 63) ≤ k ∧ k < 2 ^ 63 ∧ x.length * k.toNat ≤ sizeLine then mPure (.lst (List.replicate k.toNat x).flatten) else mBad) s Q = _
  rw [MW_guard]; rfl
@[simp] theorem MW_neg {i : Int} : MW (unD .USub (.int i)) s Q = Q (.int (-i)) s := rfl
@[simp] theorem MW_intI {i : Int} : MW (intD [.int i]) s Q = Q (.int i) s := rfl
@[simp] theorem MW_eqI {i j : Int} : MW (cmpD .Eq (.int i) (.int j)) s Q = Q (.bl (decide (i = j))) s := rfl
@[simp] theorem MW_neI {i j : Int} : MW (cmpD .NotEq (.int i) (.int j)) s Q = Q (.bl (!decide (i = j))) s := rfl
@[simp] theorem MW_ltI {i j : Int} : MW (cmpD .Lt (.int i) (.int j)) s Q = Q (.bl (decide (i < j))) s := rfl
@[simp] theorem MW_leI {i j : Int} : MW (cmpD .LtE (.int i) (.int j)) s Q = Q (.bl (decide (i ≤ j))) s := rfl
@[simp] theorem MW_gtI {i j : Int} : MW (cmpD .Gt (.int i) (.int j)) s Q = Q (.bl (decide (j < i))) s := rfl
@[simp] theorem MW_geI {i j : Int} : MW (cmpD .GtE (.int i) (.int j)) s Q = Q (.bl (decide (j ≤ i))) s := rfl
@[simp] theorem MW_eqB {i j : Bool} : MW (cmpD .Eq (.bl i) (.bl j)) s Q = Q (.bl (decide (i = j))) s := rfl
@[simp] theorem MW_neB {i j : Bool} : MW (cmpD .NotEq (.bl i) (.bl j)) s Q = Q (.bl (!decide (i = j))) s := rfl
@[simp] theorem MW_eqS {i j : List Nat} : MW (cmpD .Eq (.str i) (.str j)) s Q = Q (.bl (decide (i = j))) s := rfl
@[simp] theorem MW_neS {i j : List Nat} : MW (cmpD .NotEq (.str i) (.str j)) s Q = Q (.bl (!decide (i = j))) s := rfl
@[simp] theorem MW_inS {k : Nat} {z : List Nat} : MW (cmpD .In (.str [k]) (.str z)) s Q = Q (.bl (decide (k ∈ z))) s := rfl
@[simp] theorem MW_lenS {x : List Nat} : MW (lenD [.str x]) s Q = (x.length ≤ sizeLine ∧ Q (.int x.length) s) := by
  by_cases h : x.length ≤ sizeLine <;> simp [MW, lenD, h]
@[simp] theorem MW_lenL {xs : List D} : MW (lenD [.lst xs]) s Q = Q (.int xs.length) s := rfl
@[simp] theorem MW_lenT {xs : List D} : MW (lenD [.tup xs]) s Q = Q (.int xs.length) s := rfl
@[simp] theorem MW_lenC {xs : List Int} : MW (lenD [.scr xs]) s Q = Q (.int xs.length) s := rfl
@[simp] theorem MW_listL {xs : List D} : MW (listD [.lst xs]) s Q = Q (.lst xs) s := rfl
@[simp] theorem MW_listT {xs : List D} : MW (listD [.tup xs]) s Q = Q (.lst xs) s := rfl
@[simp] theorem MW_tupL {xs : List D} : MW (tupleD [.lst xs]) s Q = Q (.tup xs) s := rfl
@[simp] theorem MW_tupT {xs : List D} : MW (tupleD [.tup xs]) s Q = Q (.tup xs) s := rfl
@[simp] theorem MW_slcC {ns : List Int} {lo hi : Option Int} : MW (slcD (.scr ns) lo hi) s Q = Q (.lst ((cutI ns lo hi).map .int)) s := rfl
@[simp] theorem MW_slcS {z : List Nat} {lo hi : Option Int} : MW (slcD (.str z) lo hi) s Q = (z.length ≤ sizeLine ∧ Q (.str (cutN z lo hi)) s) := by
  by_cases h : z.length ≤ sizeLine <;> simp [MW, slcD, h]
@[simp] theorem MW_slcL {xs : List D} {lo hi : Option Int} : MW (slcD (.lst xs) lo hi) s Q = Q (.lst (cutD xs lo hi)) s := rfl
@[simp] theorem MW_slcT {xs : List D} {lo hi : Option Int} : MW (slcD (.tup xs) lo hi) s Q = Q (.tup (cutD xs lo hi)) s := rfl
theorem MW_isi {d : D} {n k : String} (h : kindS s d = some k) (ht : tyName (.ty n) = some n) : MW (isiD [d, .ty n]) s Q = Q (.bl (isKind k n)) s := by
  show MW (mOpt ((kindS s d).bind fun k => (tyName (.ty n)).map fun n => D.bl (isKind k n))) s Q = _
  rw [MW_opt, h, ht]; rfl
theorem MW_isiT {d : D} {ts : List D} {ns : List String} {k : String} (h : kindS s d = some k) (ht : tyNames ts = some ns) : MW (isiD [d, .tup ts]) s Q = Q (.bl (ns.any (isKind k))) s := by
  show MW (mOpt ((kindS s d).bind fun k => (tyNames ts).map fun ns => D.bl (ns.any (isKind k)))) s Q = _
  rw [MW_opt, h, ht]; rfl
theorem MW_all {xs : List D} {bs : List Bool} (h : asBls xs = some bs) : MW (onBls (fun bs => bs.all id) [.lst xs]) s Q = Q (.bl (bs.all id)) s := by
  show MW (mOpt ((some xs).bind fun xs => (asBls xs).map fun bs => D.bl (bs.all id))) s Q = _
  rw [MW_opt, Option.bind_some, h]; rfl
@[simp] theorem MW_itL {xs : List D} {Q : List D → S → Prop} : MW (itemsD (.lst xs)) s Q = Q xs s := rfl
@[simp] theorem MW_itT {xs : List D} {Q : List D → S → Prop} : MW (itemsD (.tup xs)) s Q = Q xs s := rfl
@[simp] theorem MW_itS {xs : List Nat} {Q : List D → S → Prop} : MW (itemsD (.str xs)) s Q = Q (signs xs) s := rfl
@[simp] theorem MW_r1 {j : Int} {Q : List D → S → Prop} : MW (range1D [.int j]) s Q = (in62 j = true ∧ Q (rangeL 0 j.toNat) s) := by
  show MW (if in62 j = true then mPure (rangeL 0 j.toNat) else mBad) s Q = _
  rw [MW_guard]; rfl
@[simp] theorem MW_zipL {xs ys : List D} {Q : List D → S → Prop} : MW (zipD [.lst xs, .lst ys]) s Q = Q (zipL xs ys) s := rfl
@[simp] theorem MW_zipT {xs ys : List D} {Q : List D → S → Prop} : MW (zipD [.tup xs, .tup ys]) s Q = Q (zipL xs ys) s := rfl
theorem MW_sset {d : D} {ys : List (List Nat)} (h : strsOf s d = some ys) (hl : ys.length < 64) : MW (sortedSetD d) s Q = Q (.lst ((sortS (dedS ys)).map .str)) s := by
  simp [MW, sortedSetD, h, hl]
@[simp] theorem SW_setIx {i : Nat} {k : Int} {d : D} {N : S → Prop} {R : D → S → Prop} : SW (setIx i (.int k) d) s N R = match mutOf i s with
    | some xs => (match L2.ixN xs.length k with
      | some n => N (mutTo i (xs.set n d) s)
      | none => False)
    | none => False := by
  cases e : mutOf i s with
  | none => simp [SW, setIx, e]
  | some xs => cases e2 : L2.ixN xs.length k <;> simp [SW, setIx, e, e2]
@[simp] theorem SW_setIxIf {i : Nat} {mb : M D} {d : D} {N : S → Prop} {R : D → S → Prop} : SW (fun s => if (s.sl[i]?).join.isSome then sB mb (fun k => setIx i k d) s else .bad) s N R = ((s.sl[i]?).join.isSome = true ∧ MW mb s fun k s' => SW (setIx i k d) s' N R) := by
  by_cases h : (s.sl[i]?).join.isSome = true
  · rw [← SW_B]; simp [SW, h]
  · simp [SW, h]
@[simp] theorem MW_asg {is : List Nat} {ds : List D} {Q : Unit → S → Prop} : MW (asgT (.tp is) (.tup ds)) s Q = MW (setSlots is ds) s Q := rfl
/-! places -/
@[simp] theorem atI_nat {α : Type} {xs : List α} {i : Nat} : L2.atI xs (i : Int) = xs[i]? := by
  unfold L2.atI L2.ixN
  rw [if_pos (Int.natCast_nonneg i)]
  by_cases h : i < xs.length
  · rw [if_pos (by omega)]; simp
  · rw [if_neg (by omega)]
    rw [List.getElem?_eq_none (by omega)]; rfl
@[simp] theorem atI_0 {α : Type} {a : α} {l : List α} : L2.atI (a :: l) 0 = some a := by
  have := @atI_nat α (a :: l) 0
  simpa using this
@[simp] theorem atI_1 {α : Type} {a b : α} {l : List α} : L2.atI (a :: b :: l) 1 = some b := by
  have := @atI_nat α (a :: b :: l) 1
  simpa using this
@[simp] theorem atI_2 {α : Type} {a b c : α} {l : List α} : L2.atI (a :: b :: c :: l) 2 = some c := by
  have := @atI_nat α (a :: b :: c :: l) 2
  simpa using this
@[simp] theorem atI_3 {α : Type} {a b c d : α} {l : List α} : L2.atI (a :: b :: c :: d :: l) 3 = some d := by
  have := @atI_nat α (a :: b :: c :: d :: l) 3
  simpa using this
@[simp] theorem atI_4 {α : Type} {a b c d e : α} {l : List α} : L2.atI (a :: b :: c :: d :: e :: l) 4 = some e := by
  have := @atI_nat α (a :: b :: c :: d :: e :: l) 4
  simpa using this
theorem ixN_nat {n i : Nat} (h : i < n) : L2.ixN n (i : Int) = some i := by
  unfold L2.ixN
  rw [if_pos (Int.natCast_nonneg i), if_pos (by omega)]; simp
@[simp] theorem ixN_0 {n : Nat} : L2.ixN (n + 1) 0 = some 0 := ixN_nat (i := 0) (by omega)
@[simp] theorem ixN_1 {n : Nat} : L2.ixN (n + 1 + 1) 1 = some 1 := ixN_nat (i := 1) (by omega)
@[simp] theorem ixN_2 {n : Nat} : L2.ixN (n + 1 + 1 + 1) 2 = some 2 := ixN_nat (i := 2) (by omega)
@[simp] theorem ixN_3 {n : Nat} : L2.ixN (n + 1 + 1 + 1 + 1) 3 = some 3 := ixN_nat (i := 3) (by omega)
@[simp] theorem ixN_4 {n : Nat} : L2.ixN (n + 1 + 1 + 1 + 1 + 1) 4 = some 4 := ixN_nat (i := 4) (by omega)
end
@[simp] theorem isT_str {z : List Nat} {s : S} : isT "str" (.str z) s = true := by simp [isT]
@[simp] theorem isT_lst {z : List D} {s : S} : isT "list" (.lst z) s = true := by simp [isT]
theorem asStrs_sing (w : List Nat) : asStrs (w.map fun k => D.str [k]) = some (w.map fun k => [k]) := by
  have := asStrs_map (w.map fun k => [k])
  rw [List.map_map] at this
  exact this
theorem joinN_nil : ∀ ys : List (List Nat), joinN [] ys = ys.flatten
  | [] => rfl
  | [p] => by simp [joinN]
  | p :: q :: r => by
    have := joinN_nil (q :: r)
    simp [joinN, this]
theorem MW_join0 {xs : List D} {ys : List (List Nat)} {s : S} {Q : D → S → Prop} (h : asStrs xs = some ys) (hl : (ys.map (·.length)).sum ≤ 16777216) : MW (joinD (.str []) [.lst xs]) s Q = Q (.str ys.flatten) s := by
  have h2 : strsOf s (.lst xs) = some ys := h
  have hl2 : (ys.map (·.length)).sum + ys.length * ([] : List Nat).length ≤ 16777216 := by simpa using hl
  simp [MW, joinD, h2, joinN_nil, hl]
theorem flat_sing : ∀ w : List Nat, (w.map fun k => [k]).flatten = w
  | [] => rfl
  | k :: w => by rw [List.map_cons, List.flatten_cons, flat_sing w]; rfl
theorem sum_sing : ∀ w : List Nat, ((w.map fun k => [k]).map (·.length)).sum = w.length
  | [] => rfl
  | k :: w => by
    rw [List.map_cons, List.map_cons, List.sum_cons, sum_sing w, List.length_cons]
    simp; omega
theorem MW_joinSing {w : List Nat} {s : S} {Q : D → S → Prop} (hl : w.length ≤ 1000) : MW (joinD (.str []) [.lst (w.map fun k => .str [k])]) s Q = Q (.str w) s := by
  rw [MW_join0 (asStrs_sing w) (by rw [sum_sing]; omega), flat_sing]
theorem cutN_lo {z : List Nat} {i : Nat} : cutN z none (some (i : Int)) = z.take i := by
  unfold cutN
  rw [HT.sIx_nat]
  simp [HT.sIx]
theorem cutN_hi {z : List Nat} {i : Nat} : cutN z (some (i : Int)) none = z.drop i := by
  unfold cutN
  rw [HT.sIx_nat]
  simp only [HT.sIx]
  by_cases h : i ≤ z.length
  · rw [Nat.min_eq_left h, List.take_of_length_le (by rw [List.length_drop]; omega)]
  · rw [Nat.min_eq_right (by omega), List.drop_length, List.take_nil, List.drop_eq_nil_of_le (by omega)]
@[simp] theorem MW_is {d : D} {n : String} {s : S} {Q : D → S → Prop} : MW (isiD [d, .ty n]) s Q = match (kindS s d).bind fun k => (tyName (.ty n)).map fun n => isKind k n with
    | some b => Q (.bl b) s
    | none => False := by
  show MW (mOpt ((kindS s d).bind fun k => (tyName (.ty n)).map fun n => D.bl (isKind k n))) s Q = _
  rw [MW_opt]
  cases kindS s d with
  | none => rfl
  | some k => cases tyName (.ty n) <;> rfl
@[simp] theorem MW_isT {d : D} {ts : List D} {s : S} {Q : D → S → Prop} : MW (isiD [d, .tup ts]) s Q = match (kindS s d).bind fun k => (tyNames ts).map fun ns => ns.any (isKind k) with
    | some b => Q (.bl b) s
    | none => False := by
  show MW (mOpt ((kindS s d).bind fun k => (tyNames ts).map fun ns => D.bl (ns.any (isKind k)))) s Q = _
  rw [MW_opt]
  cases kindS s d with
  | none => rfl
  | some k => cases tyNames ts <;> rfl
@[simp] theorem tyN (n : String) : tyName (.ty n) = if n = "int" ∨ n = "bool" ∨ n = "str" ∨ n = "list" ∨ n = "tuple" then some n else none := rfl
@[simp] theorem tyNs0 : tyNames [] = some [] := rfl
@[simp] theorem tyNs (d : D) (r : List D) : tyNames (d :: r) = match tyName d, tyNames r with
    | some n, some ns => some (n :: ns)
    | _, _ => none := rfl
def isNonD : D → Option Bool
  | .non => some true
  | .own _ => none
  | .ownI _ _ => none
  | _ => some false
@[simp] theorem MW_isN {d : D} {s : S} {Q : D → S → Prop} : MW (cmpD .Is d .non) s Q = match isNonD d with
    | some b => Q (.bl b) s
    | none => False := by cases d <;> rfl
@[simp] theorem MW_isNN {d : D} {s : S} {Q : D → S → Prop} : MW (cmpD .IsNot d .non) s Q = match isNonD d with
    | some b => Q (.bl (!b)) s
    | none => False := by cases d <;> rfl
@[simp] theorem lc_mk (sl : List (Option D)) (cs : List Cell) (n : Nat) : S.lc ⟨sl, cs⟩ n = (match cs[n]? with
  | some (.L xs) => some xs
  | _ => none) := rfl
/-! by constructor -/
@[simp] theorem isOwn_non : isOwn .non = false := rfl
@[simp] theorem frzD_non : frzD .non = .non := rfl
@[simp] theorem isNonD_non : isNonD .non = some true := rfl
@[simp] theorem kindE_non : kindD .non = some "NoneType" := rfl
@[simp] theorem kindF_non (s : S) : kindS s .non = some "NoneType" := rfl
@[simp] theorem truB_non (s : S) : truB s .non = some false := rfl
@[simp] theorem isOwn_bl (b : Bool) : isOwn (.bl b) = false := rfl
@[simp] theorem frzD_bl (b : Bool) : frzD (.bl b) = (.bl b) := rfl
@[simp] theorem isNonD_bl (b : Bool) : isNonD (.bl b) = some false := rfl
@[simp] theorem kindE_bl (b : Bool) : kindD (.bl b) = some "bool" := rfl
@[simp] theorem kindF_bl (s : S) (b : Bool) : kindS s (.bl b) = some "bool" := rfl
@[simp] theorem truB_bl (s : S) (b : Bool) : truB s (.bl b) = some b := rfl
@[simp] theorem isOwn_int (i : Int) : isOwn (.int i) = false := rfl
@[simp] theorem frzD_int (i : Int) : frzD (.int i) = (.int i) := rfl
@[simp] theorem isNonD_int (i : Int) : isNonD (.int i) = some false := rfl
@[simp] theorem kindE_int (i : Int) : kindD (.int i) = some "int" := rfl
@[simp] theorem kindF_int (s : S) (i : Int) : kindS s (.int i) = some "int" := rfl
@[simp] theorem truB_int (s : S) (i : Int) : truB s (.int i) = some (i != 0) := rfl
@[simp] theorem isOwn_str (z : List Nat) : isOwn (.str z) = false := rfl
@[simp] theorem frzD_str (z : List Nat) : frzD (.str z) = (.str z) := rfl
@[simp] theorem isNonD_str (z : List Nat) : isNonD (.str z) = some false := rfl
@[simp] theorem kindE_str (z : List Nat) : kindD (.str z) = some "str" := rfl
@[simp] theorem kindF_str (s : S) (z : List Nat) : kindS s (.str z) = some "str" := rfl
@[simp] theorem truB_str (s : S) (z : List Nat) : truB s (.str z) = if z.length ≤ sizeLine then some ((z.length : Int) != 0) else none := rfl
@[simp] theorem isOwn_lst (xs : List D) : isOwn (.lst xs) = false := rfl
@[simp] theorem frzD_lst (xs : List D) : frzD (.lst xs) = (.lst xs) := rfl
@[simp] theorem isNonD_lst (xs : List D) : isNonD (.lst xs) = some false := rfl
@[simp] theorem kindE_lst (xs : List D) : kindD (.lst xs) = some "list" := rfl
@[simp] theorem kindF_lst (s : S) (xs : List D) : kindS s (.lst xs) = some "list" := rfl
@[simp] theorem truB_lst (s : S) (xs : List D) : truB s (.lst xs) = some (!xs.isEmpty) := rfl
@[simp] theorem isOwn_tup (xs : List D) : isOwn (.tup xs) = false := rfl
@[simp] theorem frzD_tup (xs : List D) : frzD (.tup xs) = (.tup xs) := rfl
@[simp] theorem isNonD_tup (xs : List D) : isNonD (.tup xs) = some false := rfl
@[simp] theorem kindE_tup (xs : List D) : kindD (.tup xs) = some "tuple" := rfl
@[simp] theorem kindF_tup (s : S) (xs : List D) : kindS s (.tup xs) = some "tuple" := rfl
@[simp] theorem truB_tup (s : S) (xs : List D) : truB s (.tup xs) = some (!xs.isEmpty) := rfl
@[simp] theorem isOwn_own (xs : List D) : isOwn (.own xs) = true := rfl
@[simp] theorem frzD_own (xs : List D) : frzD (.own xs) = .lst xs := rfl
@[simp] theorem isNonD_own (xs : List D) : isNonD (.own xs) = none := rfl
@[simp] theorem kindE_own (xs : List D) : kindD (.own xs) = none := rfl
@[simp] theorem kindF_own (s : S) (xs : List D) : kindS s (.own xs) = none := rfl
@[simp] theorem truB_own (s : S) (xs : List D) : truB s (.own xs) = none := rfl
@[simp] theorem isOwn_ob (n : Nat) : isOwn (.ob n) = false := rfl
@[simp] theorem frzD_ob (n : Nat) : frzD (.ob n) = (.ob n) := rfl
@[simp] theorem isNonD_ob (n : Nat) : isNonD (.ob n) = some false := rfl
@[simp] theorem kindE_ob (n : Nat) : kindD (.ob n) = none := rfl
@[simp] theorem kindF_ob (s : S) (n : Nat) : kindS s (.ob n) = (s.lc n).map fun _ => "list" := rfl
@[simp] theorem truB_ob (s : S) (n : Nat) : truB s (.ob n) = (s.lc n).map fun xs => !xs.isEmpty := rfl
@[simp] theorem isOwn_scr (ns : List Int) : isOwn (.scr ns) = false := rfl
@[simp] theorem frzD_scr (ns : List Int) : frzD (.scr ns) = (.scr ns) := rfl
@[simp] theorem isNonD_scr (ns : List Int) : isNonD (.scr ns) = some false := rfl
@[simp] theorem kindE_scr (ns : List Int) : kindD (.scr ns) = none := rfl
@[simp] theorem kindF_scr (s : S) (ns : List Int) : kindS s (.scr ns) = none := rfl
@[simp] theorem truB_scr (s : S) (ns : List Int) : truB s (.scr ns) = none := rfl
@[simp] theorem isOwn_ty (n : String) : isOwn (.ty n) = false := rfl
@[simp] theorem frzD_ty (n : String) : frzD (.ty n) = (.ty n) := rfl
@[simp] theorem isNonD_ty (n : String) : isNonD (.ty n) = some false := rfl
@[simp] theorem kindE_ty (n : String) : kindD (.ty n) = none := rfl
@[simp] theorem kindF_ty (s : S) (n : String) : kindS s (.ty n) = none := rfl
@[simp] theorem truB_ty (s : S) (n : String) : truB s (.ty n) = none := rfl
@[simp] theorem isOwn_cls (c : Nat) : isOwn (.cls c) = false := rfl
@[simp] theorem frzD_cls (c : Nat) : frzD (.cls c) = (.cls c) := rfl
@[simp] theorem isNonD_cls (c : Nat) : isNonD (.cls c) = some false := rfl
@[simp] theorem kindE_cls (c : Nat) : kindD (.cls c) = none := rfl
@[simp] theorem kindF_cls (s : S) (c : Nat) : kindS s (.cls c) = none := rfl
@[simp] theorem truB_cls (s : S) (c : Nat) : truB s (.cls c) = none := rfl
@[simp] theorem isOwn_ins (c : Nat) (fs : List (Nat × D)) : isOwn (.ins c fs) = false := rfl
@[simp] theorem frzD_ins (c : Nat) (fs : List (Nat × D)) : frzD (.ins c fs) = (.ins c fs) := rfl
@[simp] theorem isNonD_ins (c : Nat) (fs : List (Nat × D)) : isNonD (.ins c fs) = some false := rfl
@[simp] theorem kindE_ins (c : Nat) (fs : List (Nat × D)) : kindD (.ins c fs) = none := rfl
@[simp] theorem kindF_ins (s : S) (c : Nat) (fs : List (Nat × D)) : kindS s (.ins c fs) = none := rfl
@[simp] theorem truB_ins (s : S) (c : Nat) (fs : List (Nat × D)) : truB s (.ins c fs) = none := rfl
@[simp] theorem isOwn_ownI (c : Nat) (fs : List (Nat × D)) : isOwn (.ownI c fs) = true := rfl
@[simp] theorem frzD_ownI (c : Nat) (fs : List (Nat × D)) : frzD (.ownI c fs) = .ins c fs := rfl
@[simp] theorem isNonD_ownI (c : Nat) (fs : List (Nat × D)) : isNonD (.ownI c fs) = none := rfl
@[simp] theorem kindE_ownI (c : Nat) (fs : List (Nat × D)) : kindD (.ownI c fs) = none := rfl
@[simp] theorem kindF_ownI (s : S) (c : Nat) (fs : List (Nat × D)) : kindS s (.ownI c fs) = none := rfl
@[simp] theorem truB_ownI (s : S) (c : Nat) (fs : List (Nat × D)) : truB s (.ownI c fs) = none := rfl
@[simp] theorem isKind_eq (a b : String) : isKind a b = (a == b || (a == "bool" && b == "int")) := rfl
@[simp] theorem mutOf_eq (i : Nat) (s : S) : mutOf i s = (match s.sl[i]? with
  | some (some (.own xs)) => some xs
  | some (some (.ob n)) => s.lc n
  | _ => none) := rfl
@[simp] theorem mutTo_eq (i : Nat) (xs : List D) (s : S) : mutTo i xs s = (match s.sl[i]? with
  | some (some (.own _)) => { s with sl := s.sl.set i (some (.own xs)) }
  | some (some (.ob n)) => { s with cs := s.cs.set n (.L xs) }
  | _ => s) := rfl
end U

/-! U24: equality of lists of texts. -/
namespace U
open PySem PySem.Spec PyProof.Rows
/-- signs that a text may have -/
def okS (y : List Nat) : Bool := y.all fun k => decide (k < 1114112)
theorem toPL_strs : ∀ ys : List (List Nat), toPL (ys.map .str) = some (ys.map fun y => .str (stS y))
  | [] => rfl
  | y :: r => by
    rw [List.map_cons]
    unfold toPL
    rw [toPL_strs r]; rfl
theorem canLay_strs : ∀ ys : List (List Nat), ys.all okS = true → PyData.canLayAll0 (ys.map fun y => .str (stS y)) = true
  | [], _ => by simp [PyData.canLayAll0]
  | y :: r, h => by
    rw [List.all_cons, Bool.and_eq_true] at h
    have ih := canLay_strs r h.2
    have hy : PyData.strOk (stS y) = true := by
      have := h.1
      unfold okS at this
      unfold PyData.strOk stS
      simpa using this
    rw [List.map_cons]
    unfold PyData.canLayAll0
    rw [ih, Bool.and_true]
    unfold PyData.canLay0
    exact hy
theorem depth_strs : ∀ ys : List (List Nat), PyData.depthAll (ys.map fun y => .str (stS y)) = 0
  | [] => by simp [PyData.depthAll]
  | y :: r => by
    rw [List.map_cons]
    unfold PyData.depthAll
    rw [depth_strs r]
    simp [PyData.depth]
theorem eqv_strs : ∀ xs ys : List (List Nat), PyData.eqvAll (xs.map fun y => .str (stS y)) (ys.map fun y => .str (stS y)) = decide (xs = ys)
  | [], [] => by simp [PyData.eqvAll]
  | [], _ :: _ => by simp [PyData.eqvAll]
  | _ :: _, [] => by simp [PyData.eqvAll]
  | x :: xs, y :: ys => by
    rw [List.map_cons, List.map_cons]
    unfold PyData.eqvAll
    rw [eqv_strs xs ys]
    have : PyData.eqv (.str (stS x)) (.str (stS y)) = decide (x = y) := by
      unfold PyData.eqv
      by_cases h : x = y
      · simp [h]
      · have h2 : stS x ≠ stS y := fun z => h (stS_inj.mp z)
        simp [h, h2]
    rw [this]
    by_cases h : x = y <;> simp [h]
theorem shaped_strs (ys : List (List Nat)) (h : ys.all okS = true) : SeqAt.shaped (.list (ys.map fun y => .str (stS y))) = true := by
  unfold SeqAt.shaped
  rw [Bool.and_eq_true, decide_eq_true_eq]
  refine ⟨?_, ?_⟩
  · unfold PyData.canLay0; exact canLay_strs ys h
  · unfold PyData.depth; rw [depth_strs]; decide
theorem MW_eqSL {xs ys : List (List Nat)} {s : S} {Q : D → S → Prop} (hx : xs.all okS = true) (hy : ys.all okS = true) : MW (cmpD .Eq (.lst (xs.map .str)) (.lst (ys.map .str))) s Q = Q (.bl (decide (xs = ys))) s := by
  have e : eqD (.lst (xs.map .str)) (.lst (ys.map .str)) = some (decide (xs = ys)) := by
    have e1 : eqD (.lst (xs.map .str)) (.lst (ys.map .str)) = eqvD (.lst (xs.map .str)) (.lst (ys.map .str)) := rfl
    rw [e1]
    unfold eqvD
    have t : ∀ zs : List (List Nat), toP (.lst (zs.map .str)) = some (.list (zs.map fun y => .str (stS y))) := fun zs => by
      unfold toP; rw [toPL_strs]; rfl
    rw [t, t]
    dsimp only
    rw [shaped_strs xs hx, shaped_strs ys hy]
    have : PyData.eqv (.list (xs.map fun y => .str (stS y))) (.list (ys.map fun y => .str (stS y))) = decide (xs = ys) := by
      unfold PyData.eqv; exact eqv_strs xs ys
    rw [this]; rfl
  show MW (mOpt ((eqS s (.lst (xs.map .str)) (.lst (ys.map .str))).map .bl)) s Q = _
  rw [show eqS s (.lst (xs.map .str)) (.lst (ys.map .str)) = eqD (.lst (xs.map .str)) (.lst (ys.map .str)) from rfl, e]; rfl
theorem sortS_ok {ys : List (List Nat)} (h : ys.all okS = true) : (sortS ys).all okS = true := by
  rw [List.all_eq_true] at h ⊢
  exact fun x hx => h x ((sortS_perm ys).mem_iff.mp hx)
theorem dedS_ok {ys : List (List Nat)} (h : ys.all okS = true) : (dedS ys).all okS = true := by
  rw [List.all_eq_true] at h ⊢
  exact fun x hx => h x ((dedS_mem x ys).mp hx)
end U

/-! U25: equality of plain data; changes of lists; more rules. -/
namespace U
open PySem PySem.Spec PyProof.Rows
mutual
/-- plain data with good texts -/
def okD : D → Bool
  | .non => true
  | .bl _ => true
  | .int _ => true
  | .str z => okS z
  | .lst xs => okL xs
  | .tup xs => okL xs
  | _ => false
def okL : List D → Bool
  | [] => true
  | d :: r => okD d && okL r
end
mutual
def depD : D → Nat
  | .lst xs => depL xs + 1
  | .tup xs => depL xs + 1
  | _ => 0
def depL : List D → Nat
  | [] => 0
  | d :: r => max (depD d) (depL r)
end
mutual
def eqG : D → D → Bool
  | .non, .non => true
  | .bl a, .bl b => a == b
  | .bl a, .int j => (if a then 1 else 0) == j
  | .int i, .bl b => i == (if b then 1 else 0)
  | .int i, .int j => i == j
  | .str x, .str y => decide (x = y)
  | .lst xs, .lst ys => eqGL xs ys
  | .tup xs, .tup ys => eqGL xs ys
  | _, _ => false
def eqGL : List D → List D → Bool
  | [], [] => true
  | x :: xs, y :: ys => eqG x y && eqGL xs ys
  | _, _ => false
end
theorem strOk_of {z : List Nat} (h : okS z = true) : PyData.strOk (stS z) = true := by
  unfold okS at h
  unfold PyData.strOk stS
  simpa using h
mutual
theorem okD_toP : ∀ d : D, okD d = true → ∃ p, toP d = some p ∧ p.canLay0 = true ∧ p.depth = depD d
  | .non, _ => ⟨_, by unfold toP; rfl, by unfold PyData.canLay0; rfl, by unfold PyData.depth depD; rfl⟩
  | .bl b, _ => ⟨_, by unfold toP; rfl, by unfold PyData.canLay0; rfl, by unfold PyData.depth depD; rfl⟩
  | .int i, _ => ⟨_, by unfold toP; rfl, by unfold PyData.canLay0; rfl, by unfold PyData.depth depD; rfl⟩
  | .str z, h => ⟨_, by unfold toP; rfl, by unfold PyData.canLay0; exact strOk_of (by simpa [okD] using h), by unfold PyData.depth depD; rfl⟩
  | .lst xs, h => by
    obtain ⟨ps, h1, h2, h3⟩ := okL_toP xs (by simpa [okD] using h)
    exact ⟨.list ps, by unfold toP; rw [h1]; rfl, by unfold PyData.canLay0; exact h2, by unfold PyData.depth depD; rw [h3]⟩
  | .tup xs, h => by
    obtain ⟨ps, h1, h2, h3⟩ := okL_toP xs (by simpa [okD] using h)
    exact ⟨.tuple ps, by unfold toP; rw [h1]; rfl, by unfold PyData.canLay0; exact h2, by unfold PyData.depth depD; rw [h3]⟩
  | .own _, h => by simp [okD] at h
  | .ob _, h => by simp [okD] at h
  | .scr _, h => by simp [okD] at h
  | .ty _, h => by simp [okD] at h
  | .cls _, h => by simp [okD] at h
  | .ins _ _, h => by simp [okD] at h
  | .ownI _ _, h => by simp [okD] at h
theorem okL_toP : ∀ ds : List D, okL ds = true → ∃ ps, toPL ds = some ps ∧ PyData.canLayAll0 ps = true ∧ PyData.depthAll ps = depL ds
  | [], _ => ⟨[], by unfold toPL; rfl, by unfold PyData.canLayAll0; rfl, by unfold PyData.depthAll depL; rfl⟩
  | d :: r, h => by
    have h : okD d = true ∧ okL r = true := by simpa [okL] using h
    obtain ⟨p, h1, h2, h3⟩ := okD_toP d h.1
    obtain ⟨ps, k1, k2, k3⟩ := okL_toP r h.2
    exact ⟨p :: ps, by unfold toPL; rw [h1, k1], by unfold PyData.canLayAll0; rw [h2, k2]; rfl, by unfold PyData.depthAll depL; rw [h3, k3]⟩
end
mutual
theorem eqv_eqG : ∀ (a b : D) (p q : PyData), toP a = some p → toP b = some q → PyData.eqv p q = eqG a b
  | .lst xs, .lst ys, p, q, h1, h2 => by
    unfold toP at h1 h2
    cases e1 : toPL xs with
    | none => rw [e1] at h1; cases h1
    | some ps =>
      cases e2 : toPL ys with
      | none => rw [e2] at h2; cases h2
      | some qs =>
        rw [e1] at h1; rw [e2] at h2; cases h1; cases h2
        unfold PyData.eqv eqG
        exact eqvL_eqG xs ys ps qs e1 e2
  | .tup xs, .tup ys, p, q, h1, h2 => by
    unfold toP at h1 h2
    cases e1 : toPL xs with
    | none => rw [e1] at h1; cases h1
    | some ps =>
      cases e2 : toPL ys with
      | none => rw [e2] at h2; cases h2
      | some qs =>
        rw [e1] at h1; rw [e2] at h2; cases h1; cases h2
        unfold PyData.eqv eqG
        exact eqvL_eqG xs ys ps qs e1 e2
  | .str x, .str y, p, q, h1, h2 => by
    simp [toP] at h1 h2
    subst h1; subst h2
    unfold PyData.eqv eqG
    by_cases h : x = y
    · simp [h]
    · have h2 : stS x ≠ stS y := fun z => h (stS_inj.mp z)
      simp [h, h2]
  | .lst xs, .tup ys, p, q, h1, h2 => by
    unfold toP at h1 h2
    cases e1 : toPL xs <;> rw [e1] at h1 <;> cases h1
    cases e2 : toPL ys <;> rw [e2] at h2 <;> cases h2
    unfold PyData.eqv eqG; rfl
  | .tup xs, .lst ys, p, q, h1, h2 => by
    unfold toP at h1 h2
    cases e1 : toPL xs <;> rw [e1] at h1 <;> cases h1
    cases e2 : toPL ys <;> rw [e2] at h2 <;> cases h2
    unfold PyData.eqv eqG; rfl
  | .lst xs, .non, p, q, h1, h2 | .lst xs, .bl _, p, q, h1, h2 | .lst xs, .int _, p, q, h1, h2 | .lst xs, .str _, p, q, h1, h2 | .tup xs, .non, p, q, h1, h2 | .tup xs, .bl _, p, q, h1, h2 | .tup xs, .int _, p, q, h1, h2 | .tup xs, .str _, p, q, h1, h2 => by
    unfold toP at h1 h2
    cases e1 : toPL xs <;> rw [e1] at h1 <;> cases h1
    cases h2
    unfold PyData.eqv eqG; rfl
  | .non, .lst ys, p, q, h1, h2 | .bl _, .lst ys, p, q, h1, h2 | .int _, .lst ys, p, q, h1, h2 | .str _, .lst ys, p, q, h1, h2 | .non, .tup ys, p, q, h1, h2 | .bl _, .tup ys, p, q, h1, h2 | .int _, .tup ys, p, q, h1, h2 | .str _, .tup ys, p, q, h1, h2 => by
    unfold toP at h1 h2
    cases e1 : toPL ys <;> rw [e1] at h2 <;> cases h2
    cases h1
    unfold PyData.eqv eqG; rfl
  | .non, .non, p, q, h1, h2 | .non, .bl _, p, q, h1, h2 | .non, .int _, p, q, h1, h2 | .non, .str _, p, q, h1, h2
  | .bl _, .non, p, q, h1, h2 | .bl _, .bl _, p, q, h1, h2 | .bl _, .int _, p, q, h1, h2 | .bl _, .str _, p, q, h1, h2
  | .int _, .non, p, q, h1, h2 | .int _, .bl _, p, q, h1, h2 | .int _, .int _, p, q, h1, h2 | .int _, .str _, p, q, h1, h2
  | .str _, .non, p, q, h1, h2 | .str _, .bl _, p, q, h1, h2 | .str _, .int _, p, q, h1, h2 => by
    simp [toP] at h1 h2
    subst h1; subst h2
    unfold PyData.eqv eqG; rfl
  | .own _, _, _, _, h, _ | .ob _, _, _, _, h, _ | .scr _, _, _, _, h, _ | .ty _, _, _, _, h, _ | .cls _, _, _, _, h, _ | .ins _ _, _, _, _, h, _ | .ownI _ _, _, _, _, h, _ => by simp [toP] at h
  | .non, .own _, _, _, _, h | .non, .ob _, _, _, _, h | .non, .scr _, _, _, _, h | .non, .ty _, _, _, _, h | .non, .cls _, _, _, _, h | .non, .ins _ _, _, _, _, h | .non, .ownI _ _, _, _, _, h
  | .bl _, .own _, _, _, _, h | .bl _, .ob _, _, _, _, h | .bl _, .scr _, _, _, _, h | .bl _, .ty _, _, _, _, h | .bl _, .cls _, _, _, _, h | .bl _, .ins _ _, _, _, _, h | .bl _, .ownI _ _, _, _, _, h
  | .int _, .own _, _, _, _, h | .int _, .ob _, _, _, _, h | .int _, .scr _, _, _, _, h | .int _, .ty _, _, _, _, h | .int _, .cls _, _, _, _, h | .int _, .ins _ _, _, _, _, h | .int _, .ownI _ _, _, _, _, h
  | .str _, .own _, _, _, _, h | .str _, .ob _, _, _, _, h | .str _, .scr _, _, _, _, h | .str _, .ty _, _, _, _, h | .str _, .cls _, _, _, _, h | .str _, .ins _ _, _, _, _, h | .str _, .ownI _ _, _, _, _, h
  | .lst _, .own _, _, _, _, h | .lst _, .ob _, _, _, _, h | .lst _, .scr _, _, _, _, h | .lst _, .ty _, _, _, _, h | .lst _, .cls _, _, _, _, h | .lst _, .ins _ _, _, _, _, h | .lst _, .ownI _ _, _, _, _, h
  | .tup _, .own _, _, _, _, h | .tup _, .ob _, _, _, _, h | .tup _, .scr _, _, _, _, h | .tup _, .ty _, _, _, _, h | .tup _, .cls _, _, _, _, h | .tup _, .ins _ _, _, _, _, h | .tup _, .ownI _ _, _, _, _, h => by simp [toP] at h
theorem eqvL_eqG : ∀ (xs ys : List D) (ps qs : List PyData), toPL xs = some ps → toPL ys = some qs → PyData.eqvAll ps qs = eqGL xs ys
  | [], [], ps, qs, h1, h2 => by
    unfold toPL at h1 h2; cases h1; cases h2; unfold PyData.eqvAll eqGL; rfl
  | [], y :: ys, ps, qs, h1, h2 => by
    unfold toPL at h1 h2; cases h1
    split at h2
    · cases h2; unfold PyData.eqvAll eqGL; rfl
    · cases h2
  | x :: xs, [], ps, qs, h1, h2 => by
    unfold toPL at h1 h2; cases h2
    split at h1
    · cases h1; unfold PyData.eqvAll eqGL; rfl
    · cases h1
  | x :: xs, y :: ys, ps, qs, h1, h2 => by
    unfold toPL at h1 h2
    split at h1
    · rename_i a as e1 e2
      cases h1
      split at h2
      · rename_i b bs e3 e4
        cases h2
        unfold PyData.eqvAll eqGL
        rw [eqv_eqG x y a b e1 e3, eqvL_eqG xs ys as bs e2 e4]
      · cases h2
    · cases h1
end
theorem scalD_eqG {a b : D} {k : Bool} (h : scalD a b = some k) : eqG a b = k := by
  cases a <;> cases b <;> simp [scalD] at h <;> subst h <;> simp [eqG] <;> try (rw [Bool.eq_iff_iff]; simp)
theorem eqD_eqG {a b : D} (ha : okD a = true) (hb : okD b = true) (da : depD a ≤ 64) (db : depD b ≤ 64) : eqD a b = some (eqG a b) := by
  unfold eqD
  cases e : scalD a b with
  | some k => rw [scalD_eqG e]
  | none =>
    obtain ⟨p, h1, h2, h3⟩ := okD_toP a ha
    obtain ⟨q, k1, k2, k3⟩ := okD_toP b hb
    have s1 : SeqAt.shaped p = true := by unfold SeqAt.shaped; rw [h2, Bool.true_and, h3]; exact decide_eq_true da
    have s2 : SeqAt.shaped q = true := by unfold SeqAt.shaped; rw [k2, Bool.true_and, k3]; exact decide_eq_true db
    simp only [eqvD, h1, k1, s1, s2, Bool.and_self, if_true]
    rw [eqv_eqG a b p q h1 k1]
mutual
theorem eqG_refl : ∀ d : D, okD d = true → eqG d d = true
  | .non, _ => by simp [eqG]
  | .bl b, _ => by simp [eqG]
  | .int i, _ => by simp [eqG]
  | .str z, _ => by simp [eqG]
  | .lst xs, h => by simp [eqG]; exact eqGL_refl xs (by simpa [okD] using h)
  | .tup xs, h => by simp [eqG]; exact eqGL_refl xs (by simpa [okD] using h)
  | .own _, h | .ob _, h | .scr _, h | .ty _, h | .cls _, h | .ins _ _, h | .ownI _ _, h => by simp [okD] at h
theorem eqGL_refl : ∀ ds : List D, okL ds = true → eqGL ds ds = true
  | [], _ => by simp [eqGL]
  | d :: r, h => by
    have h : okD d = true ∧ okL r = true := by simpa [okL] using h
    simp [eqGL, eqG_refl d h.1, eqGL_refl r h.2]
end
mutual
/-- no list is too long -/
def lenOk : D → Bool
  | .lst xs => decide (xs.length ≤ sizeLine) && lenL xs
  | .tup xs => decide (xs.length ≤ sizeLine) && lenL xs
  | _ => true
def lenL : List D → Bool
  | [] => true
  | d :: r => lenOk d && lenL r
end
theorem okL_mem : ∀ {xs : List D} {x : D}, okL xs = true → x ∈ xs → okD x = true
  | y :: r, x, h, hx => by
    have h : okD y = true ∧ okL r = true := by simpa [okL] using h
    rcases List.mem_cons.mp hx with rfl | hx
    · exact h.1
    · exact okL_mem h.2 hx
theorem lenL_mem : ∀ {xs : List D} {x : D}, lenL xs = true → x ∈ xs → lenOk x = true
  | y :: r, x, h, hx => by
    have h : lenOk y = true ∧ lenL r = true := by simpa [lenL] using h
    rcases List.mem_cons.mp hx with rfl | hx
    · exact h.1
    · exact lenL_mem h.2 hx
theorem depL_mem : ∀ {xs : List D} {x : D}, x ∈ xs → depD x ≤ depL xs
  | y :: r, x, hx => by
    rcases List.mem_cons.mp hx with rfl | hx
    · simp [depL]; omega
    · have := depL_mem hx
      simp [depL]; omega
theorem okD_own {d : D} (h : okD d = true) : isOwn d = false ∧ frzD d = d := by cases d <;> first | exact ⟨rfl, rfl⟩ | (simp [okD] at h)
theorem zip_self {xs : List D} {e : D} (h : e ∈ zipL xs xs) : ∃ x, x ∈ xs ∧ e = .tup [x, x] := by
  unfold zipL at h
  obtain ⟨i, hi⟩ := List.getElem?_of_mem h
  rw [List.getElem?_zipWith] at hi
  split at hi
  · rename_i x y h1 h2
    rw [h1] at h2; cases h2; cases hi
    exact ⟨x, List.mem_of_getElem? h1, rfl⟩
  · cases hi
theorem map_true (l : List D) : l.map (fun _ => D.bl true) = (List.replicate l.length true).map .bl := by
  rw [List.map_replicate, List.map_const']
section
variable {s : S} {Q : D → S → Prop}
theorem derS_of (s : S) {d : D} (h : okD d = true) : derS s d = d := by
  cases d with
  | ob n => simp [okD] at h
  | _ => rfl
theorem eqS_of (s : S) {a b : D} (ha : okD a = true) (hb : okD b = true) : eqS s a b = eqD a b := by
  unfold eqS eqD; rw [derS_of s ha, derS_of s hb]
theorem MW_eqG {a b : D} (ha : okD a = true) (hb : okD b = true) (da : depD a ≤ 64) (db : depD b ≤ 64) : MW (cmpD .Eq a b) s Q = Q (.bl (eqG a b)) s := by
  show MW (mOpt ((eqS s a b).map .bl)) s Q = _
  rw [eqS_of s ha hb, eqD_eqG ha hb da db]; rfl
theorem MW_neG {a b : D} (ha : okD a = true) (hb : okD b = true) (da : depD a ≤ 64) (db : depD b ≤ 64) : MW (cmpD .NotEq a b) s Q = Q (.bl (!(eqG a b))) s := by
  show MW (mOpt ((eqS s a b).map fun k => .bl (!k))) s Q = _
  rw [eqS_of s ha hb, eqD_eqG ha hb da db]; rfl
/-- a cell's list, compared -/
theorem MW_eqO {n : Nat} {xs : List D} {b : D} (hn : s.lc n = some xs) (ha : okD (.lst xs) = true) (hb : okD b = true) (da : depD (.lst xs) ≤ 64) (db : depD b ≤ 64) : MW (cmpD .Eq (.ob n) b) s Q = Q (.bl (eqG (.lst xs) b)) s := by
  show MW (mOpt ((eqS s (.ob n) b).map .bl)) s Q = _
  have e : eqS s (.ob n) b = some (eqG (.lst xs) b) := by
    have e1 : eqS s (.ob n) b = eqvD (derS s (.ob n)) (derS s b) := by unfold eqS; cases b <;> rfl
    have e2 : derS s (.ob n) = .lst xs := by unfold derS; dsimp only; rw [hn]
    rw [e1, e2, derS_of s hb]
    have := eqD_eqG ha hb da db
    unfold eqD at this
    have e3 : scalD (.lst xs) b = none := by cases b <;> rfl
    rw [e3] at this
    exact this
  rw [e]; rfl
theorem okL_strs : ∀ {ys : List (List Nat)}, ys.all okS = true → okL (ys.map .str) = true
  | [], _ => by simp [okL]
  | y :: r, h => by
    rw [List.all_cons, Bool.and_eq_true] at h
    rw [List.map_cons]; simp [okL, okD, h.1]; exact okL_strs h.2
theorem depL_strs : ∀ ys : List (List Nat), depL (ys.map .str) = 0
  | [] => by simp [depL]
  | y :: r => by rw [List.map_cons]; simp [depL, depD, depL_strs r]
theorem eqGL_strs : ∀ xs ys : List (List Nat), eqGL (xs.map .str) (ys.map .str) = decide (xs = ys)
  | [], [] => by simp [eqGL]
  | [], _ :: _ => by simp [eqGL]
  | _ :: _, [] => by simp [eqGL]
  | x :: xs, y :: ys => by
    rw [List.map_cons, List.map_cons]
    simp [eqGL, eqG, eqGL_strs xs ys]
/-! changes -/
@[simp] theorem MW_muV {m : Mu} {i : Nat} {ma : M (List D)} : MW (muV m i ma) s Q = ((mutOf i s).isSome = true ∧ MW ma s fun ds s' => MW (muEnd m i ds) s' Q) := by
  by_cases h : (mutOf i s).isSome = true
  · have : MW (muV m i ma) s Q = MW (mBind ma (muEnd m i)) s Q := by simp only [MW, muV, h, if_true]
    rw [this, MW_bind]; simp only [h, true_and]
  · have h' : (mutOf i s).isSome = false := by simpa using h
    simp only [MW, muV, h', Bool.false_eq_true, if_false, false_and]
theorem MW_muEnd {m : Mu} {i : Nat} {ds : List D} : MW (muEnd m i ds) s Q = match mutOf i s with
    | some xs => (match muD m xs ds with
      | some yd => Q yd.2 (mutTo i yd.1 s)
      | none => False)
    | none => False := by
  unfold MW muEnd
  cases mutOf i s with
  | none => rfl
  | some xs => dsimp only; cases muD m xs ds <;> rfl
@[simp] theorem MW_append {i : Nat} {d : D} : MW (muEnd .append i [d]) s Q = match mutOf i s with
    | some xs => xs.length < sizeLine ∧ Q .non (mutTo i (xs ++ [d]) s)
    | none => False := by
  rw [MW_muEnd]
  cases mutOf i s with
  | none => rfl
  | some xs =>
    dsimp only [muD]
    by_cases h : xs.length < sizeLine <;> simp [h]
@[simp] theorem MW_insert {i : Nat} {k : Int} {d : D} : MW (muEnd .insert i [.int k, d]) s Q = match mutOf i s with
    | some xs => (xs.length < sizeLine ∧ 0 ≤ k ∧ k < 2 ^ 63) ∧ Q .non (mutTo i (xs.take k.toNat ++ [d] ++ xs.drop k.toNat) s)
    | none => False := by
  rw [MW_muEnd]
  cases mutOf i s with
  | none => rfl
  | some xs =>
    dsimp only [muD]
    by_cases h : xs.length < sizeLine ∧ 0 ≤ k ∧ k < 2 ^ 63
    · rw [if_pos h]; simp only [h, true_and, and_self]
    · rw [if_neg h]; simp only [h, false_and]
@[simp] theorem MW_lenO {n : Nat} : MW (lenD [.ob n]) s Q = match s.lc n with
    | some xs => Q (.int xs.length) s
    | none => False := by
  unfold MW lenD mOpt; dsimp only; cases s.lc n <;> rfl
@[simp] theorem MW_tupO {n : Nat} : MW (tupleD [.ob n]) s Q = match s.lc n with
    | some xs => Q (.tup xs) s
    | none => False := by
  unfold MW tupleD mOpt; dsimp only; cases s.lc n <;> rfl
@[simp] theorem MW_listO {n : Nat} : MW (listD [.ob n]) s Q = match s.lc n with
    | some xs => Q (.lst xs) s
    | none => False := by
  unfold MW listD mOpt; dsimp only; cases s.lc n <;> rfl
@[simp] theorem MW_slcO {n : Nat} {lo hi : Option Int} : MW (slcD (.ob n) lo hi) s Q = match s.lc n with
    | some xs => Q (.lst (cutD xs lo hi)) s
    | none => False := by
  unfold MW slcD mOpt; dsimp only; cases s.lc n <;> rfl
@[simp] theorem MW_cat0 {Q : List D → S → Prop} : MW (mCat []) s Q = Q [] s := rfl
@[simp] theorem MW_cat {m : M (List D)} {r : List (M (List D))} {Q : List D → S → Prop} : MW (mCat (m :: r)) s Q = MW m s fun xs s' => MW (mCat r) s' fun ys s'' => Q (xs ++ ys) s'' := by
  rw [mCat_cons, MW_bind]
  congr 1; funext xs s'
  rw [MW_bind]; rfl
@[simp] theorem MW_one {m : M D} {Q : List D → S → Prop} : MW (mOne m) s Q = MW m s fun d s' => Q [d] s' := by
  unfold mOne; rw [MW_bind]; rfl
@[simp] theorem MW_starL {xs : List D} {Q : List D → S → Prop} : MW (starD (.lst xs)) s Q = Q xs s := rfl
@[simp] theorem MW_starT {xs : List D} {Q : List D → S → Prop} : MW (starD (.tup xs)) s Q = Q xs s := rfl
@[simp] theorem MW_addT {x y : List D} : MW (binD .Add (.tup x) (.tup y)) s Q = (x.length + y.length ≤ sizeLine ∧ Q (.tup (x ++ y)) s) := by
  show MW (if x.length + y.length ≤ sizeLine then mPure (.tup (x ++ y)) else mBad) s Q = _
  rw [MW_guard]; rfl
@[simp] theorem MW_enumL {xs : List D} {Q : List D → S → Prop} : MW (enumD [.lst xs]) s Q = Q (enumL xs) s := rfl
@[simp] theorem MW_enumT {xs : List D} {Q : List D → S → Prop} : MW (enumD [.tup xs]) s Q = Q (enumL xs) s := rfl
@[simp] theorem MW_intB {b : Bool} : MW (intD [.bl b]) s Q = Q (.int (if b then 1 else 0)) s := rfl
@[simp] theorem MW_strS {z : List Nat} : MW (strD [.str z]) s Q = Q (.str z) s := rfl
@[simp] theorem MW_strI {i : Int} : MW (strD [.int i]) s Q = (i.natAbs.log2 < 1920 ∧ Q (.str (strOfInt i)) s) := by
  by_cases h : i.natAbs.log2 < 1920 <;> simp [MW, strD, h]
@[simp] theorem MW_inT {x : D} {ys : List D} : MW (cmpD .In x (.tup ys)) s Q = ((flatD x && ys.all flatD) = true ∧ Q (.bl (ys.any fun y => eqF y x)) s) := by
  by_cases h : (flatD x && ys.all flatD) = true <;> simp [MW, cmpD, inD, h, mOpt, mPure, mBad]
@[simp] theorem MW_ninT {x : D} {ys : List D} : MW (cmpD .NotIn x (.tup ys)) s Q = ((flatD x && ys.all flatD) = true ∧ Q (.bl (!(ys.any fun y => eqF y x))) s) := by
  by_cases h : (flatD x && ys.all flatD) = true <;> simp [MW, cmpD, inD, h, mOpt, mPure, mBad]
@[simp] theorem flatD_str (z : List Nat) : flatD (.str z) = true := rfl
@[simp] theorem flatD_int (z : Int) : flatD (.int z) = true := rfl
@[simp] theorem flatD_bl (z : Bool) : flatD (.bl z) = true := rfl
@[simp] theorem flatD_non : flatD .non = true := rfl
@[simp] theorem eqF_str (x y : List Nat) : eqF (.str x) (.str y) = decide (x = y) := rfl
@[simp] theorem eqF_int (x y : Int) : eqF (.int x) (.int y) = (x == y) := rfl
theorem MW_sortS {ys : List (List Nat)} (h : ys.length < 64) : MW (sortedD [.lst (ys.map .str)]) s Q = Q (.lst ((sortS ys).map .str)) s := by
  cases ys with
  | nil => rfl
  | cons y r =>
    have e : asStrs (D.str y :: r.map .str) = some (y :: r) := asStrs_map (y :: r)
    have h' : r.length + 1 < 64 := by simpa using h
    simp [MW, sortedD, asL, asInts, e, h']
theorem MW_join {sep : List Nat} {xs : List D} {ys : List (List Nat)} (h : asStrs xs = some ys) (hl : (ys.map (·.length)).sum + ys.length * sep.length ≤ 16777216) : MW (joinD (.str sep) [.lst xs]) s Q = Q (.str (joinN sep ys)) s := by
  have h2 : strsOf s (.lst xs) = some ys := h
  simp [MW, joinD, h2, hl]
theorem cutD_lo {z : List D} {i : Nat} : U.cutD z none (some (i : Int)) = z.take i := by
  unfold U.cutD
  rw [HT.sIx_nat]
  simp [HT.sIx]
theorem cutD_hi {z : List D} {i : Nat} : U.cutD z (some (i : Int)) none = z.drop i := by
  unfold U.cutD
  rw [HT.sIx_nat]
  simp only [HT.sIx]
  by_cases h : i ≤ z.length
  · rw [Nat.min_eq_left h, List.take_of_length_le (by rw [List.length_drop]; omega)]
  · rw [Nat.min_eq_right (by omega), List.drop_length, List.take_nil, List.drop_eq_nil_of_le (by omega)]
theorem cutD_mid {z : List D} {i j : Nat} : U.cutD z (some (i : Int)) (some (j : Int)) = (z.take j).drop i := by
  unfold U.cutD
  rw [HT.sIx_nat, HT.sIx_nat, List.drop_take]
  by_cases h : i ≤ z.length
  · rw [Nat.min_eq_left h]
    by_cases h2 : j ≤ z.length
    · rw [Nat.min_eq_left h2]
    · rw [Nat.min_eq_right (by omega), List.take_of_length_le (l := z.drop i) (by rw [List.length_drop]; omega), List.take_of_length_le (l := z.drop i) (by rw [List.length_drop]; omega)]
  · have e : z.drop i = [] := List.drop_eq_nil_of_le (by omega)
    have e2 : z.drop (min i z.length) = [] := List.drop_eq_nil_of_le (by omega)
    rw [e, e2, List.take_nil, List.take_nil]
end
end U

/-! U26: rules for objects. -/
namespace U
open PySem PySem.Spec PyProof.Rows
def fieldB (G : Pg) (c : Nat) (f : Str) : Bool := match G.cls[c]? with
  | some ci => ci.noat.contains f
  | none => false
def mthI (G : Pg) (c : Nat) (m : Str) : Option Nat := (G.cls[c]?).bind fun ci => ci.mth.lookup m
def prpI (G : Pg) (c : Nat) (m : Str) : Option Nat := (G.cls[c]?).bind fun ci => ci.prp.lookup m
def cstI (G : Pg) (c : Nat) (m : Str) : Option Cv := (G.cls[c]?).bind fun ci => ci.cst.lookup m
def iniI (G : Pg) (c : Nat) : Option Nat := (G.cls[c]?).bind (·.ini)
def hasF (G : Pg) (i : Nat) : Bool := (G.fns[i]?).isSome
def shI (G : Pg) (i n : Nat) (ks : List Str) : Option (Shp × List D) := match G.fns[i]?, G.shp.find? (fun sh => sh.fn == i && sh.n == n && sh.ks == ks) with
  | some fi, some sh => if sh.perm.length == fi.ps.length then some (sh, fi.dfl) else none
  | _, _ => none
section
variable {G : Pg} {calls : Calls} {s : S} {Q : D → S → Prop}
theorem MW_of_eq {α : Type} {m m' : M α} {s : S} {Q : α → S → Prop} (e : m s = m' s) : MW m s Q = MW m' s Q := by unfold MW; rw [e]
@[simp] theorem objO_ob (s : S) (n : Nat) : objO s (.ob n) = (match s.cs[n]? with
  | some (.O c fs) => some (n, c, fs)
  | _ => none) := rfl
@[simp] theorem MW_callO {i n : Nat} {ks : List Str} {as zs : List D} : MW (callO G calls i n ks as zs) s Q = match shI G i n ks with
    | some r => MW (callD calls i r.2 r.1 as zs) s Q
    | none => False := by
  unfold callO shI
  cases G.fns[i]? with
  | none => rfl
  | some fi =>
    cases G.shp.find? (fun sh => sh.fn == i && sh.n == n && sh.ks == ks) with
    | none => rfl
    | some sh =>
      dsimp only
      cases (sh.perm.length == fi.ps.length) <;> rfl
@[simp] theorem MW_methO {m : Str} {n : Nat} {ks : List Str} {d : D} {ma mk : M (List D)} : MW (methO G calls m n ks d ma mk) s Q = match objO s d with
    | some t => (match mthI G t.2.1 m with
      | some i => ((t.2.2.lookup m).isNone = true ∧ hasF G i = true) ∧ MW ma s fun as s' => MW mk s' fun zs s'' => MW (callO G calls i (n + 1) ks (d :: as) zs) s'' Q
      | none => False)
    | none => False := by
  unfold methO mthI hasF
  cases e0 : objO s d with
  | none => simp only [MW, e0]
  | some t =>
    obtain ⟨k, c, fs⟩ := t
    dsimp only
    cases e1 : (G.cls[c]?).bind fun ci => ci.mth.lookup m with
    | none => simp only [MW, e0, e1]
    | some i =>
      dsimp only
      cases e2 : ((fs.lookup m).isNone && (G.fns[i]?).isSome) with
      | false =>
        have : ¬ ((fs.lookup m).isNone = true ∧ (G.fns[i]?).isSome = true) := fun h => by rw [h.1, h.2] at e2; cases e2
        simp only [MW, e0, e1, e2, this, false_and, Bool.false_eq_true, if_false]
      | true =>
        rw [Bool.and_eq_true] at e2
        refine (MW_of_eq (m' := mBind ma fun as => mBind mk fun zs => callO G calls i (n + 1) ks (d :: as) zs) ?_).trans ?_
        · rw [e0]
          dsimp only
          rw [e1]
          dsimp only
          rw [e2.1, e2.2]
          rfl
        simp only [MW_bind, e2.1, e2.2, true_and, and_self]
@[simp] theorem MW_attrD {f : Str} {d : D} : MW (attrD G calls f d) s Q = match objO s d with
    | some t => if fieldB G t.2.1 f = true then (match t.2.2.lookup f with
        | some y => Q y s
        | none => False)
      else (match prpI G t.2.1 f with
        | some i => propB G i = true ∧ MW (callO G calls i 1 [] [d] []) s Q
        | none => (match cstI G t.2.1 f with
          | some v => (t.2.2.lookup f).isNone = true ∧ Q (cvD v) s
          | none => False))
    | none => False := by
  unfold attrD fieldB prpI cstI
  cases e0 : objO s d with
  | none => simp only [MW, e0]
  | some t =>
    obtain ⟨k, c, fs⟩ := t
    dsimp only
    cases e1 : G.cls[c]? with
    | none => simp [MW, e0, e1]
    | some ci =>
      dsimp only [Option.bind_some]
      by_cases e2 : ci.noat.contains f = true
      · simp only [MW, e0, e1, e2, if_true]
        cases fs.lookup f <;> rfl
      · rw [if_neg e2]
        cases e3 : ci.prp.lookup f with
        | some i =>
          dsimp only
          by_cases e4 : propB G i = true
          · simp only [MW, e0, e1, e2, e3, e4, Bool.false_eq_true, if_false, if_true, true_and]
            cases callO G calls i 1 [] [d] [] s <;> rfl
          · simp only [MW, e0, e1, e2, e3, e4, Bool.false_eq_true, if_false, false_and]
        | none =>
          dsimp only
          cases e4 : ci.cst.lookup f with
          | none => simp only [MW, e0, e1, e2, e3, e4, Bool.false_eq_true, if_false]
          | some v =>
            by_cases e5 : (fs.lookup f).isNone = true
            · simp only [MW, e0, e1, e2, e3, e4, e5, Bool.false_eq_true, if_false, if_true, true_and]
            · simp only [MW, e0, e1, e2, e3, e4, e5, Bool.false_eq_true, if_false, false_and]
@[simp] theorem MW_mkO {c n : Nat} {ks : List Str} {as zs : List D} : MW (mkO G calls c n ks as zs) s Q = match iniI G c with
    | some i => MW (callO G calls i (n + 1) ks (.ob s.cs.length :: as) zs) { s with cs := s.cs ++ [.O c []] } fun y s' => y = .non ∧ Q (.ob s.cs.length) s'
    | none => False := by
  unfold mkO iniI
  cases e1 : (G.cls[c]?).bind (·.ini) with
  | none => simp only [MW, e1]
  | some i =>
    simp only [MW, e1]
    cases callO G calls i (n + 1) ks (.ob s.cs.length :: as) zs { s with cs := s.cs ++ [.O c []] } with
    | bad => rfl
    | exc x s' => rfl
    | ok y s' => cases y <;> simp
@[simp] theorem MW_setAt {f : Str} {y d : D} {Q : Unit → S → Prop} : MW (setAt G f y d) s Q = match objO s d with
    | some t => (fieldB G t.2.1 f = true ∧ t.2.2.length < 1000) ∧ Q () { s with cs := s.cs.set t.1 (.O t.2.1 (putD f y t.2.2)) }
    | none => False := by
  unfold setAt fieldB
  cases e0 : objO s d with
  | none => simp only [MW, e0]
  | some t =>
    obtain ⟨k, c, fs⟩ := t
    dsimp only
    cases e1 : G.cls[c]? with
    | none => simp [MW, e0, e1]
    | some ci =>
      dsimp only
      by_cases h : ci.noat.contains f = true ∧ fs.length < 1000
      · have : (ci.noat.contains f && decide (fs.length < 1000)) = true := by rw [h.1, decide_eq_true h.2]; rfl
        have h1 := h.1
        have h2 : decide (fs.length < 1000) = true := decide_eq_true h.2
        have h3 : (fun s : S => match objO s d with
          | some (n, c, fs) => (match G.cls[c]? with
            | some ci => if ci.noat.contains f && decide (fs.length < 1000) then R.ok () { s with cs := s.cs.set n (.O c (putD f y fs)) } else .bad
            | none => .bad)
          | none => .bad) s = .ok () { s with cs := s.cs.set k (.O c (putD f y fs)) } := by
          dsimp only
          rw [e0]; dsimp only; rw [e1]; dsimp only; rw [this]; rfl
        have h4 : (ci.noat.contains f = true ∧ fs.length < 1000) = True := by simp only [h, and_self]
        rw [h4, true_and]
        unfold MW
        dsimp only at h3 ⊢
        rw [e0] at h3 ⊢; dsimp only at h3 ⊢; rw [e1] at h3 ⊢; dsimp only at h3 ⊢; rw [this]; rfl
      · have : (ci.noat.contains f && decide (fs.length < 1000)) = false := by
          rw [Bool.eq_false_iff, ne_eq, Bool.and_eq_true, decide_eq_true_eq]; exact h
        have h3 : (fun s : S => match objO s d with
          | some (n, c, fs) => (match G.cls[c]? with
            | some ci => if ci.noat.contains f && decide (fs.length < 1000) then R.ok () { s with cs := s.cs.set n (.O c (putD f y fs)) } else .bad
            | none => .bad)
          | none => .bad) s = .bad := by
          dsimp only
          rw [e0]; dsimp only; rw [e1]; dsimp only; rw [this]; rfl
        simp only [h, false_and, eq_iff_iff, iff_false]
        intro z
        unfold MW at z
        dsimp only at z
        rw [e0] at z; dsimp only at z; rw [e1] at z; dsimp only at z; rw [this] at z
        exact z
@[simp] theorem MW_fldD {f : Str} {d : D} {Q : Nat × D → S → Prop} : MW (fldD G f d) s Q = match objO s d with
    | some t => fieldB G t.2.1 f = true ∧ (match t.2.2.lookup f with
      | some y => Q (t.2.1, y) s
      | none => False)
    | none => False := by
  unfold fldD fieldB
  cases e0 : objO s d with
  | none => simp only [MW, e0]
  | some t =>
    obtain ⟨k, c, fs⟩ := t
    dsimp only
    cases e1 : G.cls[c]? with
    | none => simp [MW, e0, e1]
    | some ci =>
      dsimp only
      by_cases e2 : ci.noat.contains f = true
      · simp only [MW, e0, e1, e2, if_true, true_and]
        cases fs.lookup f <;> rfl
      · simp only [MW, e0, e1, e2, Bool.false_eq_true, if_false, false_and]
@[simp] theorem MW_setAtC {f : Str} {c0 : Nat} {y d : D} {Q : Unit → S → Prop} : MW (setAtC G f c0 y d) s Q = match objO s d with
    | some t => t.2.1 = c0 ∧ MW (setAt G f y d) s Q
    | none => False := by
  cases e0 : objO s d with
  | none => simp only [MW, setAtC, e0]
  | some t =>
    obtain ⟨k, c, fs⟩ := t
    dsimp only
    by_cases h : c = c0
    · refine (MW_of_eq (m' := setAt G f y d) ?_).trans (by simp only [h, true_and])
      unfold setAtC; rw [e0]; exact if_pos h
    · simp only [h, false_and, eq_iff_iff, iff_false]
      intro z
      unfold MW setAtC at z
      rw [e0] at z
      dsimp only at z
      rw [if_neg h] at z
      exact z
@[simp] theorem MW_augA {f : Str} {op : Operator} {mo mv : M D} {Q : Unit → S → Prop} : MW (augA G f op mo mv) s Q = MW mo s fun d s1 => MW (fldD G f d) s1 fun x s2 => MW mv s2 fun y s3 => MW (iopD op x.2 y) s3 fun z s4 => MW (setAtC G f x.1 z d) s4 Q := by
  unfold augA
  simp only [MW_bind]
@[simp] theorem MW_iaddI {i j : Int} : MW (iopD .Add (.int i) (.int j)) s Q = Q (.int (i + j)) s := rfl
@[simp] theorem MW_isubI {i j : Int} : MW (iopD .Sub (.int i) (.int j)) s Q = Q (.int (i - j)) s := rfl
@[simp] theorem MW_splitS {c : Nat} {a : List Nat} : MW (splitD (.str a) [.str [c]]) s Q = ((c < 256 ∧ a.length + 2 ≤ sizeLine) ∧ Q (.lst ((splitN c a).map .str)) s) := by
  by_cases h : c < 256 ∧ a.length + 2 ≤ sizeLine <;> simp [MW, splitD, h]
@[simp] theorem MW_ltS {x y : List Nat} : MW (cmpD .Lt (.str x) (.str y)) s Q = Q (.bl (decide (x < y))) s := by
  show MW (mOpt ((ltD (.str x) (.str y)).map .bl)) s Q = _
  have e : ltD (.str x) (.str y) = some (decide (x < y)) := by
    show some (ltCps x y) = _
    rw [ltCps_eq]
  rw [e]; rfl
end
end U

namespace Law
open PySem PySem.Spec PyProof.Rows U
abbrev pw : PySem.Program := PySem.Challenge.pw_unseenrest_k24_whole_texts_read_back
abbrev rw_ : PySem.W.OpenLaw := PySem.Challenge.rw_unseenrest_k24_whole_texts_read_back
abbrev R : PySem.W.OpenRow := PySem.W.OpenLaw.row rw_
def top (i : Nat) : Stmt := pw.main.body.getD i (.Pass ⟨0, 0, 0, 0⟩)
def clsBody : Stmt → List Stmt
  | .ClassDef _ _ _ b _ _ _ _ _ _ _ => b
  | _ => []
def mtop (i j : Nat) : Stmt := (clsBody (top i)).getD j (.Pass ⟨0, 0, 0, 0⟩)
def dfn (p : Plc) (x q : PySem.Str) (st : Stmt) : DefX := ⟨p, x, q, L2.defArgs st, L2.defBody st, L2.defScope st, [], []⟩
def f0 : FnI := ⟨dfn (.glo ("is_word" : PySem.Str)) ("is_word" : PySem.Str) ("is_word" : PySem.Str) (top 5), [("value" : PySem.Str), ("most" : PySem.Str), ("sign" : PySem.Str)], [("value" : PySem.Str), ("most" : PySem.Str)], []⟩
def f1 : FnI := ⟨dfn (.glo ("is_name" : PySem.Str)) ("is_name" : PySem.Str) ("is_name" : PySem.Str) (top 6), [("value" : PySem.Str)], [("value" : PySem.Str)], []⟩
def f2 : FnI := ⟨dfn (.glo ("is_piece" : PySem.Str)) ("is_piece" : PySem.Str) ("is_piece" : PySem.Str) (top 7), [("value" : PySem.Str)], [("value" : PySem.Str)], []⟩
def f3 : FnI := ⟨dfn (.meth ("Words" : PySem.Str) ("__init__" : PySem.Str)) ("__init__" : PySem.Str) ("Words.__init__" : PySem.Str) (mtop 11 0), [("self" : PySem.Str), ("text" : PySem.Str)], [("self" : PySem.Str), ("text" : PySem.Str)], []⟩
def f4 : FnI := ⟨dfn (.meth ("Words" : PySem.Str) ("here" : PySem.Str)) ("here" : PySem.Str) ("Words.here" : PySem.Str) (mtop 11 1), [("self" : PySem.Str)], [("self" : PySem.Str)], []⟩
def f5 : FnI := ⟨dfn (.meth ("Words" : PySem.Str) ("take" : PySem.Str)) ("take" : PySem.Str) ("Words.take" : PySem.Str) (mtop 11 2), [("self" : PySem.Str), ("good" : PySem.Str), ("word" : PySem.Str)], [("self" : PySem.Str), ("good" : PySem.Str)], []⟩
def f6 : FnI := ⟨dfn (.meth ("Words" : PySem.Str) ("take_name" : PySem.Str)) ("take_name" : PySem.Str) ("Words.take_name" : PySem.Str) (mtop 11 3), [("self" : PySem.Str)], [("self" : PySem.Str)], []⟩
def f7 : FnI := ⟨dfn (.meth ("Words" : PySem.Str) ("take_group" : PySem.Str)) ("take_group" : PySem.Str) ("Words.take_group" : PySem.Str) (mtop 11 4), [("self" : PySem.Str), ("found" : PySem.Str)], [("self" : PySem.Str)], []⟩
def f8 : FnI := ⟨dfn (.meth ("Words" : PySem.Str) ("take_number" : PySem.Str)) ("take_number" : PySem.Str) ("Words.take_number" : PySem.Str) (mtop 11 5), [("self" : PySem.Str), ("least" : PySem.Str), ("most" : PySem.Str), ("word" : PySem.Str), ("good" : PySem.Str)], [("self" : PySem.Str), ("least" : PySem.Str), ("most" : PySem.Str)], []⟩
def f9 : FnI := ⟨dfn (.meth ("Words" : PySem.Str) ("take_groups" : PySem.Str)) ("take_groups" : PySem.Str) ("Words.take_groups" : PySem.Str) (mtop 11 6), [("self" : PySem.Str), ("found" : PySem.Str)], [("self" : PySem.Str)], []⟩
def f10 : FnI := ⟨dfn (.meth ("Words" : PySem.Str) ("take_block" : PySem.Str)) ("take_block" : PySem.Str) ("Words.take_block" : PySem.Str) (mtop 11 7), [("self" : PySem.Str), ("found" : PySem.Str)], [("self" : PySem.Str)], []⟩
def f11 : FnI := ⟨dfn (.meth ("Words" : PySem.Str) ("take_steps" : PySem.Str)) ("take_steps" : PySem.Str) ("Words.take_steps" : PySem.Str) (mtop 11 8), [("self" : PySem.Str), ("found" : PySem.Str)], [("self" : PySem.Str)], []⟩
def f12 : FnI := ⟨dfn (.meth ("Words" : PySem.Str) ("take_test" : PySem.Str)) ("take_test" : PySem.Str) ("Words.take_test" : PySem.Str) (mtop 11 9), [("self" : PySem.Str), ("word" : PySem.Str), ("number" : PySem.Str), ("name" : PySem.Str)], [("self" : PySem.Str)], []⟩
def f13 : FnI := ⟨dfn (.meth ("Words" : PySem.Str) ("take_step" : PySem.Str)) ("take_step" : PySem.Str) ("Words.take_step" : PySem.Str) (mtop 11 10), [("self" : PySem.Str), ("word" : PySem.Str), ("name" : PySem.Str), ("test" : PySem.Str), ("first" : PySem.Str)], [("self" : PySem.Str)], []⟩
def f14 : FnI := ⟨dfn (.glo ("read_steps" : PySem.Str)) ("read_steps" : PySem.Str) ("read_steps" : PySem.Str) (top 12), [("text" : PySem.Str), ("words" : PySem.Str), ("found" : PySem.Str)], [("text" : PySem.Str)], []⟩
def f15 : FnI := ⟨dfn (.glo ("test_words" : PySem.Str)) ("test_words" : PySem.Str) ("test_words" : PySem.Str) (top 13), [("test" : PySem.Str)], [("test" : PySem.Str)], []⟩
def f16 : FnI := ⟨dfn (.glo ("block_words" : PySem.Str)) ("block_words" : PySem.Str) ("block_words" : PySem.Str) (top 14), [("steps" : PySem.Str)], [("steps" : PySem.Str)], []⟩
def f17 : FnI := ⟨dfn (.glo ("step_words" : PySem.Str)) ("step_words" : PySem.Str) ("step_words" : PySem.Str) (top 15), [("step" : PySem.Str), ("word" : PySem.Str), ("found" : PySem.Str), ("base" : PySem.Str)], [("step" : PySem.Str)], []⟩
def f18 : FnI := ⟨dfn (.glo ("words_of" : PySem.Str)) ("words_of" : PySem.Str) ("words_of" : PySem.Str) (top 16), [("steps" : PySem.Str), ("found" : PySem.Str), ("at" : PySem.Str), ("step" : PySem.Str)], [("steps" : PySem.Str)], []⟩
def f19 : FnI := ⟨dfn (.glo ("text_of" : PySem.Str)) ("text_of" : PySem.Str) ("text_of" : PySem.Str) (top 17), [("steps" : PySem.Str)], [("steps" : PySem.Str)], []⟩
def f20 : FnI := ⟨dfn (.glo ("_law_bag" : PySem.Str)) ("_law_bag" : PySem.Str) ("_law_bag" : PySem.Str) (top 19), [("_law_script" : PySem.Str)], [("_law_script" : PySem.Str)], []⟩
def f21 : FnI := ⟨dfn (.glo ("_law_pull" : PySem.Str)) ("_law_pull" : PySem.Str) ("_law_pull" : PySem.Str) (top 20), [("_law_bag_here" : PySem.Str), ("_law_many" : PySem.Str), ("_law_cell" : PySem.Str), ("_law_digit" : PySem.Str), ("_law_seed" : PySem.Str)], [("_law_bag_here" : PySem.Str), ("_law_many" : PySem.Str)], []⟩
def f22 : FnI := ⟨dfn (.glo ("_law_any" : PySem.Str)) ("_law_any" : PySem.Str) ("_law_any" : PySem.Str) (top 21), [("_law_bag_here" : PySem.Str), ("_law_things" : PySem.Str)], [("_law_bag_here" : PySem.Str), ("_law_things" : PySem.Str)], []⟩
def f23 : FnI := ⟨dfn (.glo ("_law_same" : PySem.Str)) ("_law_same" : PySem.Str) ("_law_same" : PySem.Str) (top 22), [("_law_found" : PySem.Str), ("_law_due" : PySem.Str), ("_law_one" : PySem.Str), ("_law_two" : PySem.Str)], [("_law_found" : PySem.Str), ("_law_due" : PySem.Str)], []⟩
def f24 : FnI := ⟨dfn (.glo ("_law_names" : PySem.Str)) ("_law_names" : PySem.Str) ("_law_names" : PySem.Str) (top 23), [("_law_bag_here" : PySem.Str), ("_law_many" : PySem.Str), ("_law_letters" : PySem.Str), ("_law_stem" : PySem.Str), ("_law_k" : PySem.Str), ("_law_at" : PySem.Str), ("_law_first" : PySem.Str)], [("_law_bag_here" : PySem.Str), ("_law_many" : PySem.Str)], []⟩
def f25 : FnI := ⟨dfn (.glo ("_law_mixed" : PySem.Str)) ("_law_mixed" : PySem.Str) ("_law_mixed" : PySem.Str) (top 24), [("_law_bag_here" : PySem.Str), ("_law_things" : PySem.Str), ("_law_found" : PySem.Str), ("_law_thing" : PySem.Str)], [("_law_bag_here" : PySem.Str), ("_law_things" : PySem.Str)], []⟩
def f26 : FnI := ⟨dfn (.glo ("_law_group" : PySem.Str)) ("_law_group" : PySem.Str) ("_law_group" : PySem.Str) (top 25), [("_law_bag_here" : PySem.Str), ("_law_names_here" : PySem.Str), ("_law_name" : PySem.Str)], [("_law_bag_here" : PySem.Str), ("_law_names_here" : PySem.Str)], []⟩
def f27 : FnI := ⟨dfn (.glo ("_law_bases" : PySem.Str)) ("_law_bases" : PySem.Str) ("_law_bases" : PySem.Str) (top 26), [("_law_bag_here" : PySem.Str), ("_law_group_here" : PySem.Str), ("_law_name" : PySem.Str)], [("_law_bag_here" : PySem.Str), ("_law_group_here" : PySem.Str)], []⟩
def f28 : FnI := ⟨dfn (.glo ("_law_step" : PySem.Str)) ("_law_step" : PySem.Str) ("_law_step" : PySem.Str) (top 27), [("_law_bag_here" : PySem.Str), ("_law_names_here" : PySem.Str), ("_law_fresh" : PySem.Str), ("_law_looks" : PySem.Str), ("_law_way" : PySem.Str), ("_law_some" : PySem.Str), ("_law_name" : PySem.Str)], [("_law_bag_here" : PySem.Str), ("_law_names_here" : PySem.Str), ("_law_fresh" : PySem.Str), ("_law_looks" : PySem.Str)], []⟩
def f29 : FnI := ⟨dfn (.glo ("_law_ends" : PySem.Str)) ("_law_ends" : PySem.Str) ("_law_ends" : PySem.Str) (top 28), [("_law_names_here" : PySem.Str), ("_law_step_here" : PySem.Str), ("_law_left" : PySem.Str), ("_law_name" : PySem.Str)], [("_law_names_here" : PySem.Str), ("_law_step_here" : PySem.Str)], []⟩
def f30 : FnI := ⟨dfn (.glo ("_law_plain" : PySem.Str)) ("_law_plain" : PySem.Str) ("_law_plain" : PySem.Str) (top 29), [("_law_bag_here" : PySem.Str), ("_law_names_here" : PySem.Str), ("_law_fresh" : PySem.Str), ("_law_looks" : PySem.Str), ("_law_steps" : PySem.Str), ("_law_here" : PySem.Str), ("_law_word" : PySem.Str), ("_law_step_here" : PySem.Str)], [("_law_bag_here" : PySem.Str), ("_law_names_here" : PySem.Str), ("_law_fresh" : PySem.Str), ("_law_looks" : PySem.Str)], []⟩
def f31 : FnI := ⟨dfn (.glo ("_law_test" : PySem.Str)) ("_law_test" : PySem.Str) ("_law_test" : PySem.Str) (top 30), [("_law_bag_here" : PySem.Str), ("_law_names_here" : PySem.Str), ("_law_looks" : PySem.Str), ("_law_way" : PySem.Str), ("_law_some" : PySem.Str)], [("_law_bag_here" : PySem.Str), ("_law_names_here" : PySem.Str), ("_law_looks" : PySem.Str)], []⟩
def f32 : FnI := ⟨dfn (.glo ("_law_still" : PySem.Str)) ("_law_still" : PySem.Str) ("_law_still" : PySem.Str) (top 31), [("_law_bag_here" : PySem.Str), ("_law_names_here" : PySem.Str), ("_law_looks" : PySem.Str), ("_law_steps" : PySem.Str), ("_law_k" : PySem.Str), ("_law_way" : PySem.Str), ("_law_some" : PySem.Str), ("_law_step_here" : PySem.Str)], [("_law_bag_here" : PySem.Str), ("_law_names_here" : PySem.Str), ("_law_looks" : PySem.Str)], []⟩
def f33 : FnI := ⟨dfn (.glo ("_law_body" : PySem.Str)) ("_law_body" : PySem.Str) ("_law_body" : PySem.Str) (top 32), [("_law_bag_here" : PySem.Str), ("_law_names_here" : PySem.Str), ("_law_fresh" : PySem.Str), ("_law_looks" : PySem.Str), ("_law_at" : PySem.Str), ("_law_steps" : PySem.Str), ("_law_here" : PySem.Str), ("_law_test_here" : PySem.Str), ("_law_first" : PySem.Str), ("_law_second" : PySem.Str), ("_law_late" : PySem.Str)], [("_law_bag_here" : PySem.Str), ("_law_names_here" : PySem.Str), ("_law_fresh" : PySem.Str), ("_law_looks" : PySem.Str)], []⟩
def f34 : FnI := ⟨dfn (.glo ("_law_words" : PySem.Str)) ("_law_words" : PySem.Str) ("_law_words" : PySem.Str) (top 33), [("_law_steps" : PySem.Str), ("_law_found" : PySem.Str), ("_law_step_here" : PySem.Str)], [("_law_steps" : PySem.Str)], []⟩
def f35 : FnI := ⟨dfn (.glo ("_law_test_words" : PySem.Str)) ("_law_test_words" : PySem.Str) ("_law_test_words" : PySem.Str) (top 34), [("_law_test_here" : PySem.Str)], [("_law_test_here" : PySem.Str)], []⟩
def f36 : FnI := ⟨dfn (.glo ("_law_step_words" : PySem.Str)) ("_law_step_words" : PySem.Str) ("_law_step_words" : PySem.Str) (top 35), [("_law_step_here" : PySem.Str), ("_law_word" : PySem.Str), ("_law_found" : PySem.Str), ("_law_base" : PySem.Str)], [("_law_step_here" : PySem.Str)], []⟩
def f37 : FnI := ⟨dfn (.glo ("_law_text" : PySem.Str)) ("_law_text" : PySem.Str) ("_law_text" : PySem.Str) (top 36), [("_law_steps" : PySem.Str)], [("_law_steps" : PySem.Str)], []⟩
def f38 : FnI := ⟨dfn (.glo ("_law_all_steps" : PySem.Str)) ("_law_all_steps" : PySem.Str) ("_law_all_steps" : PySem.Str) (top 37), [("_law_bag_here" : PySem.Str), ("_law_names_here" : PySem.Str), ("_law_fresh" : PySem.Str), ("_law_steps" : PySem.Str), ("_law_ends_here" : PySem.Str), ("_law_some" : PySem.Str), ("_law_inner" : PySem.Str)], [("_law_bag_here" : PySem.Str), ("_law_names_here" : PySem.Str), ("_law_fresh" : PySem.Str)], []⟩
def f39 : FnI := ⟨dfn (.glo ("law" : PySem.Str)) ("law" : PySem.Str) ("law" : PySem.Str) (top 38), [("_law_script" : PySem.Str), ("_law_bag_here" : PySem.Str), ("_law_turn" : PySem.Str), ("_law_words_here" : PySem.Str), ("_law_steps" : PySem.Str), ("_law_text_z" : PySem.Str), ("_law_deep" : PySem.Str), ("_law_k" : PySem.Str), ("_law_found" : PySem.Str)], [("_law_script" : PySem.Str)], []⟩
def s_law : Shp := ⟨39, 1, [], [0]⟩
def s_is_word : Shp := ⟨0, 2, [], [0, 1]⟩
def s_Words_here : Shp := ⟨4, 1, [], [0]⟩
def s_is_name : Shp := ⟨1, 1, [], [0]⟩
def s_Words_take : Shp := ⟨5, 2, [], [0, 1]⟩
def s_Words_take_group : Shp := ⟨7, 1, [], [0]⟩
def s_Words_take_steps : Shp := ⟨11, 1, [], [0]⟩
def s_Words_take_step : Shp := ⟨13, 1, [], [0]⟩
def s_Words_take_number : Shp := ⟨8, 3, [], [0, 1, 2]⟩
def s_Words_take_name : Shp := ⟨6, 1, [], [0]⟩
def s_Words_take_groups : Shp := ⟨9, 1, [], [0]⟩
def s_Words_take_test : Shp := ⟨12, 1, [], [0]⟩
def s_Words_take_block : Shp := ⟨10, 1, [], [0]⟩
def s_is_piece : Shp := ⟨2, 1, [], [0]⟩
def s_Words___init__ : Shp := ⟨3, 2, [], [0, 1]⟩
def s_words_of : Shp := ⟨18, 1, [], [0]⟩
def s_test_words : Shp := ⟨15, 1, [], [0]⟩
def s_block_words : Shp := ⟨16, 1, [], [0]⟩
def s_step_words : Shp := ⟨17, 1, [], [0]⟩
def s_lpull : Shp := ⟨21, 2, [], [0, 1]⟩
def s_lsame : Shp := ⟨23, 2, [], [0, 1]⟩
def s_lany : Shp := ⟨22, 2, [], [0, 1]⟩
def s_lgroup : Shp := ⟨26, 2, [], [0, 1]⟩
def s_lbases : Shp := ⟨27, 2, [], [0, 1]⟩
def s_lstep : Shp := ⟨28, 4, [], [0, 1, 2, 3]⟩
def s_lends : Shp := ⟨29, 2, [], [0, 1]⟩
def s_lplain : Shp := ⟨30, 4, [], [0, 1, 2, 3]⟩
def s_ltest : Shp := ⟨31, 3, [], [0, 1, 2]⟩
def s_lstill : Shp := ⟨32, 3, [], [0, 1, 2]⟩
def s_lstep_words : Shp := ⟨36, 1, [], [0]⟩
def s_ltest_words : Shp := ⟨35, 1, [], [0]⟩
def s_lwords : Shp := ⟨34, 1, [], [0]⟩
def s_lbody : Shp := ⟨33, 4, [], [0, 1, 2, 3]⟩
def s_lbag : Shp := ⟨20, 1, [], [0]⟩
def s_lnames : Shp := ⟨24, 2, [], [0, 1]⟩
def s_lmixed : Shp := ⟨25, 2, [], [0, 1]⟩
def s_lall_steps : Shp := ⟨38, 3, [], [0, 1, 2]⟩
def s_ltext : Shp := ⟨37, 1, [], [0]⟩
def s_read_steps : Shp := ⟨14, 1, [], [0]⟩
def s_text_of : Shp := ⟨19, 1, [], [0]⟩
def s_read_steps_0_text : Shp := ⟨14, 0, [("text" : PySem.Str)], [0]⟩
def c0 : ClsI := ⟨("Words" : PySem.Str), some 3, [(("here" : PySem.Str), 4), (("take" : PySem.Str), 5), (("take_name" : PySem.Str), 6), (("take_group" : PySem.Str), 7), (("take_number" : PySem.Str), 8), (("take_groups" : PySem.Str), 9), (("take_block" : PySem.Str), 10), (("take_steps" : PySem.Str), 11), (("take_test" : PySem.Str), 12), (("take_step" : PySem.Str), 13)], [], [], [("words" : PySem.Str), ("spot_now" : PySem.Str), ("opened" : PySem.Str)]⟩
def G : Pg where
  fns := [f0, f1, f2, f3, f4, f5, f6, f7, f8, f9, f10, f11, f12, f13, f14, f15, f16, f17, f18, f19, f20, f21, f22, f23, f24, f25, f26, f27, f28, f29, f30, f31, f32, f33, f34, f35, f36, f37, f38, f39]
  cls := [c0]
  glo := [(("is_word" : PySem.Str), .fn 0), (("is_name" : PySem.Str), .fn 1), (("is_piece" : PySem.Str), .fn 2), (("read_steps" : PySem.Str), .fn 14), (("test_words" : PySem.Str), .fn 15), (("block_words" : PySem.Str), .fn 16), (("step_words" : PySem.Str), .fn 17), (("words_of" : PySem.Str), .fn 18), (("text_of" : PySem.Str), .fn 19), (("_law_bag" : PySem.Str), .fn 20), (("_law_pull" : PySem.Str), .fn 21), (("_law_any" : PySem.Str), .fn 22), (("_law_same" : PySem.Str), .fn 23), (("_law_names" : PySem.Str), .fn 24), (("_law_mixed" : PySem.Str), .fn 25), (("_law_group" : PySem.Str), .fn 26), (("_law_bases" : PySem.Str), .fn 27), (("_law_step" : PySem.Str), .fn 28), (("_law_ends" : PySem.Str), .fn 29), (("_law_plain" : PySem.Str), .fn 30), (("_law_test" : PySem.Str), .fn 31), (("_law_still" : PySem.Str), .fn 32), (("_law_body" : PySem.Str), .fn 33), (("_law_words" : PySem.Str), .fn 34), (("_law_test_words" : PySem.Str), .fn 35), (("_law_step_words" : PySem.Str), .fn 36), (("_law_text" : PySem.Str), .fn 37), (("_law_all_steps" : PySem.Str), .fn 38), (("law" : PySem.Str), .fn 39), (("Words" : PySem.Str), .cls 0), (("LETTERS" : PySem.Str), .con (.str [97, 98, 99, 100, 101, 102, 103, 104, 105, 106, 107, 108, 109, 110, 111, 112, 113, 114, 115, 116, 117, 118, 119, 120, 121, 122])), (("DIGITS" : PySem.Str), .con (.str [48, 49, 50, 51, 52, 53, 54, 55, 56, 57])), (("MOST_OPEN" : PySem.Str), .con (.int 20))]
  bl := [("all" : PySem.Str), ("list" : PySem.Str), ("enumerate" : PySem.Str), ("isinstance" : PySem.Str), ("tuple" : PySem.Str), ("sorted" : PySem.Str), ("range" : PySem.Str), ("int" : PySem.Str), ("str" : PySem.Str), ("len" : PySem.Str), ("bool" : PySem.Str), ("super" : PySem.Str), ("zip" : PySem.Str)]
  shp := [s_law, s_is_word, s_Words_here, s_is_name, s_Words_take, s_Words_take_group, s_Words_take_steps, s_Words_take_step, s_Words_take_number, s_Words_take_name, s_Words_take_groups, s_Words_take_test, s_Words_take_block, s_is_piece, s_Words___init__, s_words_of, s_test_words, s_block_words, s_step_words, s_lpull, s_lsame, s_lany, s_lgroup, s_lbases, s_lstep, s_lends, s_lplain, s_ltest, s_lstill, s_lstep_words, s_ltest_words, s_lwords, s_lbody, s_lbag, s_lnames, s_lmixed, s_lall_steps, s_ltext, s_read_steps, s_text_of, s_read_steps_0_text]
  cells := [⟨187, 17, 187, 19⟩, ⟨217, 29, 217, 31⟩, ⟨230, 17, 230, 19⟩, ⟨44, 16, 44, 18⟩, ⟨55, 16, 55, 35⟩, ⟨70, 16, 70, 34⟩, ⟨152, 11, 152, 70⟩]
theorem n0 : ShN f39 s_law := fun _ _ _ _ _ _ us ws h1 h2 => match us, ws, h1, h2 with | [_], [], _, _ => rfl
theorem n1 : ShN f0 s_is_word := fun _ _ _ _ _ _ us ws h1 h2 => match us, ws, h1, h2 with | [_, _], [], _, _ => rfl
theorem n2 : ShN f4 s_Words_here := fun _ _ _ _ _ _ us ws h1 h2 => match us, ws, h1, h2 with | [_], [], _, _ => rfl
theorem n3 : ShN f1 s_is_name := fun _ _ _ _ _ _ us ws h1 h2 => match us, ws, h1, h2 with | [_], [], _, _ => rfl
theorem n4 : ShN f5 s_Words_take := fun _ _ _ _ _ _ us ws h1 h2 => match us, ws, h1, h2 with | [_, _], [], _, _ => rfl
theorem n5 : ShN f7 s_Words_take_group := fun _ _ _ _ _ _ us ws h1 h2 => match us, ws, h1, h2 with | [_], [], _, _ => rfl
theorem n6 : ShN f11 s_Words_take_steps := fun _ _ _ _ _ _ us ws h1 h2 => match us, ws, h1, h2 with | [_], [], _, _ => rfl
theorem n7 : ShN f13 s_Words_take_step := fun _ _ _ _ _ _ us ws h1 h2 => match us, ws, h1, h2 with | [_], [], _, _ => rfl
theorem n8 : ShN f8 s_Words_take_number := fun _ _ _ _ _ _ us ws h1 h2 => match us, ws, h1, h2 with | [_, _, _], [], _, _ => rfl
theorem n9 : ShN f6 s_Words_take_name := fun _ _ _ _ _ _ us ws h1 h2 => match us, ws, h1, h2 with | [_], [], _, _ => rfl
theorem n10 : ShN f9 s_Words_take_groups := fun _ _ _ _ _ _ us ws h1 h2 => match us, ws, h1, h2 with | [_], [], _, _ => rfl
theorem n11 : ShN f12 s_Words_take_test := fun _ _ _ _ _ _ us ws h1 h2 => match us, ws, h1, h2 with | [_], [], _, _ => rfl
theorem n12 : ShN f10 s_Words_take_block := fun _ _ _ _ _ _ us ws h1 h2 => match us, ws, h1, h2 with | [_], [], _, _ => rfl
theorem n13 : ShN f2 s_is_piece := fun _ _ _ _ _ _ us ws h1 h2 => match us, ws, h1, h2 with | [_], [], _, _ => rfl
theorem n14 : ShN f3 s_Words___init__ := fun _ _ _ _ _ _ us ws h1 h2 => match us, ws, h1, h2 with | [_, _], [], _, _ => rfl
theorem n15 : ShN f18 s_words_of := fun _ _ _ _ _ _ us ws h1 h2 => match us, ws, h1, h2 with | [_], [], _, _ => rfl
theorem n16 : ShN f15 s_test_words := fun _ _ _ _ _ _ us ws h1 h2 => match us, ws, h1, h2 with | [_], [], _, _ => rfl
theorem n17 : ShN f16 s_block_words := fun _ _ _ _ _ _ us ws h1 h2 => match us, ws, h1, h2 with | [_], [], _, _ => rfl
theorem n18 : ShN f17 s_step_words := fun _ _ _ _ _ _ us ws h1 h2 => match us, ws, h1, h2 with | [_], [], _, _ => rfl
theorem n19 : ShN f21 s_lpull := fun _ _ _ _ _ _ us ws h1 h2 => match us, ws, h1, h2 with | [_, _], [], _, _ => rfl
theorem n20 : ShN f23 s_lsame := fun _ _ _ _ _ _ us ws h1 h2 => match us, ws, h1, h2 with | [_, _], [], _, _ => rfl
theorem n21 : ShN f22 s_lany := fun _ _ _ _ _ _ us ws h1 h2 => match us, ws, h1, h2 with | [_, _], [], _, _ => rfl
theorem n22 : ShN f26 s_lgroup := fun _ _ _ _ _ _ us ws h1 h2 => match us, ws, h1, h2 with | [_, _], [], _, _ => rfl
theorem n23 : ShN f27 s_lbases := fun _ _ _ _ _ _ us ws h1 h2 => match us, ws, h1, h2 with | [_, _], [], _, _ => rfl
theorem n24 : ShN f28 s_lstep := fun _ _ _ _ _ _ us ws h1 h2 => match us, ws, h1, h2 with | [_, _, _, _], [], _, _ => rfl
theorem n25 : ShN f29 s_lends := fun _ _ _ _ _ _ us ws h1 h2 => match us, ws, h1, h2 with | [_, _], [], _, _ => rfl
theorem n26 : ShN f30 s_lplain := fun _ _ _ _ _ _ us ws h1 h2 => match us, ws, h1, h2 with | [_, _, _, _], [], _, _ => rfl
theorem n27 : ShN f31 s_ltest := fun _ _ _ _ _ _ us ws h1 h2 => match us, ws, h1, h2 with | [_, _, _], [], _, _ => rfl
theorem n28 : ShN f32 s_lstill := fun _ _ _ _ _ _ us ws h1 h2 => match us, ws, h1, h2 with | [_, _, _], [], _, _ => rfl
theorem n29 : ShN f36 s_lstep_words := fun _ _ _ _ _ _ us ws h1 h2 => match us, ws, h1, h2 with | [_], [], _, _ => rfl
theorem n30 : ShN f35 s_ltest_words := fun _ _ _ _ _ _ us ws h1 h2 => match us, ws, h1, h2 with | [_], [], _, _ => rfl
theorem n31 : ShN f34 s_lwords := fun _ _ _ _ _ _ us ws h1 h2 => match us, ws, h1, h2 with | [_], [], _, _ => rfl
theorem n32 : ShN f33 s_lbody := fun _ _ _ _ _ _ us ws h1 h2 => match us, ws, h1, h2 with | [_, _, _, _], [], _, _ => rfl
theorem n33 : ShN f20 s_lbag := fun _ _ _ _ _ _ us ws h1 h2 => match us, ws, h1, h2 with | [_], [], _, _ => rfl
theorem n34 : ShN f24 s_lnames := fun _ _ _ _ _ _ us ws h1 h2 => match us, ws, h1, h2 with | [_, _], [], _, _ => rfl
theorem n35 : ShN f25 s_lmixed := fun _ _ _ _ _ _ us ws h1 h2 => match us, ws, h1, h2 with | [_, _], [], _, _ => rfl
theorem n36 : ShN f38 s_lall_steps := fun _ _ _ _ _ _ us ws h1 h2 => match us, ws, h1, h2 with | [_, _, _], [], _, _ => rfl
theorem n37 : ShN f37 s_ltext := fun _ _ _ _ _ _ us ws h1 h2 => match us, ws, h1, h2 with | [_], [], _, _ => rfl
theorem n38 : ShN f14 s_read_steps := fun _ _ _ _ _ _ us ws h1 h2 => match us, ws, h1, h2 with | [_], [], _, _ => rfl
theorem n39 : ShN f19 s_text_of := fun _ _ _ _ _ _ us ws h1 h2 => match us, ws, h1, h2 with | [_], [], _, _ => rfl
theorem n40 : ShN f14 s_read_steps_0_text := fun _ _ _ _ _ _ us ws h1 h2 => match us, ws, h1, h2 with | [], [_], _, _ => rfl
theorem shN : ∀ sh ∈ G.shp, ∀ fi, G.fns[sh.fn]? = some fi → ShN fi sh := fun sh h fi hi => by
  simp only [G, List.mem_cons, List.mem_nil_iff, or_false] at h
  rcases h with rfl | rfl | rfl | rfl | rfl | rfl | rfl | rfl | rfl | rfl | rfl | rfl | rfl | rfl | rfl | rfl | rfl | rfl | rfl | rfl | rfl | rfl | rfl | rfl | rfl | rfl | rfl | rfl | rfl | rfl | rfl | rfl | rfl | rfl | rfl | rfl | rfl | rfl | rfl | rfl | rfl
  · cases (show some f39 = some fi from hi); exact n0
  · cases (show some f0 = some fi from hi); exact n1
  · cases (show some f4 = some fi from hi); exact n2
  · cases (show some f1 = some fi from hi); exact n3
  · cases (show some f5 = some fi from hi); exact n4
  · cases (show some f7 = some fi from hi); exact n5
  · cases (show some f11 = some fi from hi); exact n6
  · cases (show some f13 = some fi from hi); exact n7
  · cases (show some f8 = some fi from hi); exact n8
  · cases (show some f6 = some fi from hi); exact n9
  · cases (show some f9 = some fi from hi); exact n10
  · cases (show some f12 = some fi from hi); exact n11
  · cases (show some f10 = some fi from hi); exact n12
  · cases (show some f2 = some fi from hi); exact n13
  · cases (show some f3 = some fi from hi); exact n14
  · cases (show some f18 = some fi from hi); exact n15
  · cases (show some f15 = some fi from hi); exact n16
  · cases (show some f16 = some fi from hi); exact n17
  · cases (show some f17 = some fi from hi); exact n18
  · cases (show some f21 = some fi from hi); exact n19
  · cases (show some f23 = some fi from hi); exact n20
  · cases (show some f22 = some fi from hi); exact n21
  · cases (show some f26 = some fi from hi); exact n22
  · cases (show some f27 = some fi from hi); exact n23
  · cases (show some f28 = some fi from hi); exact n24
  · cases (show some f29 = some fi from hi); exact n25
  · cases (show some f30 = some fi from hi); exact n26
  · cases (show some f31 = some fi from hi); exact n27
  · cases (show some f32 = some fi from hi); exact n28
  · cases (show some f36 = some fi from hi); exact n29
  · cases (show some f35 = some fi from hi); exact n30
  · cases (show some f34 = some fi from hi); exact n31
  · cases (show some f33 = some fi from hi); exact n32
  · cases (show some f20 = some fi from hi); exact n33
  · cases (show some f24 = some fi from hi); exact n34
  · cases (show some f25 = some fi from hi); exact n35
  · cases (show some f38 = some fi from hi); exact n36
  · cases (show some f37 = some fi from hi); exact n37
  · cases (show some f14 = some fi from hi); exact n38
  · cases (show some f19 = some fi from hi); exact n39
  · cases (show some f14 = some fi from hi); exact n40
theorem gB : gloB G = true := by decide +kernel
theorem noD : ∀ fi ∈ G.fns, fi.d.dfl = [] ∧ fi.dfl = [] := fun fi h => by
  simp only [G, List.mem_cons, List.mem_nil_iff, or_false] at h
  rcases h with rfl | rfl | rfl | rfl | rfl | rfl | rfl | rfl | rfl | rfl | rfl | rfl | rfl | rfl | rfl | rfl | rfl | rfl | rfl | rfl | rfl | rfl | rfl | rfl | rfl | rfl | rfl | rfl | rfl | rfl | rfl | rfl | rfl | rfl | rfl | rfl | rfl | rfl | rfl | rfl <;> exact ⟨rfl, rfl⟩
def i_is_word : Nat := 0
def i_is_name : Nat := 1
def i_is_piece : Nat := 2
def i_Words___init__ : Nat := 3
def i_Words_here : Nat := 4
def i_Words_take : Nat := 5
def i_Words_take_name : Nat := 6
def i_Words_take_group : Nat := 7
def i_Words_take_number : Nat := 8
def i_Words_take_groups : Nat := 9
def i_Words_take_block : Nat := 10
def i_Words_take_steps : Nat := 11
def i_Words_take_test : Nat := 12
def i_Words_take_step : Nat := 13
def i_read_steps : Nat := 14
def i_test_words : Nat := 15
def i_block_words : Nat := 16
def i_step_words : Nat := 17
def i_words_of : Nat := 18
def i_text_of : Nat := 19
def i_lbag : Nat := 20
def i_lpull : Nat := 21
def i_lany : Nat := 22
def i_lsame : Nat := 23
def i_lnames : Nat := 24
def i_lmixed : Nat := 25
def i_lgroup : Nat := 26
def i_lbases : Nat := 27
def i_lstep : Nat := 28
def i_lends : Nat := 29
def i_lplain : Nat := 30
def i_ltest : Nat := 31
def i_lstill : Nat := 32
def i_lbody : Nat := 33
def i_lwords : Nat := 34
def i_ltest_words : Nat := 35
def i_lstep_words : Nat := 36
def i_ltext : Nat := 37
def i_lall_steps : Nat := 38
def i_law : Nat := 39
def cM : Nat := 80
def cW : Nat := 2000
abbrev cN : Nat := 90
@[simp] theorem ke_opened_opened : ((("opened" : PySem.Str) : PySem.Str) == ("opened" : PySem.Str)) = true := by decide +kernel
@[simp] theorem ke_opened_spot_now : ((("opened" : PySem.Str) : PySem.Str) == ("spot_now" : PySem.Str)) = false := by decide +kernel
@[simp] theorem ke_opened_words : ((("opened" : PySem.Str) : PySem.Str) == ("words" : PySem.Str)) = false := by decide +kernel
@[simp] theorem ke_spot_now_opened : ((("spot_now" : PySem.Str) : PySem.Str) == ("opened" : PySem.Str)) = false := by decide +kernel
@[simp] theorem ke_spot_now_spot_now : ((("spot_now" : PySem.Str) : PySem.Str) == ("spot_now" : PySem.Str)) = true := by decide +kernel
@[simp] theorem ke_spot_now_words : ((("spot_now" : PySem.Str) : PySem.Str) == ("words" : PySem.Str)) = false := by decide +kernel
@[simp] theorem ke_words_opened : ((("words" : PySem.Str) : PySem.Str) == ("opened" : PySem.Str)) = false := by decide +kernel
@[simp] theorem ke_words_spot_now : ((("words" : PySem.Str) : PySem.Str) == ("spot_now" : PySem.Str)) = false := by decide +kernel
@[simp] theorem ke_words_words : ((("words" : PySem.Str) : PySem.Str) == ("words" : PySem.Str)) = true := by decide +kernel
@[simp] theorem ke_here_opened : ((("here" : PySem.Str) : PySem.Str) == ("opened" : PySem.Str)) = false := by decide +kernel
@[simp] theorem ke_here_spot_now : ((("here" : PySem.Str) : PySem.Str) == ("spot_now" : PySem.Str)) = false := by decide +kernel
@[simp] theorem ke_here_words : ((("here" : PySem.Str) : PySem.Str) == ("words" : PySem.Str)) = false := by decide +kernel
@[simp] theorem ke_take_opened : ((("take" : PySem.Str) : PySem.Str) == ("opened" : PySem.Str)) = false := by decide +kernel
@[simp] theorem ke_take_spot_now : ((("take" : PySem.Str) : PySem.Str) == ("spot_now" : PySem.Str)) = false := by decide +kernel
@[simp] theorem ke_take_words : ((("take" : PySem.Str) : PySem.Str) == ("words" : PySem.Str)) = false := by decide +kernel
@[simp] theorem ke_take_block_opened : ((("take_block" : PySem.Str) : PySem.Str) == ("opened" : PySem.Str)) = false := by decide +kernel
@[simp] theorem ke_take_block_spot_now : ((("take_block" : PySem.Str) : PySem.Str) == ("spot_now" : PySem.Str)) = false := by decide +kernel
@[simp] theorem ke_take_block_words : ((("take_block" : PySem.Str) : PySem.Str) == ("words" : PySem.Str)) = false := by decide +kernel
@[simp] theorem ke_take_group_opened : ((("take_group" : PySem.Str) : PySem.Str) == ("opened" : PySem.Str)) = false := by decide +kernel
@[simp] theorem ke_take_group_spot_now : ((("take_group" : PySem.Str) : PySem.Str) == ("spot_now" : PySem.Str)) = false := by decide +kernel
@[simp] theorem ke_take_group_words : ((("take_group" : PySem.Str) : PySem.Str) == ("words" : PySem.Str)) = false := by decide +kernel
@[simp] theorem ke_take_groups_opened : ((("take_groups" : PySem.Str) : PySem.Str) == ("opened" : PySem.Str)) = false := by decide +kernel
@[simp] theorem ke_take_groups_spot_now : ((("take_groups" : PySem.Str) : PySem.Str) == ("spot_now" : PySem.Str)) = false := by decide +kernel
@[simp] theorem ke_take_groups_words : ((("take_groups" : PySem.Str) : PySem.Str) == ("words" : PySem.Str)) = false := by decide +kernel
@[simp] theorem ke_take_name_opened : ((("take_name" : PySem.Str) : PySem.Str) == ("opened" : PySem.Str)) = false := by decide +kernel
@[simp] theorem ke_take_name_spot_now : ((("take_name" : PySem.Str) : PySem.Str) == ("spot_now" : PySem.Str)) = false := by decide +kernel
@[simp] theorem ke_take_name_words : ((("take_name" : PySem.Str) : PySem.Str) == ("words" : PySem.Str)) = false := by decide +kernel
@[simp] theorem ke_take_number_opened : ((("take_number" : PySem.Str) : PySem.Str) == ("opened" : PySem.Str)) = false := by decide +kernel
@[simp] theorem ke_take_number_spot_now : ((("take_number" : PySem.Str) : PySem.Str) == ("spot_now" : PySem.Str)) = false := by decide +kernel
@[simp] theorem ke_take_number_words : ((("take_number" : PySem.Str) : PySem.Str) == ("words" : PySem.Str)) = false := by decide +kernel
@[simp] theorem ke_take_step_opened : ((("take_step" : PySem.Str) : PySem.Str) == ("opened" : PySem.Str)) = false := by decide +kernel
@[simp] theorem ke_take_step_spot_now : ((("take_step" : PySem.Str) : PySem.Str) == ("spot_now" : PySem.Str)) = false := by decide +kernel
@[simp] theorem ke_take_step_words : ((("take_step" : PySem.Str) : PySem.Str) == ("words" : PySem.Str)) = false := by decide +kernel
@[simp] theorem ke_take_steps_opened : ((("take_steps" : PySem.Str) : PySem.Str) == ("opened" : PySem.Str)) = false := by decide +kernel
@[simp] theorem ke_take_steps_spot_now : ((("take_steps" : PySem.Str) : PySem.Str) == ("spot_now" : PySem.Str)) = false := by decide +kernel
@[simp] theorem ke_take_steps_words : ((("take_steps" : PySem.Str) : PySem.Str) == ("words" : PySem.Str)) = false := by decide +kernel
@[simp] theorem ke_take_test_opened : ((("take_test" : PySem.Str) : PySem.Str) == ("opened" : PySem.Str)) = false := by decide +kernel
@[simp] theorem ke_take_test_spot_now : ((("take_test" : PySem.Str) : PySem.Str) == ("spot_now" : PySem.Str)) = false := by decide +kernel
@[simp] theorem ke_take_test_words : ((("take_test" : PySem.Str) : PySem.Str) == ("words" : PySem.Str)) = false := by decide +kernel
@[simp] theorem kd_opened_opened : (((("opened" : PySem.Str) : PySem.Str) = ("opened" : PySem.Str))) = True := by simp
@[simp] theorem kd_opened_spot_now : (((("opened" : PySem.Str) : PySem.Str) = ("spot_now" : PySem.Str))) = False := by simp; decide +kernel
@[simp] theorem kd_opened_words : (((("opened" : PySem.Str) : PySem.Str) = ("words" : PySem.Str))) = False := by simp; decide +kernel
@[simp] theorem kd_spot_now_opened : (((("spot_now" : PySem.Str) : PySem.Str) = ("opened" : PySem.Str))) = False := by simp; decide +kernel
@[simp] theorem kd_spot_now_spot_now : (((("spot_now" : PySem.Str) : PySem.Str) = ("spot_now" : PySem.Str))) = True := by simp
@[simp] theorem kd_spot_now_words : (((("spot_now" : PySem.Str) : PySem.Str) = ("words" : PySem.Str))) = False := by simp; decide +kernel
@[simp] theorem kd_words_opened : (((("words" : PySem.Str) : PySem.Str) = ("opened" : PySem.Str))) = False := by simp; decide +kernel
@[simp] theorem kd_words_spot_now : (((("words" : PySem.Str) : PySem.Str) = ("spot_now" : PySem.Str))) = False := by simp; decide +kernel
@[simp] theorem kd_words_words : (((("words" : PySem.Str) : PySem.Str) = ("words" : PySem.Str))) = True := by simp
@[simp] theorem fb_0_words : fieldB G 0 ("words" : PySem.Str) = true := by decide +kernel
@[simp] theorem fb_0_spot_now : fieldB G 0 ("spot_now" : PySem.Str) = true := by decide +kernel
@[simp] theorem fb_0_opened : fieldB G 0 ("opened" : PySem.Str) = true := by decide +kernel
@[simp] theorem me_0_here : mthI G 0 ("here" : PySem.Str) = some i_Words_here := by kernel_rfl
@[simp] theorem me_0_take : mthI G 0 ("take" : PySem.Str) = some i_Words_take := by kernel_rfl
@[simp] theorem me_0_take_name : mthI G 0 ("take_name" : PySem.Str) = some i_Words_take_name := by kernel_rfl
@[simp] theorem me_0_take_group : mthI G 0 ("take_group" : PySem.Str) = some i_Words_take_group := by kernel_rfl
@[simp] theorem me_0_take_number : mthI G 0 ("take_number" : PySem.Str) = some i_Words_take_number := by kernel_rfl
@[simp] theorem me_0_take_groups : mthI G 0 ("take_groups" : PySem.Str) = some i_Words_take_groups := by kernel_rfl
@[simp] theorem me_0_take_block : mthI G 0 ("take_block" : PySem.Str) = some i_Words_take_block := by kernel_rfl
@[simp] theorem me_0_take_steps : mthI G 0 ("take_steps" : PySem.Str) = some i_Words_take_steps := by kernel_rfl
@[simp] theorem me_0_take_test : mthI G 0 ("take_test" : PySem.Str) = some i_Words_take_test := by kernel_rfl
@[simp] theorem me_0_take_step : mthI G 0 ("take_step" : PySem.Str) = some i_Words_take_step := by kernel_rfl
@[simp] theorem mk_0 : iniI G 0 = some i_Words___init__ := by kernel_rfl
@[simp] theorem hf_Words___init__ : hasF G i_Words___init__ = true := by decide +kernel
@[simp] theorem hf_Words_here : hasF G i_Words_here = true := by decide +kernel
@[simp] theorem hf_Words_take : hasF G i_Words_take = true := by decide +kernel
@[simp] theorem hf_Words_take_name : hasF G i_Words_take_name = true := by decide +kernel
@[simp] theorem hf_Words_take_group : hasF G i_Words_take_group = true := by decide +kernel
@[simp] theorem hf_Words_take_number : hasF G i_Words_take_number = true := by decide +kernel
@[simp] theorem hf_Words_take_groups : hasF G i_Words_take_groups = true := by decide +kernel
@[simp] theorem hf_Words_take_block : hasF G i_Words_take_block = true := by decide +kernel
@[simp] theorem hf_Words_take_steps : hasF G i_Words_take_steps = true := by decide +kernel
@[simp] theorem hf_Words_take_test : hasF G i_Words_take_test = true := by decide +kernel
@[simp] theorem hf_Words_take_step : hasF G i_Words_take_step = true := by decide +kernel
@[simp] theorem sh_s_Words_here : shI G i_Words_here 1 [] = some (s_Words_here, []) := by kernel_rfl
@[simp] theorem sh_s_Words_take : shI G i_Words_take 2 [] = some (s_Words_take, []) := by kernel_rfl
@[simp] theorem sh_s_Words_take_group : shI G i_Words_take_group 1 [] = some (s_Words_take_group, []) := by kernel_rfl
@[simp] theorem sh_s_Words_take_steps : shI G i_Words_take_steps 1 [] = some (s_Words_take_steps, []) := by kernel_rfl
@[simp] theorem sh_s_Words_take_step : shI G i_Words_take_step 1 [] = some (s_Words_take_step, []) := by kernel_rfl
@[simp] theorem sh_s_Words_take_number : shI G i_Words_take_number 3 [] = some (s_Words_take_number, []) := by kernel_rfl
@[simp] theorem sh_s_Words_take_name : shI G i_Words_take_name 1 [] = some (s_Words_take_name, []) := by kernel_rfl
@[simp] theorem sh_s_Words_take_groups : shI G i_Words_take_groups 1 [] = some (s_Words_take_groups, []) := by kernel_rfl
@[simp] theorem sh_s_Words_take_test : shI G i_Words_take_test 1 [] = some (s_Words_take_test, []) := by kernel_rfl
@[simp] theorem sh_s_Words_take_block : shI G i_Words_take_block 1 [] = some (s_Words_take_block, []) := by kernel_rfl
@[simp] theorem sh_s_Words___init__ : shI G i_Words___init__ 2 [] = some (s_Words___init__, []) := by kernel_rfl
end Law

namespace Law
open PySem PySem.Spec PyProof.Rows U
/-! is_word: slots 0 value 1 most 2 sign -/
def b_is_word_0a_0 (calls : Calls) : MS := sB (mPure (.bl false)) .rt
def b_is_word_0 (calls : Calls) : MS := sIte (mOrT [mNot (mBind (mBind (mSeq [getVar 0, mPure (.ty "str")]) isiD) truD), mNot (mChainT (mPure (.int 1)) (mBind (mSeq [getVar 0]) lenD) (getVar 1) (cmpD .LtE) (cmpD .LtE))]) (sSeq [b_is_word_0a_0 calls]) (sSeq [])
def b_is_word_1 (calls : Calls) : MS := sB (mBind (mSeq [mL (lcM [2] (mBind (getVar 0) itemsD) (setSlot 2) (mPure true) (mBind (getVar 2) fun x => mBind (mPure (.str [97, 98, 99, 100, 101, 102, 103, 104, 105, 106, 107, 108, 109, 110, 111, 112, 113, 114, 115, 116, 117, 118, 119, 120, 121, 122])) (cmpD .In x)))]) (onBls fun bs => bs.all id)) .rt
def b_is_word (calls : Calls) : MS := sSeq [b_is_word_0 calls, b_is_word_1 calls]
theorem r_is_word (n : Nat) (ds : List D) (cs : List Cell) (h : ds.length = 2) : runF G cM cW (n + 1) i_is_word ds cs = endF (b_is_word (runF G cM cW n) ⟨ds.map some ++ List.replicate 1 none, cs⟩) := by
  match ds, h with
  | [_, _], _ => kernel_rfl
/-! is_name: slots 0 value -/
def b_is_name_0 (calls : Calls) : MS := sB (mBind (mSeq [getVar 0, mPure (.int 4)]) fun as => mBind (mSeq []) fun ks => callD calls i_is_word [] s_is_word as ks) .rt
def b_is_name (calls : Calls) : MS := sSeq [b_is_name_0 calls]
theorem r_is_name (n : Nat) (ds : List D) (cs : List Cell) (h : ds.length = 1) : runF G cM cW (n + 1) i_is_name ds cs = endF (b_is_name (runF G cM cW n) ⟨ds.map some ++ List.replicate 0 none, cs⟩) := by
  match ds, h with
  | [_], _ => kernel_rfl
/-! is_piece: slots 0 value -/
def b_is_piece_0 (calls : Calls) : MS := sB (mBind (mSeq [getVar 0, mPure (.int 6)]) fun as => mBind (mSeq []) fun ks => callD calls i_is_word [] s_is_word as ks) .rt
def b_is_piece (calls : Calls) : MS := sSeq [b_is_piece_0 calls]
theorem r_is_piece (n : Nat) (ds : List D) (cs : List Cell) (h : ds.length = 1) : runF G cM cW (n + 1) i_is_piece ds cs = endF (b_is_piece (runF G cM cW n) ⟨ds.map some ++ List.replicate 0 none, cs⟩) := by
  match ds, h with
  | [_], _ => kernel_rfl
/-! Words___init__: slots 0 self 1 text -/
def b_Words___init___0 (calls : Calls) : MS := sB (mBind (mMth "str" (getVar 1) (mSeq [mPure (.str [32])]) splitD) fun y => mBind (getVar 0) fun d => setAt G ("words" : PySem.Str) y d) fun _ => .nx
def b_Words___init___1 (calls : Calls) : MS := sB (mBind (mPure (.int 0)) fun y => mBind (getVar 0) fun d => setAt G ("spot_now" : PySem.Str) y d) fun _ => .nx
def b_Words___init___2 (calls : Calls) : MS := sB (mBind (mPure (.int 0)) fun y => mBind (getVar 0) fun d => setAt G ("opened" : PySem.Str) y d) fun _ => .nx
def b_Words___init__ (calls : Calls) : MS := sSeq [b_Words___init___0 calls, b_Words___init___1 calls, b_Words___init___2 calls]
theorem r_Words___init__ (n : Nat) (ds : List D) (cs : List Cell) (h : ds.length = 2) : runF G cM cW (n + 1) i_Words___init__ ds cs = endF (b_Words___init__ (runF G cM cW n) ⟨ds.map some ++ List.replicate 0 none, cs⟩) := by
  match ds, h with
  | [_, _], _ => kernel_rfl
/-! Words_here: slots 0 self -/
def b_Words_here_0 (calls : Calls) : MS := sB (mIte (mBind (mBind (getVar 0) (attrD G calls ("spot_now" : PySem.Str))) fun x => mBind (mBind (mSeq [mBind (getVar 0) (attrD G calls ("words" : PySem.Str))]) lenD) fun y => mBind (cmpD .Lt x y) asB) (mBind (mBind (getVar 0) (attrD G calls ("words" : PySem.Str))) fun x => mBind (mBind (getVar 0) (attrD G calls ("spot_now" : PySem.Str))) (idxD x)) (mPure (.non))) .rt
def b_Words_here (calls : Calls) : MS := sSeq [b_Words_here_0 calls]
theorem r_Words_here (n : Nat) (ds : List D) (cs : List Cell) (h : ds.length = 1) : runF G cM cW (n + 1) i_Words_here ds cs = endF (b_Words_here (runF G cM cW n) ⟨ds.map some ++ List.replicate 0 none, cs⟩) := by
  match ds, h with
  | [_], _ => kernel_rfl
/-! Words_take: slots 0 self 1 good 2 word -/
def b_Words_take_0 (calls : Calls) : MS := sB (mBind (getVar 0) fun d => methO G calls ("here" : PySem.Str) 0 [] d (mSeq []) (mSeq [])) fun d s => .nx { s with sl := s.sl.set 2 (some d) }
def b_Words_take_1a_0 (calls : Calls) : MS := fun _ => .bad
def b_Words_take_1 (calls : Calls) : MS := sIte (mOrT [mBind (getVar 2) fun x => mBind (mPure (.non)) fun y => mBind (cmpD .Is x y) asB, mNot (mBind (getVar 1) truD)]) (sSeq [b_Words_take_1a_0 calls]) (sSeq [])
def b_Words_take_2 (calls : Calls) : MS := sB (augA G ("spot_now" : PySem.Str) .Add (getVar 0) (mPure (.int 1))) fun _ => .nx
def b_Words_take_3 (calls : Calls) : MS := sB (getVar 2) .rt
def b_Words_take (calls : Calls) : MS := sSeq [b_Words_take_0 calls, b_Words_take_1 calls, b_Words_take_2 calls, b_Words_take_3 calls]
theorem r_Words_take (n : Nat) (ds : List D) (cs : List Cell) (h : ds.length = 2) : runF G cM cW (n + 1) i_Words_take ds cs = endF (b_Words_take (runF G cM cW n) ⟨ds.map some ++ List.replicate 1 none, cs⟩) := by
  match ds, h with
  | [_, _], _ => kernel_rfl
/-! Words_take_name: slots 0 self -/
def b_Words_take_name_0 (calls : Calls) : MS := sB (mBind (getVar 0) fun d => methO G calls ("take" : PySem.Str) 1 [] d (mSeq [mBind (mSeq [mBind (getVar 0) fun d => methO G calls ("here" : PySem.Str) 0 [] d (mSeq []) (mSeq [])]) fun as => mBind (mSeq []) fun ks => callD calls i_is_name [] s_is_name as ks]) (mSeq [])) .rt
def b_Words_take_name (calls : Calls) : MS := sSeq [b_Words_take_name_0 calls]
theorem r_Words_take_name (n : Nat) (ds : List D) (cs : List Cell) (h : ds.length = 1) : runF G cM cW (n + 1) i_Words_take_name ds cs = endF (b_Words_take_name (runF G cM cW n) ⟨ds.map some ++ List.replicate 0 none, cs⟩) := by
  match ds, h with
  | [_], _ => kernel_rfl
/-! Words_take_group: slots 0 self 1 found -/
def b_Words_take_group_0 (calls : Calls) : MS := sB (mCell (mBind (mSeq []) mChk)) fun d s => .nx { s with sl := s.sl.set 1 (some d) }
def b_Words_take_group_1_0 (calls : Calls) : MS := sB (muV .append 1 (mSeq [mBind (getVar 0) fun d => methO G calls ("take" : PySem.Str) 1 [] d (mSeq [mPure (.bl true)]) (mSeq [])])) fun _ => .nx
def b_Words_take_group_1 (calls : Calls) : MS := whileL (mAndT [mBind (mBind (mSeq [mBind (getVar 0) fun d => methO G calls ("here" : PySem.Str) 0 [] d (mSeq []) (mSeq [])]) fun as => mBind (mSeq []) fun ks => callD calls i_is_name [] s_is_name as ks) truD, mOrT [mBind (getVar 1) fun x => mBind (mL (mBind (mSeq []) mChk)) fun y => mBind (cmpD .Eq x y) asB, mBind (mBind (peek 1) fun _ => mBind (mBind (mPure (.int 1)) (unD .USub)) fun y => mBind (peek 1) fun x => idxD x y) fun x => mBind (mBind (getVar 0) fun d => methO G calls ("here" : PySem.Str) 0 [] d (mSeq []) (mSeq [])) fun y => mBind (cmpD .Lt x y) asB]]) (sSeq [b_Words_take_group_1_0 calls]) cW
def b_Words_take_group_2 (calls : Calls) : MS := sB (mBind (mSeq [getVar 1]) tupleD) .rt
def b_Words_take_group (calls : Calls) : MS := sSeq [b_Words_take_group_0 calls, b_Words_take_group_1 calls, b_Words_take_group_2 calls]
theorem r_Words_take_group (n : Nat) (ds : List D) (cs : List Cell) (h : ds.length = 1) : runF G cM cW (n + 1) i_Words_take_group ds cs = endF (b_Words_take_group (runF G cM cW n) ⟨ds.map some ++ List.replicate 1 none, cs⟩) := by
  match ds, h with
  | [_], _ => kernel_rfl
/-! Words_take_number: slots 0 self 1 least 2 most 3 word 4 good -/
def b_Words_take_number_0 (calls : Calls) : MS := sB (mBind (getVar 0) fun d => methO G calls ("here" : PySem.Str) 0 [] d (mSeq []) (mSeq [])) fun d s => .nx { s with sl := s.sl.set 3 (some d) }
def b_Words_take_number_1 (calls : Calls) : MS := sB (mAndV [mBind (getVar 3) fun x => mBind (mPure (.non)) (cmpD .IsNot x), mBind (mBind (mSeq [getVar 3]) lenD) fun x => mBind (mPure (.int 1)) (cmpD .Eq x), mBind (getVar 3) fun x => mBind (mBind (mPure (.str [48, 49, 50, 51, 52, 53, 54, 55, 56, 57])) fun x => mBind (mBind (getVar 1) asI) fun l => mBind (mBind (mBind (getVar 2) fun x => mBind (mPure (.int 1)) (binD .Add x)) asI) fun h => slcD x l h) (cmpD .In x)]) fun d s => .nx { s with sl := s.sl.set 4 (some d) }
def b_Words_take_number_2 (calls : Calls) : MS := sB (mBind (mSeq [mBind (getVar 0) fun d => methO G calls ("take" : PySem.Str) 1 [] d (mSeq [getVar 4]) (mSeq [])]) intD) .rt
def b_Words_take_number (calls : Calls) : MS := sSeq [b_Words_take_number_0 calls, b_Words_take_number_1 calls, b_Words_take_number_2 calls]
theorem r_Words_take_number (n : Nat) (ds : List D) (cs : List Cell) (h : ds.length = 3) : runF G cM cW (n + 1) i_Words_take_number ds cs = endF (b_Words_take_number (runF G cM cW n) ⟨ds.map some ++ List.replicate 2 none, cs⟩) := by
  match ds, h with
  | [_, _, _], _ => kernel_rfl
/-! Words_take_groups: slots 0 self 1 found -/
def b_Words_take_groups_0 (calls : Calls) : MS := sB (mCell (mBind (mSeq [mBind (getVar 0) fun d => methO G calls ("take_group" : PySem.Str) 0 [] d (mSeq []) (mSeq [])]) mChk)) fun d s => .nx { s with sl := s.sl.set 1 (some d) }
def b_Words_take_groups_1_0 (calls : Calls) : MS := sB (mBind (getVar 0) fun d => methO G calls ("take" : PySem.Str) 1 [] d (mSeq [mPure (.bl true)]) (mSeq [])) fun _ => .nx
def b_Words_take_groups_1_1 (calls : Calls) : MS := sB (muV .append 1 (mSeq [mBind (getVar 0) fun d => methO G calls ("take_group" : PySem.Str) 0 [] d (mSeq []) (mSeq [])])) fun _ => .nx
def b_Words_take_groups_1 (calls : Calls) : MS := whileL (mBind (mBind (getVar 0) fun d => methO G calls ("here" : PySem.Str) 0 [] d (mSeq []) (mSeq [])) fun x => mBind (mPure (.str [44])) fun y => mBind (cmpD .Eq x y) asB) (sSeq [b_Words_take_groups_1_0 calls, b_Words_take_groups_1_1 calls]) cW
def b_Words_take_groups_2 (calls : Calls) : MS := sB (mBind (mSeq [getVar 1]) tupleD) .rt
def b_Words_take_groups (calls : Calls) : MS := sSeq [b_Words_take_groups_0 calls, b_Words_take_groups_1 calls, b_Words_take_groups_2 calls]
theorem r_Words_take_groups (n : Nat) (ds : List D) (cs : List Cell) (h : ds.length = 1) : runF G cM cW (n + 1) i_Words_take_groups ds cs = endF (b_Words_take_groups (runF G cM cW n) ⟨ds.map some ++ List.replicate 1 none, cs⟩) := by
  match ds, h with
  | [_], _ => kernel_rfl
/-! Words_take_block: slots 0 self 1 found -/
def b_Words_take_block_0 (calls : Calls) : MS := sB (mBind (getVar 0) fun d => methO G calls ("take" : PySem.Str) 1 [] d (mSeq [mAndV [mBind (mBind (getVar 0) fun d => methO G calls ("here" : PySem.Str) 0 [] d (mSeq []) (mSeq [])) fun x => mBind (mPure (.str [40])) (cmpD .Eq x), mBind (mBind (getVar 0) (attrD G calls ("opened" : PySem.Str))) fun x => mBind (mPure (.int 20)) (cmpD .Lt x)]]) (mSeq [])) fun _ => .nx
def b_Words_take_block_1 (calls : Calls) : MS := sB (augA G ("opened" : PySem.Str) .Add (getVar 0) (mPure (.int 1))) fun _ => .nx
def b_Words_take_block_2 (calls : Calls) : MS := sB (mIte (mBind (mBind (getVar 0) fun d => methO G calls ("here" : PySem.Str) 0 [] d (mSeq []) (mSeq [])) fun x => mBind (mPure (.str [41])) fun y => mBind (cmpD .Eq x y) asB) (mBind (mSeq []) mTup) (mBind (getVar 0) fun d => methO G calls ("take_steps" : PySem.Str) 0 [] d (mSeq []) (mSeq []))) fun d s => .nx { s with sl := s.sl.set 1 (some d) }
def b_Words_take_block_3 (calls : Calls) : MS := sB (mBind (getVar 0) fun d => methO G calls ("take" : PySem.Str) 1 [] d (mSeq [mBind (mBind (getVar 0) fun d => methO G calls ("here" : PySem.Str) 0 [] d (mSeq []) (mSeq [])) fun x => mBind (mPure (.str [41])) (cmpD .Eq x)]) (mSeq [])) fun _ => .nx
def b_Words_take_block_4 (calls : Calls) : MS := sB (augA G ("opened" : PySem.Str) .Sub (getVar 0) (mPure (.int 1))) fun _ => .nx
def b_Words_take_block_5 (calls : Calls) : MS := sB (getVar 1) .rt
def b_Words_take_block (calls : Calls) : MS := sSeq [b_Words_take_block_0 calls, b_Words_take_block_1 calls, b_Words_take_block_2 calls, b_Words_take_block_3 calls, b_Words_take_block_4 calls, b_Words_take_block_5 calls]
theorem r_Words_take_block (n : Nat) (ds : List D) (cs : List Cell) (h : ds.length = 1) : runF G cM cW (n + 1) i_Words_take_block ds cs = endF (b_Words_take_block (runF G cM cW n) ⟨ds.map some ++ List.replicate 1 none, cs⟩) := by
  match ds, h with
  | [_], _ => kernel_rfl
/-! Words_take_steps: slots 0 self 1 found -/
def b_Words_take_steps_0 (calls : Calls) : MS := sB (mCell (mBind (mSeq [mBind (getVar 0) fun d => methO G calls ("take_step" : PySem.Str) 0 [] d (mSeq []) (mSeq [])]) mChk)) fun d s => .nx { s with sl := s.sl.set 1 (some d) }
def b_Words_take_steps_1_0 (calls : Calls) : MS := sB (mBind (getVar 0) fun d => methO G calls ("take" : PySem.Str) 1 [] d (mSeq [mPure (.bl true)]) (mSeq [])) fun _ => .nx
def b_Words_take_steps_1_1 (calls : Calls) : MS := sB (muV .append 1 (mSeq [mBind (getVar 0) fun d => methO G calls ("take_step" : PySem.Str) 0 [] d (mSeq []) (mSeq [])])) fun _ => .nx
def b_Words_take_steps_1 (calls : Calls) : MS := whileL (mBind (mBind (getVar 0) fun d => methO G calls ("here" : PySem.Str) 0 [] d (mSeq []) (mSeq [])) fun x => mBind (mPure (.str [59])) fun y => mBind (cmpD .Eq x y) asB) (sSeq [b_Words_take_steps_1_0 calls, b_Words_take_steps_1_1 calls]) cW
def b_Words_take_steps_2 (calls : Calls) : MS := sB (mBind (mSeq [getVar 1]) tupleD) .rt
def b_Words_take_steps (calls : Calls) : MS := sSeq [b_Words_take_steps_0 calls, b_Words_take_steps_1 calls, b_Words_take_steps_2 calls]
theorem r_Words_take_steps (n : Nat) (ds : List D) (cs : List Cell) (h : ds.length = 1) : runF G cM cW (n + 1) i_Words_take_steps ds cs = endF (b_Words_take_steps (runF G cM cW n) ⟨ds.map some ++ List.replicate 1 none, cs⟩) := by
  match ds, h with
  | [_], _ => kernel_rfl
/-! Words_take_test: slots 0 self 1 word 2 number 3 name -/
def b_Words_take_test_0 (calls : Calls) : MS := sB (mBind (getVar 0) fun d => methO G calls ("here" : PySem.Str) 0 [] d (mSeq []) (mSeq [])) fun d s => .nx { s with sl := s.sl.set 1 (some d) }
def b_Words_take_test_1 (calls : Calls) : MS := sB (mBind (getVar 0) fun d => methO G calls ("take" : PySem.Str) 1 [] d (mSeq [mBind (getVar 1) fun x => mBind (mBind (mSeq [mPure (.str [114, 97, 110, 107]), mPure (.str [115, 112, 97, 110, 115]), mPure (.str [119, 104, 111, 108, 101])]) mTup) (cmpD .In x)]) (mSeq [])) fun _ => .nx
def b_Words_take_test_2a_0 (calls : Calls) : MS := sB (mBind (getVar 0) fun d => methO G calls ("take_number" : PySem.Str) 2 [] d (mSeq [mPure (.int 0), mPure (.int 6)]) (mSeq [])) fun d s => .nx { s with sl := s.sl.set 2 (some d) }
def b_Words_take_test_2a_1 (calls : Calls) : MS := sB (mBind (mSeq [mPure (.str [114, 97, 110, 107]), mBind (getVar 0) fun d => methO G calls ("take_group" : PySem.Str) 0 [] d (mSeq []) (mSeq []), getVar 2]) mTup) .rt
def b_Words_take_test_2 (calls : Calls) : MS := sIte (mBind (getVar 1) fun x => mBind (mPure (.str [114, 97, 110, 107])) fun y => mBind (cmpD .Eq x y) asB) (sSeq [b_Words_take_test_2a_0 calls, b_Words_take_test_2a_1 calls]) (sSeq [])
def b_Words_take_test_3a_0 (calls : Calls) : MS := sB (mBind (getVar 0) fun d => methO G calls ("take_name" : PySem.Str) 0 [] d (mSeq []) (mSeq [])) fun d s => .nx { s with sl := s.sl.set 3 (some d) }
def b_Words_take_test_3a_1 (calls : Calls) : MS := sB (mBind (mSeq [mPure (.str [115, 112, 97, 110, 115]), mBind (getVar 0) fun d => methO G calls ("take_group" : PySem.Str) 0 [] d (mSeq []) (mSeq []), getVar 3]) mTup) .rt
def b_Words_take_test_3 (calls : Calls) : MS := sIte (mBind (getVar 1) fun x => mBind (mPure (.str [115, 112, 97, 110, 115])) fun y => mBind (cmpD .Eq x y) asB) (sSeq [b_Words_take_test_3a_0 calls, b_Words_take_test_3a_1 calls]) (sSeq [])
def b_Words_take_test_4 (calls : Calls) : MS := sB (mBind (mSeq [mPure (.str [119, 104, 111, 108, 101])]) mTup) .rt
def b_Words_take_test (calls : Calls) : MS := sSeq [b_Words_take_test_0 calls, b_Words_take_test_1 calls, b_Words_take_test_2 calls, b_Words_take_test_3 calls, b_Words_take_test_4 calls]
theorem r_Words_take_test (n : Nat) (ds : List D) (cs : List Cell) (h : ds.length = 1) : runF G cM cW (n + 1) i_Words_take_test ds cs = endF (b_Words_take_test (runF G cM cW n) ⟨ds.map some ++ List.replicate 3 none, cs⟩) := by
  match ds, h with
  | [_], _ => kernel_rfl
/-! Words_take_step: slots 0 self 1 word 2 name 3 test 4 first -/
def b_Words_take_step_0 (calls : Calls) : MS := sB (mBind (getVar 0) fun d => methO G calls ("here" : PySem.Str) 0 [] d (mSeq []) (mSeq [])) fun d s => .nx { s with sl := s.sl.set 1 (some d) }
def b_Words_take_step_1a_0 (calls : Calls) : MS := sB (mBind (getVar 0) fun d => methO G calls ("take" : PySem.Str) 1 [] d (mSeq [mPure (.bl true)]) (mSeq [])) fun _ => .nx
def b_Words_take_step_1a_1 (calls : Calls) : MS := sB (mBind (mSeq [getVar 1, mBind (getVar 0) fun d => methO G calls ("take_name" : PySem.Str) 0 [] d (mSeq []) (mSeq [])]) mTup) .rt
def b_Words_take_step_1 (calls : Calls) : MS := sIte (mBind (getVar 1) fun x => mBind (mBind (mSeq [mPure (.str [100, 101, 108, 101, 116, 101]), mPure (.str [99, 111, 110, 116, 114, 97, 99, 116]), mPure (.str [116, 111, 112])]) mTup) fun y => mBind (cmpD .In x y) asB) (sSeq [b_Words_take_step_1a_0 calls, b_Words_take_step_1a_1 calls]) (sSeq [])
def b_Words_take_step_2a_0 (calls : Calls) : MS := sB (mBind (mSeq [mBind (getVar 0) fun d => methO G calls ("take" : PySem.Str) 1 [] d (mSeq [mPure (.bl true)]) (mSeq [])]) mTup) .rt
def b_Words_take_step_2 (calls : Calls) : MS := sIte (mBind (getVar 1) fun x => mBind (mBind (mSeq [mPure (.str [100, 117, 97, 108]), mPure (.str [99, 117, 116])]) mTup) fun y => mBind (cmpD .In x y) asB) (sSeq [b_Words_take_step_2a_0 calls]) (sSeq [])
def b_Words_take_step_3a_0 (calls : Calls) : MS := sB (mBind (getVar 0) fun d => methO G calls ("take" : PySem.Str) 1 [] d (mSeq [mPure (.bl true)]) (mSeq [])) fun _ => .nx
def b_Words_take_step_3a_1 (calls : Calls) : MS := sB (mBind (getVar 0) fun d => methO G calls ("take_name" : PySem.Str) 0 [] d (mSeq []) (mSeq [])) fun d s => .nx { s with sl := s.sl.set 2 (some d) }
def b_Words_take_step_3a_2 (calls : Calls) : MS := sB (mBind (mSeq [getVar 1, getVar 2, mIte (mBind (getVar 1) fun x => mBind (mPure (.str [101, 120, 116, 101, 110, 100])) fun y => mBind (cmpD .Eq x y) asB) (mBind (getVar 0) fun d => methO G calls ("take_group" : PySem.Str) 0 [] d (mSeq []) (mSeq [])) (mBind (getVar 0) fun d => methO G calls ("take_name" : PySem.Str) 0 [] d (mSeq []) (mSeq []))]) mTup) .rt
def b_Words_take_step_3 (calls : Calls) : MS := sIte (mBind (getVar 1) fun x => mBind (mBind (mSeq [mPure (.str [101, 120, 116, 101, 110, 100]), mPure (.str [114, 101, 110, 97, 109, 101])]) mTup) fun y => mBind (cmpD .In x y) asB) (sSeq [b_Words_take_step_3a_0 calls, b_Words_take_step_3a_1 calls, b_Words_take_step_3a_2 calls]) (sSeq [])
def b_Words_take_step_4a_0 (calls : Calls) : MS := sB (mBind (getVar 0) fun d => methO G calls ("take" : PySem.Str) 1 [] d (mSeq [mPure (.bl true)]) (mSeq [])) fun _ => .nx
def b_Words_take_step_4a_1 (calls : Calls) : MS := sB (mBind (mSeq [getVar 1, mIte (mBind (getVar 1) fun x => mBind (mPure (.str [116, 114, 117, 110, 99, 97, 116, 101])) fun y => mBind (cmpD .Eq x y) asB) (mBind (getVar 0) fun d => methO G calls ("take_group" : PySem.Str) 0 [] d (mSeq []) (mSeq [])) (mBind (getVar 0) fun d => methO G calls ("take_groups" : PySem.Str) 0 [] d (mSeq []) (mSeq []))]) mTup) .rt
def b_Words_take_step_4 (calls : Calls) : MS := sIte (mOrT [mBind (getVar 1) fun x => mBind (mPure (.str [116, 114, 117, 110, 99, 97, 116, 101])) fun y => mBind (cmpD .Eq x y) asB, mBind (getVar 1) fun x => mBind (mPure (.str [117, 110, 105, 116, 101])) fun y => mBind (cmpD .Eq x y) asB]) (sSeq [b_Words_take_step_4a_0 calls, b_Words_take_step_4a_1 calls]) (sSeq [])
def b_Words_take_step_5a_0 (calls : Calls) : MS := sB (mBind (getVar 0) fun d => methO G calls ("take" : PySem.Str) 1 [] d (mSeq [mPure (.bl true)]) (mSeq [])) fun _ => .nx
def b_Words_take_step_5a_1 (calls : Calls) : MS := parM (mSeq [mBind (getVar 0) fun d => methO G calls ("take_test" : PySem.Str) 0 [] d (mSeq []) (mSeq []), mBind (getVar 0) fun d => methO G calls ("take_block" : PySem.Str) 0 [] d (mSeq []) (mSeq [])]) [3, 4]
def b_Words_take_step_5a_2 (calls : Calls) : MS := sB (mBind (getVar 0) fun d => methO G calls ("take" : PySem.Str) 1 [] d (mSeq [mBind (mBind (getVar 0) fun d => methO G calls ("here" : PySem.Str) 0 [] d (mSeq []) (mSeq [])) fun x => mBind (mPure (.str [101, 108, 115, 101])) (cmpD .Eq x)]) (mSeq [])) fun _ => .nx
def b_Words_take_step_5a_3 (calls : Calls) : MS := sB (mBind (mSeq [mPure (.str [105, 102]), getVar 3, getVar 4, mBind (getVar 0) fun d => methO G calls ("take_block" : PySem.Str) 0 [] d (mSeq []) (mSeq [])]) mTup) .rt
def b_Words_take_step_5 (calls : Calls) : MS := sIte (mBind (getVar 1) fun x => mBind (mPure (.str [105, 102])) fun y => mBind (cmpD .Eq x y) asB) (sSeq [b_Words_take_step_5a_0 calls, b_Words_take_step_5a_1 calls, b_Words_take_step_5a_2 calls, b_Words_take_step_5a_3 calls]) (sSeq [])
def b_Words_take_step_6a_0 (calls : Calls) : MS := sB (mBind (getVar 0) fun d => methO G calls ("take" : PySem.Str) 1 [] d (mSeq [mPure (.bl true)]) (mSeq [])) fun _ => .nx
def b_Words_take_step_6a_1 (calls : Calls) : MS := sB (mBind (mSeq [mPure (.str [114, 101, 112, 101, 97, 116]), mBind (getVar 0) fun d => methO G calls ("take_number" : PySem.Str) 2 [] d (mSeq [mPure (.int 1), mPure (.int 4)]) (mSeq []), mBind (getVar 0) fun d => methO G calls ("take_block" : PySem.Str) 0 [] d (mSeq []) (mSeq [])]) mTup) .rt
def b_Words_take_step_6 (calls : Calls) : MS := sIte (mBind (getVar 1) fun x => mBind (mPure (.str [114, 101, 112, 101, 97, 116])) fun y => mBind (cmpD .Eq x y) asB) (sSeq [b_Words_take_step_6a_0 calls, b_Words_take_step_6a_1 calls]) (sSeq [])
def b_Words_take_step_7 (calls : Calls) : MS := sB (mBind (getVar 0) fun d => methO G calls ("take" : PySem.Str) 1 [] d (mSeq [mBind (getVar 1) fun x => mBind (mPure (.str [117, 115, 101])) (cmpD .Eq x)]) (mSeq [])) fun _ => .nx
def b_Words_take_step_8 (calls : Calls) : MS := sB (mBind (mSeq [mPure (.str [117, 115, 101]), mBind (getVar 0) fun d => methO G calls ("take" : PySem.Str) 1 [] d (mSeq [mBind (mSeq [mBind (getVar 0) fun d => methO G calls ("here" : PySem.Str) 0 [] d (mSeq []) (mSeq [])]) fun as => mBind (mSeq []) fun ks => callD calls i_is_piece [] s_is_piece as ks]) (mSeq [])]) mTup) .rt
def b_Words_take_step (calls : Calls) : MS := sSeq [b_Words_take_step_0 calls, b_Words_take_step_1 calls, b_Words_take_step_2 calls, b_Words_take_step_3 calls, b_Words_take_step_4 calls, b_Words_take_step_5 calls, b_Words_take_step_6 calls, b_Words_take_step_7 calls, b_Words_take_step_8 calls]
theorem r_Words_take_step (n : Nat) (ds : List D) (cs : List Cell) (h : ds.length = 1) : runF G cM cW (n + 1) i_Words_take_step ds cs = endF (b_Words_take_step (runF G cM cW n) ⟨ds.map some ++ List.replicate 4 none, cs⟩) := by
  match ds, h with
  | [_], _ => kernel_rfl
/-! read_steps: slots 0 text 1 words 2 found -/
def b_read_steps_0a_0 (calls : Calls) : MS := fun _ => .bad
def b_read_steps_0 (calls : Calls) : MS := sIte (mNot (mBind (mBind (mSeq [getVar 0, mPure (.ty "str")]) isiD) truD)) (sSeq [b_read_steps_0a_0 calls]) (sSeq [])
def b_read_steps_1a_0 (calls : Calls) : MS := sB (mBind (mSeq []) mTup) .rt
def b_read_steps_1 (calls : Calls) : MS := sIte (mBind (getVar 0) fun x => mBind (mPure (.str [])) fun y => mBind (cmpD .Eq x y) asB) (sSeq [b_read_steps_1a_0 calls]) (sSeq [])
def b_read_steps_2 (calls : Calls) : MS := sB (mBind (mSeq [getVar 0]) fun as => mBind (mSeq []) fun ks => mkO G calls 0 1 [] as ks) fun d s => .nx { s with sl := s.sl.set 1 (some d) }
def b_read_steps_3 (calls : Calls) : MS := sB (mBind (getVar 1) fun d => methO G calls ("take_steps" : PySem.Str) 0 [] d (mSeq []) (mSeq [])) fun d s => .nx { s with sl := s.sl.set 2 (some d) }
def b_read_steps_4a_0 (calls : Calls) : MS := fun _ => .bad
def b_read_steps_4 (calls : Calls) : MS := sIte (mBind (mBind (getVar 1) fun d => methO G calls ("here" : PySem.Str) 0 [] d (mSeq []) (mSeq [])) fun x => mBind (mPure (.non)) fun y => mBind (cmpD .IsNot x y) asB) (sSeq [b_read_steps_4a_0 calls]) (sSeq [])
def b_read_steps_5 (calls : Calls) : MS := sB (getVar 2) .rt
def b_read_steps (calls : Calls) : MS := sSeq [b_read_steps_0 calls, b_read_steps_1 calls, b_read_steps_2 calls, b_read_steps_3 calls, b_read_steps_4 calls, b_read_steps_5 calls]
theorem r_read_steps (n : Nat) (ds : List D) (cs : List Cell) (h : ds.length = 1) : runF G cM cW (n + 1) i_read_steps ds cs = endF (b_read_steps (runF G cM cW n) ⟨ds.map some ++ List.replicate 2 none, cs⟩) := by
  match ds, h with
  | [_], _ => kernel_rfl
/-! test_words: slots 0 test -/
def b_test_words_0a_0 (calls : Calls) : MS := sB (mL (mBind (mCat [mOne (mPure (.str [114, 97, 110, 107])), mOne (mBind (mSeq [mBind (peek 0) fun _ => mBind (mPure (.int 2)) fun y => mBind (peek 0) fun x => idxD x y]) strD), mBind (mBind (peek 0) fun _ => mBind (mPure (.int 1)) fun y => mBind (peek 0) fun x => idxD x y) starD]) mChk)) .rt
def b_test_words_0 (calls : Calls) : MS := sIte (mBind (mBind (peek 0) fun _ => mBind (mPure (.int 0)) fun y => mBind (peek 0) fun x => idxD x y) fun x => mBind (mPure (.str [114, 97, 110, 107])) fun y => mBind (cmpD .Eq x y) asB) (sSeq [b_test_words_0a_0 calls]) (sSeq [])
def b_test_words_1 (calls : Calls) : MS := sB (mIte (mBind (mBind (peek 0) fun _ => mBind (mPure (.int 0)) fun y => mBind (peek 0) fun x => idxD x y) fun x => mBind (mPure (.str [115, 112, 97, 110, 115])) fun y => mBind (cmpD .Eq x y) asB) (mL (mBind (mCat [mOne (mPure (.str [115, 112, 97, 110, 115])), mOne (mBind (peek 0) fun _ => mBind (mPure (.int 2)) fun y => mBind (peek 0) fun x => idxD x y), mBind (mBind (peek 0) fun _ => mBind (mPure (.int 1)) fun y => mBind (peek 0) fun x => idxD x y) starD]) mChk)) (mL (mBind (mSeq [mPure (.str [119, 104, 111, 108, 101])]) mChk))) .rt
def b_test_words (calls : Calls) : MS := sSeq [b_test_words_0 calls, b_test_words_1 calls]
theorem r_test_words (n : Nat) (ds : List D) (cs : List Cell) (h : ds.length = 1) : runF G cM cW (n + 1) i_test_words ds cs = endF (b_test_words (runF G cM cW n) ⟨ds.map some ++ List.replicate 0 none, cs⟩) := by
  match ds, h with
  | [_], _ => kernel_rfl
/-! block_words: slots 0 steps -/
def b_block_words_0 (calls : Calls) : MS := sB (mL (mBind (mCat [mOne (mPure (.str [40])), mBind (mBind (mSeq [getVar 0]) fun as => mBind (mSeq []) fun ks => callD calls i_words_of [] s_words_of as ks) starD, mOne (mPure (.str [41]))]) mChk)) .rt
def b_block_words (calls : Calls) : MS := sSeq [b_block_words_0 calls]
theorem r_block_words (n : Nat) (ds : List D) (cs : List Cell) (h : ds.length = 1) : runF G cM cW (n + 1) i_block_words ds cs = endF (b_block_words (runF G cM cW n) ⟨ds.map some ++ List.replicate 0 none, cs⟩) := by
  match ds, h with
  | [_], _ => kernel_rfl
/-! step_words: slots 0 step 1 word 2 found 3 base -/
def b_step_words_0 (calls : Calls) : MS := sB (mBind (peek 0) fun _ => mBind (mPure (.int 0)) fun y => mBind (peek 0) fun x => idxD x y) fun d s => .nx { s with sl := s.sl.set 1 (some d) }
def b_step_words_1a_0 (calls : Calls) : MS := sB (mBind (mBind (mBind (mL (mBind (mCat [mOne (mPure (.str [105, 102])), mBind (mBind (mSeq [mBind (peek 0) fun _ => mBind (mPure (.int 1)) fun y => mBind (peek 0) fun x => idxD x y]) fun as => mBind (mSeq []) fun ks => callD calls i_test_words [] s_test_words as ks) starD]) mChk)) fun x => mBind (mBind (mSeq [mBind (peek 0) fun _ => mBind (mPure (.int 2)) fun y => mBind (peek 0) fun x => idxD x y]) fun as => mBind (mSeq []) fun ks => callD calls i_block_words [] s_block_words as ks) (binD .Add x)) fun x => mBind (mL (mBind (mSeq [mPure (.str [101, 108, 115, 101])]) mChk)) (binD .Add x)) fun x => mBind (mBind (mSeq [mBind (peek 0) fun _ => mBind (mPure (.int 3)) fun y => mBind (peek 0) fun x => idxD x y]) fun as => mBind (mSeq []) fun ks => callD calls i_block_words [] s_block_words as ks) (binD .Add x)) .rt
def b_step_words_1 (calls : Calls) : MS := sIte (mBind (getVar 1) fun x => mBind (mPure (.str [105, 102])) fun y => mBind (cmpD .Eq x y) asB) (sSeq [b_step_words_1a_0 calls]) (sSeq [])
def b_step_words_2a_0 (calls : Calls) : MS := sB (mBind (mL (mBind (mSeq [mPure (.str [114, 101, 112, 101, 97, 116]), mBind (mSeq [mBind (peek 0) fun _ => mBind (mPure (.int 1)) fun y => mBind (peek 0) fun x => idxD x y]) strD]) mChk)) fun x => mBind (mBind (mSeq [mBind (peek 0) fun _ => mBind (mPure (.int 2)) fun y => mBind (peek 0) fun x => idxD x y]) fun as => mBind (mSeq []) fun ks => callD calls i_block_words [] s_block_words as ks) (binD .Add x)) .rt
def b_step_words_2 (calls : Calls) : MS := sIte (mBind (getVar 1) fun x => mBind (mPure (.str [114, 101, 112, 101, 97, 116])) fun y => mBind (cmpD .Eq x y) asB) (sSeq [b_step_words_2a_0 calls]) (sSeq [])
def b_step_words_3a_0 (calls : Calls) : MS := sB (mL (mBind (mCat [mOne (mPure (.str [101, 120, 116, 101, 110, 100])), mOne (mBind (peek 0) fun _ => mBind (mPure (.int 1)) fun y => mBind (peek 0) fun x => idxD x y), mBind (mBind (peek 0) fun _ => mBind (mPure (.int 2)) fun y => mBind (peek 0) fun x => idxD x y) starD]) mChk)) .rt
def b_step_words_3 (calls : Calls) : MS := sIte (mBind (getVar 1) fun x => mBind (mPure (.str [101, 120, 116, 101, 110, 100])) fun y => mBind (cmpD .Eq x y) asB) (sSeq [b_step_words_3a_0 calls]) (sSeq [])
def b_step_words_4a_0 (calls : Calls) : MS := sB (mL (mBind (mCat [mOne (mPure (.str [116, 114, 117, 110, 99, 97, 116, 101])), mBind (mBind (peek 0) fun _ => mBind (mPure (.int 1)) fun y => mBind (peek 0) fun x => idxD x y) starD]) mChk)) .rt
def b_step_words_4 (calls : Calls) : MS := sIte (mBind (getVar 1) fun x => mBind (mPure (.str [116, 114, 117, 110, 99, 97, 116, 101])) fun y => mBind (cmpD .Eq x y) asB) (sSeq [b_step_words_4a_0 calls]) (sSeq [])
def b_step_words_5a_0 (calls : Calls) : MS := sB (mBind (mCat [mOne (mPure (.str [117, 110, 105, 116, 101])), mBind (mBind (mBind (peek 0) fun _ => mBind (mPure (.int 1)) fun y => mBind (peek 0) fun x => idxD x y) fun x => mBind (mPure (.int 0)) (idxD x)) starD]) mChk) (setOwn 2)
def b_step_words_5a_1_0 (calls : Calls) : MS := sB (mBind (getVar 2) fun x => mBind (mL (mBind (mCat [mOne (mPure (.str [44])), mBind (getVar 3) starD]) mChk)) (binD .Add x)) fun d s => .nx { s with sl := s.sl.set 2 (some d) }
def b_step_words_5a_1 (calls : Calls) : MS := sB (mBind (mBind (mBind (peek 0) fun _ => mBind (mPure (.int 1)) fun y => mBind (peek 0) fun x => idxD x y) fun x => mBind (mBind (mPure (.int 1)) asI) fun l => mBind (mPure none) fun h => slcD x l h) itemsD) (forL (setSlot 3) (sSeq [b_step_words_5a_1_0 calls]))
def b_step_words_5a_2 (calls : Calls) : MS := sB (getVar 2) .rt
def b_step_words_5 (calls : Calls) : MS := sIte (mBind (getVar 1) fun x => mBind (mPure (.str [117, 110, 105, 116, 101])) fun y => mBind (cmpD .Eq x y) asB) (sSeq [b_step_words_5a_0 calls, b_step_words_5a_1 calls, b_step_words_5a_2 calls]) (sSeq [])
def b_step_words_6 (calls : Calls) : MS := sB (mBind (mSeq [getVar 0]) listD) .rt
def b_step_words (calls : Calls) : MS := sSeq [b_step_words_0 calls, b_step_words_1 calls, b_step_words_2 calls, b_step_words_3 calls, b_step_words_4 calls, b_step_words_5 calls, b_step_words_6 calls]
theorem r_step_words (n : Nat) (ds : List D) (cs : List Cell) (h : ds.length = 1) : runF G cM cW (n + 1) i_step_words ds cs = endF (b_step_words (runF G cM cW n) ⟨ds.map some ++ List.replicate 3 none, cs⟩) := by
  match ds, h with
  | [_], _ => kernel_rfl
/-! words_of: slots 0 steps 1 found 2 at 3 step -/
def b_words_of_0 (calls : Calls) : MS := sB (mBind (mSeq []) mChk) (setOwn 1)
def b_words_of_1_0 (calls : Calls) : MS := sB (mBind (mBind (getVar 1) fun x => mBind (mIte (mBind (getVar 2) fun x => mBind (mPure (.int 0)) fun y => mBind (cmpD .Gt x y) asB) (mL (mBind (mSeq [mPure (.str [59])]) mChk)) (mL (mBind (mSeq []) mChk))) (binD .Add x)) fun x => mBind (mBind (mSeq [getVar 3]) fun as => mBind (mSeq []) fun ks => callD calls i_step_words [] s_step_words as ks) (binD .Add x)) fun d s => .nx { s with sl := s.sl.set 1 (some d) }
def b_words_of_1 (calls : Calls) : MS := sB (mBind (mSeq [getVar 0]) enumD) (forL (asgT (.tp [2, 3])) (sSeq [b_words_of_1_0 calls]))
def b_words_of_2 (calls : Calls) : MS := sB (getVar 1) .rt
def b_words_of (calls : Calls) : MS := sSeq [b_words_of_0 calls, b_words_of_1 calls, b_words_of_2 calls]
theorem r_words_of (n : Nat) (ds : List D) (cs : List Cell) (h : ds.length = 1) : runF G cM cW (n + 1) i_words_of ds cs = endF (b_words_of (runF G cM cW n) ⟨ds.map some ++ List.replicate 3 none, cs⟩) := by
  match ds, h with
  | [_], _ => kernel_rfl
/-! text_of: slots 0 steps -/
def b_text_of_0 (calls : Calls) : MS := sB (mMth "str" (mPure (.str [32])) (mSeq [mBind (mSeq [getVar 0]) fun as => mBind (mSeq []) fun ks => callD calls i_words_of [] s_words_of as ks]) joinD) .rt
def b_text_of (calls : Calls) : MS := sSeq [b_text_of_0 calls]
theorem r_text_of (n : Nat) (ds : List D) (cs : List Cell) (h : ds.length = 1) : runF G cM cW (n + 1) i_text_of ds cs = endF (b_text_of (runF G cM cW n) ⟨ds.map some ++ List.replicate 0 none, cs⟩) := by
  match ds, h with
  | [_], _ => kernel_rfl
/-! lbag: slots 0 lscript -/
def b_lbag_0 (calls : Calls) : MS := sB (mCell (mBind (mSeq [mBind (mSeq [mBind (getVar 0) fun x => mBind (mPure none) fun l => mBind (mBind (mPure (.int 63)) asI) fun h => slcD x l h]) listD, mPure (.int 0), mPure (.int 0), mBind (mPure (.int 10038)) fun x => mBind (mBind (mSeq [getVar 0]) lenD) (binD .Add x), mPure (.int 0)]) mChk)) .rt
def b_lbag (calls : Calls) : MS := sSeq [b_lbag_0 calls]
theorem r_lbag (n : Nat) (ds : List D) (cs : List Cell) (h : ds.length = 1) : runF G cM cW (n + 1) i_lbag ds cs = endF (b_lbag (runF G cM cW n) ⟨ds.map some ++ List.replicate 0 none, cs⟩) := by
  match ds, h with
  | [_], _ => kernel_rfl
/-! lpull: slots 0 lbag_here 1 lmany 2 lcell 3 ldigit 4 lseed -/
def b_lpull_0a_0 (calls : Calls) : MS := sB (mBind (mBind (peek 0) fun _ => mBind (mPure (.int 0)) fun y => mBind (peek 0) fun x => idxD x y) fun x => mBind (mBind (peek 0) fun _ => mBind (mPure (.int 1)) fun y => mBind (peek 0) fun x => idxD x y) (idxD x)) fun d s => .nx { s with sl := s.sl.set 2 (some d) }
def b_lpull_0a_1 (calls : Calls) : MS := sB (mBind (mBind (peek 0) fun _ => mBind (mPure (.int 1)) fun y => mBind (peek 0) fun x => idxD x y) fun x => mBind (mPure (.int 1)) (binD .Add x)) fun d s => if (s.sl[0]?).join.isSome then sB (mPure (.int 1)) (fun k => setIx 0 k d) s else .bad
def b_lpull_0a_2a_0 (calls : Calls) : MS := sB (getVar 2) fun d s => if (s.sl[0]?).join.isSome then sB (mPure (.int 2)) (fun k => setIx 0 k d) s else .bad
def b_lpull_0a_2b_0 (calls : Calls) : MS := sB (mBind (mBind (mSeq [mBind (mBind (mBind (mBind (peek 0) fun _ => mBind (mPure (.int 3)) fun y => mBind (peek 0) fun x => idxD x y) fun x => mBind (mPure (.int 48611)) (binD .Mult x)) fun x => mBind (mBind (mBind (mBind (mSeq [getVar 2]) intD) fun x => mBind (mPure (.int 2147483423)) (binD .Mod x)) fun x => mBind (mPure (.int 15013)) (binD .Mult x)) (binD .Add x)) fun x => mBind (mPure (.int 29)) (binD .Add x)]) intD) fun x => mBind (mPure (.int 2147483579)) (binD .Mod x)) fun d s => if (s.sl[0]?).join.isSome then sB (mPure (.int 3)) (fun k => setIx 0 k d) s else .bad
def b_lpull_0a_2 (calls : Calls) : MS := sIte (mBind (getVar 2) fun x => mBind (mBind (mPure (.int 10)) fun x => mBind (mPure (.int 18)) (binD .Pow x)) fun y => mBind (cmpD .GtE x y) asB) (sSeq [b_lpull_0a_2a_0 calls]) (sSeq [b_lpull_0a_2b_0 calls])
def b_lpull_0 (calls : Calls) : MS := sIte (mAndT [mBind (mBind (peek 0) fun _ => mBind (mPure (.int 2)) fun y => mBind (peek 0) fun x => idxD x y) fun x => mBind (mPure (.int 0)) fun y => mBind (cmpD .Eq x y) asB, mBind (mBind (peek 0) fun _ => mBind (mPure (.int 1)) fun y => mBind (peek 0) fun x => idxD x y) fun x => mBind (mBind (mSeq [mBind (peek 0) fun _ => mBind (mPure (.int 0)) fun y => mBind (peek 0) fun x => idxD x y]) lenD) fun y => mBind (cmpD .Lt x y) asB]) (sSeq [b_lpull_0a_0 calls, b_lpull_0a_1 calls, b_lpull_0a_2 calls]) (sSeq [])
def b_lpull_1a_0 (calls : Calls) : MS := sB (mBind (mBind (mSeq [mBind (peek 0) fun _ => mBind (mPure (.int 2)) fun y => mBind (peek 0) fun x => idxD x y]) intD) fun x => mBind (getVar 1) (binD .Mod x)) fun d s => .nx { s with sl := s.sl.set 3 (some d) }
def b_lpull_1a_1 (calls : Calls) : MS := sB (mBind (mBind (peek 0) fun _ => mBind (mPure (.int 2)) fun y => mBind (peek 0) fun x => idxD x y) fun x => mBind (getVar 1) (binD .FloorDiv x)) fun d s => if (s.sl[0]?).join.isSome then sB (mPure (.int 2)) (fun k => setIx 0 k d) s else .bad
def b_lpull_1a_2 (calls : Calls) : MS := sB (getVar 3) .rt
def b_lpull_1 (calls : Calls) : MS := sIte (mBind (mBind (peek 0) fun _ => mBind (mPure (.int 2)) fun y => mBind (peek 0) fun x => idxD x y) fun x => mBind (mPure (.int 0)) fun y => mBind (cmpD .Gt x y) asB) (sSeq [b_lpull_1a_0 calls, b_lpull_1a_1 calls, b_lpull_1a_2 calls]) (sSeq [])
def b_lpull_2 (calls : Calls) : MS := sB (mBind (mBind (peek 0) fun _ => mBind (mPure (.int 4)) fun y => mBind (peek 0) fun x => idxD x y) fun x => mBind (mPure (.int 1)) (binD .Add x)) fun d s => if (s.sl[0]?).join.isSome then sB (mPure (.int 4)) (fun k => setIx 0 k d) s else .bad
def b_lpull_3 (calls : Calls) : MS := sB (mBind (peek 0) fun _ => mBind (mPure (.int 3)) fun y => mBind (peek 0) fun x => idxD x y) fun d s => .nx { s with sl := s.sl.set 4 (some d) }
def b_lpull_4 (calls : Calls) : MS := sB (mBind (mBind (mSeq [mBind (mBind (mBind (mBind (mBind (getVar 4) fun x => mBind (getVar 4) (binD .Mult x)) fun x => mBind (mPure (.int 5)) (binD .Mult x)) fun x => mBind (mBind (getVar 4) fun x => mBind (mPure (.int 31153)) (binD .Mult x)) (binD .Add x)) fun x => mBind (mBind (mBind (peek 0) fun _ => mBind (mPure (.int 4)) fun y => mBind (peek 0) fun x => idxD x y) fun x => mBind (mPure (.int 1299827)) (binD .Mult x)) (binD .Add x)) fun x => mBind (mPure (.int 70001)) (binD .Add x)]) intD) fun x => mBind (mPure (.int 2147483549)) (binD .Mod x)) fun d s => if (s.sl[0]?).join.isSome then sB (mPure (.int 3)) (fun k => setIx 0 k d) s else .bad
def b_lpull_5 (calls : Calls) : MS := sB (mBind (mBind (mSeq [mBind (mBind (mBind (peek 0) fun _ => mBind (mPure (.int 3)) fun y => mBind (peek 0) fun x => idxD x y) fun x => mBind (mPure (.int 71)) (binD .FloorDiv x)) fun x => mBind (mBind (mBind (mBind (mSeq [mBind (peek 0) fun _ => mBind (mPure (.int 3)) fun y => mBind (peek 0) fun x => idxD x y]) intD) fun x => mBind (mPure (.int 7907)) (binD .Mod x)) fun x => mBind (mPure (.int 61)) (binD .Mult x)) (binD .Add x)]) intD) fun x => mBind (getVar 1) (binD .Mod x)) .rt
def b_lpull (calls : Calls) : MS := sSeq [b_lpull_0 calls, b_lpull_1 calls, b_lpull_2 calls, b_lpull_3 calls, b_lpull_4 calls, b_lpull_5 calls]
theorem r_lpull (n : Nat) (ds : List D) (cs : List Cell) (h : ds.length = 2) : runF G cM cW (n + 1) i_lpull ds cs = endF (b_lpull (runF G cM cW n) ⟨ds.map some ++ List.replicate 3 none, cs⟩) := by
  match ds, h with
  | [_, _], _ => kernel_rfl
/-! lany: slots 0 lbag_here 1 lthings -/
def b_lany_0 (calls : Calls) : MS := sB (mBind (peek 1) fun _ => mBind (mBind (mSeq [getVar 0, mBind (mSeq [getVar 1]) lenD]) fun as => mBind (mSeq []) fun ks => callD calls i_lpull [] s_lpull as ks) fun y => mBind (peek 1) fun x => idxD x y) .rt
def b_lany (calls : Calls) : MS := sSeq [b_lany_0 calls]
theorem r_lany (n : Nat) (ds : List D) (cs : List Cell) (h : ds.length = 2) : runF G cM cW (n + 1) i_lany ds cs = endF (b_lany (runF G cM cW n) ⟨ds.map some ++ List.replicate 0 none, cs⟩) := by
  match ds, h with
  | [_, _], _ => kernel_rfl
/-! lsame: slots 0 lfound 1 ldue 2 lone 3 ltwo -/
def b_lsame_0a_0a_0 (calls : Calls) : MS := sB (mPure (.bl false)) .rt
def b_lsame_0a_0 (calls : Calls) : MS := sIte (mOrT [mBind (mBind (mSeq [getVar 0, mPure (.ty "list")]) isiD) fun x => mBind (mBind (mSeq [getVar 1, mPure (.ty "list")]) isiD) fun y => mBind (cmpD .NotEq x y) asB, mBind (mBind (mSeq [getVar 0, mPure (.ty "tuple")]) isiD) fun x => mBind (mBind (mSeq [getVar 1, mPure (.ty "tuple")]) isiD) fun y => mBind (cmpD .NotEq x y) asB]) (sSeq [b_lsame_0a_0a_0 calls]) (sSeq [])
def b_lsame_0a_1 (calls : Calls) : MS := sB (mAndV [mBind (mBind (mSeq [getVar 0]) lenD) fun x => mBind (mBind (mSeq [getVar 1]) lenD) (cmpD .Eq x), mBind (mSeq [mL (lcM [2, 3] (mBind (mSeq [getVar 0, getVar 1]) zipD) (asgT (.tp [2, 3])) (mPure true) (mBind (mSeq [getVar 2, getVar 3]) fun as => mBind (mSeq []) fun ks => callD calls i_lsame [] s_lsame as ks))]) (onBls fun bs => bs.all id)]) .rt
def b_lsame_0 (calls : Calls) : MS := sIte (mBind (mBind (mSeq [getVar 1, mBind (mSeq [mPure (.ty "list"), mPure (.ty "tuple")]) mTup]) isiD) truD) (sSeq [b_lsame_0a_0 calls, b_lsame_0a_1 calls]) (sSeq [])
def b_lsame_1a_0 (calls : Calls) : MS := sB (mAndV [mBind (getVar 1) fun x => mBind (mPure (.non)) (cmpD .Is x), mBind (getVar 0) fun x => mBind (mPure (.non)) (cmpD .Is x)]) .rt
def b_lsame_1 (calls : Calls) : MS := sIte (mOrT [mBind (getVar 1) fun x => mBind (mPure (.non)) fun y => mBind (cmpD .Is x y) asB, mBind (getVar 0) fun x => mBind (mPure (.non)) fun y => mBind (cmpD .Is x y) asB]) (sSeq [b_lsame_1a_0 calls]) (sSeq [])
def b_lsame_2a_0 (calls : Calls) : MS := sB (mPure (.bl false)) .rt
def b_lsame_2 (calls : Calls) : MS := sIte (mOrT [mBind (mBind (mSeq [getVar 0, mPure (.ty "bool")]) isiD) fun x => mBind (mBind (mSeq [getVar 1, mPure (.ty "bool")]) isiD) fun y => mBind (cmpD .NotEq x y) asB, mBind (mBind (mSeq [getVar 0, mPure (.ty "int")]) isiD) fun x => mBind (mBind (mSeq [getVar 1, mPure (.ty "int")]) isiD) fun y => mBind (cmpD .NotEq x y) asB]) (sSeq [b_lsame_2a_0 calls]) (sSeq [])
def b_lsame_3 (calls : Calls) : MS := sB (mAndV [mBind (mBind (mSeq [getVar 0, mPure (.ty "str")]) isiD) fun x => mBind (mBind (mSeq [getVar 1, mPure (.ty "str")]) isiD) (cmpD .Eq x), mBind (getVar 0) fun x => mBind (getVar 1) (cmpD .Eq x)]) .rt
def b_lsame (calls : Calls) : MS := sSeq [b_lsame_0 calls, b_lsame_1 calls, b_lsame_2 calls, b_lsame_3 calls]
theorem r_lsame (n : Nat) (ds : List D) (cs : List Cell) (h : ds.length = 2) : runF G cM cW (n + 1) i_lsame ds cs = endF (b_lsame (runF G cM cW n) ⟨ds.map some ++ List.replicate 2 none, cs⟩) := by
  match ds, h with
  | [_, _], _ => kernel_rfl
/-! lnames: slots 0 lbag_here 1 lmany 2 lletters 3 lstem 4 lk 5 lat 6 lfirst -/
def b_lnames_0 (calls : Calls) : MS := sB (mPure (.str [97, 98, 99, 100, 101, 102, 103, 104, 105, 106, 107, 108, 109, 110, 111, 112, 113, 114, 115, 116, 117, 118, 119, 120, 121, 122])) fun d s => .nx { s with sl := s.sl.set 2 (some d) }
def b_lnames_1 (calls : Calls) : MS := sB (mMth "str" (mPure (.str [])) (mSeq [mL (lcM [4] (mBind (mSeq [mBind (mSeq [getVar 0, mPure (.int 4)]) fun as => mBind (mSeq []) fun ks => callD calls i_lpull [] s_lpull as ks]) range1D) (setSlot 4) (mPure true) (mBind (mSeq [getVar 0, getVar 2]) fun as => mBind (mSeq []) fun ks => callD calls i_lany [] s_lany as ks))]) joinD) fun d s => .nx { s with sl := s.sl.set 3 (some d) }
def b_lnames_2 (calls : Calls) : MS := asgM (mBind (mSeq [mBind (mSeq [getVar 0, mBind (mBind (mSeq [getVar 3]) lenD) fun x => mBind (mPure (.int 1)) (binD .Add x)]) fun as => mBind (mSeq []) fun ks => callD calls i_lpull [] s_lpull as ks, mBind (mSeq [getVar 0, mPure (.int 26)]) fun as => mBind (mSeq []) fun ks => callD calls i_lpull [] s_lpull as ks]) mTup) (asgT (.tp [5, 6]))
def b_lnames_3 (calls : Calls) : MS := sB (mL (lcM [4] (mBind (mSeq [getVar 1]) range1D) (setSlot 4) (mPure true) (mBind (mBind (mBind (getVar 3) fun x => mBind (mPure none) fun l => mBind (mBind (getVar 5) asI) fun h => slcD x l h) fun x => mBind (mBind (peek 2) fun _ => mBind (mBind (mBind (mSeq [mBind (getVar 6) fun x => mBind (mBind (mPure (.int 7)) fun x => mBind (getVar 4) (binD .Mult x)) (binD .Add x)]) intD) fun x => mBind (mPure (.int 26)) (binD .Mod x)) fun y => mBind (peek 2) fun x => idxD x y) (binD .Add x)) fun x => mBind (mBind (getVar 3) fun x => mBind (mBind (getVar 5) asI) fun l => mBind (mPure none) fun h => slcD x l h) (binD .Add x)))) .rt
def b_lnames (calls : Calls) : MS := sSeq [b_lnames_0 calls, b_lnames_1 calls, b_lnames_2 calls, b_lnames_3 calls]
theorem r_lnames (n : Nat) (ds : List D) (cs : List Cell) (h : ds.length = 2) : runF G cM cW (n + 1) i_lnames ds cs = endF (b_lnames (runF G cM cW n) ⟨ds.map some ++ List.replicate 5 none, cs⟩) := by
  match ds, h with
  | [_, _], _ => kernel_rfl
/-! lmixed: slots 0 lbag_here 1 lthings 2 lfound 3 lthing -/
def b_lmixed_0 (calls : Calls) : MS := sB (mCell (mBind (mSeq []) mChk)) fun d s => .nx { s with sl := s.sl.set 2 (some d) }
def b_lmixed_1_0 (calls : Calls) : MS := sB (muV .insert 2 (mSeq [mBind (mSeq [getVar 0, mBind (mBind (mSeq [getVar 2]) lenD) fun x => mBind (mPure (.int 1)) (binD .Add x)]) fun as => mBind (mSeq []) fun ks => callD calls i_lpull [] s_lpull as ks, getVar 3])) fun _ => .nx
def b_lmixed_1 (calls : Calls) : MS := sB (mBind (getVar 1) itemsD) (forL (setSlot 3) (sSeq [b_lmixed_1_0 calls]))
def b_lmixed_2 (calls : Calls) : MS := sB (getVar 2) .rt
def b_lmixed (calls : Calls) : MS := sSeq [b_lmixed_0 calls, b_lmixed_1 calls, b_lmixed_2 calls]
theorem r_lmixed (n : Nat) (ds : List D) (cs : List Cell) (h : ds.length = 2) : runF G cM cW (n + 1) i_lmixed ds cs = endF (b_lmixed (runF G cM cW n) ⟨ds.map some ++ List.replicate 2 none, cs⟩) := by
  match ds, h with
  | [_, _], _ => kernel_rfl
/-! lgroup: slots 0 lbag_here 1 lnames_here 2 lname -/
def b_lgroup_0 (calls : Calls) : MS := sB (mBind (mSeq [mBind (mL (lcM [2] (mBind (mBind (mSeq [getVar 1]) sortedD) itemsD) (setSlot 2) (mBind (mBind (mSeq [getVar 0, mPure (.int 2)]) fun as => mBind (mSeq []) fun ks => callD calls i_lpull [] s_lpull as ks) fun x => mBind (mPure (.int 0)) fun y => mBind (cmpD .Eq x y) asB) (getVar 2))) fun x => mBind (mPure none) fun l => mBind (mBind (mPure (.int 3)) asI) fun h => slcD x l h]) tupleD) .rt
def b_lgroup (calls : Calls) : MS := sSeq [b_lgroup_0 calls]
theorem r_lgroup (n : Nat) (ds : List D) (cs : List Cell) (h : ds.length = 2) : runF G cM cW (n + 1) i_lgroup ds cs = endF (b_lgroup (runF G cM cW n) ⟨ds.map some ++ List.replicate 1 none, cs⟩) := by
  match ds, h with
  | [_, _], _ => kernel_rfl
/-! lbases: slots 0 lbag_here 1 lgroup_here 2 lname -/
def b_lbases_0a_0 (calls : Calls) : MS := sB (mBind (mSeq [mBind (mSeq []) mTup]) mTup) .rt
def b_lbases_0 (calls : Calls) : MS := sIte (mBind (getVar 1) fun x => mBind (mBind (mSeq []) mTup) fun y => mBind (cmpD .Eq x y) asB) (sSeq [b_lbases_0a_0 calls]) (sSeq [])
def b_lbases_1a_0 (calls : Calls) : MS := sB (mBind (mSeq [mBind (getVar 1) fun x => mBind (mPure none) fun l => mBind (mBind (mPure (.int 2)) asI) fun h => slcD x l h, mBind (getVar 1) fun x => mBind (mBind (mPure (.int 1)) asI) fun l => mBind (mPure none) fun h => slcD x l h, mBind (mSeq [mBind (peek 1) fun _ => mBind (mPure (.int 0)) fun y => mBind (peek 1) fun x => idxD x y, mBind (peek 1) fun _ => mBind (mPure (.int 2)) fun y => mBind (peek 1) fun x => idxD x y]) mTup]) mTup) .rt
def b_lbases_1 (calls : Calls) : MS := sIte (mAndT [mBind (mBind (mSeq [getVar 1]) lenD) fun x => mBind (mPure (.int 3)) fun y => mBind (cmpD .Eq x y) asB, mBind (mBind (mSeq [getVar 0, mPure (.int 2)]) fun as => mBind (mSeq []) fun ks => callD calls i_lpull [] s_lpull as ks) fun x => mBind (mPure (.int 0)) fun y => mBind (cmpD .Eq x y) asB]) (sSeq [b_lbases_1a_0 calls]) (sSeq [])
def b_lbases_2 (calls : Calls) : MS := sB (mIte (mBind (mBind (mSeq [getVar 0, mPure (.int 2)]) fun as => mBind (mSeq []) fun ks => callD calls i_lpull [] s_lpull as ks) fun x => mBind (mPure (.int 0)) fun y => mBind (cmpD .Eq x y) asB) (mBind (mSeq [getVar 1]) mTup) (mBind (mSeq [mL (lcM [2] (mBind (getVar 1) itemsD) (setSlot 2) (mPure true) (mBind (mSeq [getVar 2]) mTup))]) tupleD)) .rt
def b_lbases (calls : Calls) : MS := sSeq [b_lbases_0 calls, b_lbases_1 calls, b_lbases_2 calls]
theorem r_lbases (n : Nat) (ds : List D) (cs : List Cell) (h : ds.length = 2) : runF G cM cW (n + 1) i_lbases ds cs = endF (b_lbases (runF G cM cW n) ⟨ds.map some ++ List.replicate 1 none, cs⟩) := by
  match ds, h with
  | [_, _], _ => kernel_rfl
/-! lstep: slots 0 lbag_here 1 lnames_here 2 lfresh 3 llooks 4 lway 5 lsome 6 lname -/
def b_lstep_0 (calls : Calls) : MS := parM (mSeq [mBind (mSeq [getVar 0, mPure (.int 11)]) fun as => mBind (mSeq []) fun ks => callD calls i_lpull [] s_lpull as ks, mBind (mSeq [getVar 0, getVar 1]) fun as => mBind (mSeq []) fun ks => callD calls i_lgroup [] s_lgroup as ks]) [4, 5]
def b_lstep_1a_0 (calls : Calls) : MS := sB (mBind (mSeq [getVar 0, getVar 1]) fun as => mBind (mSeq []) fun ks => callD calls i_lany [] s_lany as ks) fun d s => .nx { s with sl := s.sl.set 6 (some d) }
def b_lstep_1a_1 (calls : Calls) : MS := sB (mBind (mBind (mSeq [mBind (mSeq [mPure (.str [100, 101, 108, 101, 116, 101]), getVar 6]) mTup, mBind (mSeq [mPure (.str [99, 111, 110, 116, 114, 97, 99, 116]), getVar 6]) mTup, mBind (mSeq [mPure (.str [114, 101, 110, 97, 109, 101]), getVar 6, getVar 2]) mTup]) mTup) fun x => mBind (getVar 4) (idxD x)) .rt
def b_lstep_1 (calls : Calls) : MS := sIte (mAndT [mBind (getVar 4) fun x => mBind (mPure (.int 3)) fun y => mBind (cmpD .Lt x y) asB, mBind (getVar 1) fun x => mBind (mL (mBind (mSeq []) mChk)) fun y => mBind (cmpD .NotEq x y) asB]) (sSeq [b_lstep_1a_0 calls, b_lstep_1a_1 calls]) (sSeq [])
def b_lstep_2a_0 (calls : Calls) : MS := sB (mBind (mSeq [mPure (.str [100, 117, 97, 108])]) mTup) .rt
def b_lstep_2 (calls : Calls) : MS := sIte (mBind (getVar 4) fun x => mBind (mPure (.int 3)) fun y => mBind (cmpD .Eq x y) asB) (sSeq [b_lstep_2a_0 calls]) (sSeq [])
def b_lstep_3a_0 (calls : Calls) : MS := sB (mBind (mSeq [mPure (.str [101, 120, 116, 101, 110, 100]), getVar 2, getVar 5]) mTup) .rt
def b_lstep_3 (calls : Calls) : MS := sIte (mBind (getVar 4) fun x => mBind (mBind (mSeq [mPure (.int 4), mPure (.int 5)]) mTup) fun y => mBind (cmpD .In x y) asB) (sSeq [b_lstep_3a_0 calls]) (sSeq [])
def b_lstep_4a_0 (calls : Calls) : MS := sB (mIte (mBind (getVar 4) fun x => mBind (mPure (.int 6)) fun y => mBind (cmpD .Eq x y) asB) (mBind (mSeq [mPure (.str [116, 111, 112]), getVar 2]) mTup) (mBind (mSeq [mPure (.str [99, 117, 116])]) mTup)) .rt
def b_lstep_4 (calls : Calls) : MS := sIte (mAndT [mBind (getVar 4) fun x => mBind (mBind (mSeq [mPure (.int 6), mPure (.int 7)]) mTup) fun y => mBind (cmpD .In x y) asB, mBind (getVar 3) fun x => mBind (mPure (.int 0)) fun y => mBind (cmpD .Gt x y) asB]) (sSeq [b_lstep_4a_0 calls]) (sSeq [])
def b_lstep_5 (calls : Calls) : MS := sB (mIte (mBind (getVar 4) fun x => mBind (mPure (.int 8)) fun y => mBind (cmpD .Eq x y) asB) (mBind (mSeq [mPure (.str [117, 110, 105, 116, 101]), mBind (mSeq [getVar 0, getVar 5]) fun as => mBind (mSeq []) fun ks => callD calls i_lbases [] s_lbases as ks]) mTup) (mBind (mSeq [mPure (.str [116, 114, 117, 110, 99, 97, 116, 101]), getVar 5]) mTup)) .rt
def b_lstep (calls : Calls) : MS := sSeq [b_lstep_0 calls, b_lstep_1 calls, b_lstep_2 calls, b_lstep_3 calls, b_lstep_4 calls, b_lstep_5 calls]
theorem r_lstep (n : Nat) (ds : List D) (cs : List Cell) (h : ds.length = 4) : runF G cM cW (n + 1) i_lstep ds cs = endF (b_lstep (runF G cM cW n) ⟨ds.map some ++ List.replicate 3 none, cs⟩) := by
  match ds, h with
  | [_, _, _, _], _ => kernel_rfl
/-! lends: slots 0 lnames_here 1 lstep_here 2 lleft 3 lname -/
def b_lends_0 (calls : Calls) : MS := sB (lcM [3] (mBind (getVar 0) itemsD) (setSlot 3) (mOrT [mBind (mBind (peek 1) fun _ => mBind (mPure (.int 0)) fun y => mBind (peek 1) fun x => idxD x y) fun x => mBind (mBind (mSeq [mPure (.str [100, 101, 108, 101, 116, 101]), mPure (.str [99, 111, 110, 116, 114, 97, 99, 116]), mPure (.str [114, 101, 110, 97, 109, 101])]) mTup) fun y => mBind (cmpD .NotIn x y) asB, mBind (getVar 3) fun x => mBind (mBind (peek 1) fun _ => mBind (mPure (.int 1)) fun y => mBind (peek 1) fun x => idxD x y) fun y => mBind (cmpD .NotEq x y) asB]) (getVar 3)) (setOwn 2)
def b_lends_1a_0 (calls : Calls) : MS := sB (mBind (getVar 2) fun x => mBind (mL (mBind (mSeq [mIte (mBind (mBind (peek 1) fun _ => mBind (mPure (.int 0)) fun y => mBind (peek 1) fun x => idxD x y) fun x => mBind (mPure (.str [114, 101, 110, 97, 109, 101])) fun y => mBind (cmpD .Eq x y) asB) (mBind (peek 1) fun _ => mBind (mPure (.int 2)) fun y => mBind (peek 1) fun x => idxD x y) (mBind (peek 1) fun _ => mBind (mPure (.int 1)) fun y => mBind (peek 1) fun x => idxD x y)]) mChk)) (binD .Add x)) fun d s => .nx { s with sl := s.sl.set 2 (some d) }
def b_lends_1 (calls : Calls) : MS := sIte (mBind (mBind (peek 1) fun _ => mBind (mPure (.int 0)) fun y => mBind (peek 1) fun x => idxD x y) fun x => mBind (mBind (mSeq [mPure (.str [101, 120, 116, 101, 110, 100]), mPure (.str [116, 111, 112]), mPure (.str [114, 101, 110, 97, 109, 101])]) mTup) fun y => mBind (cmpD .In x y) asB) (sSeq [b_lends_1a_0 calls]) (sSeq [])
def b_lends_2 (calls : Calls) : MS := sB (mBind (mSeq [getVar 2]) sortedD) .rt
def b_lends (calls : Calls) : MS := sSeq [b_lends_0 calls, b_lends_1 calls, b_lends_2 calls]
theorem r_lends (n : Nat) (ds : List D) (cs : List Cell) (h : ds.length = 2) : runF G cM cW (n + 1) i_lends ds cs = endF (b_lends (runF G cM cW n) ⟨ds.map some ++ List.replicate 2 none, cs⟩) := by
  match ds, h with
  | [_, _], _ => kernel_rfl
/-! lplain: slots 0 lbag_here 1 lnames_here 2 lfresh 3 llooks 4 lsteps 5 lhere 6 lword 7 lstep_here -/
def b_lplain_0 (calls : Calls) : MS := parM (mSeq [mCell (mBind (mSeq []) mChk), mBind (mSeq [getVar 1]) sortedD]) [4, 5]
def b_lplain_1_0 (calls : Calls) : MS := sB (mBind (mSeq [getVar 0, getVar 5, getVar 6, getVar 3]) fun as => mBind (mSeq []) fun ks => callD calls i_lstep [] s_lstep as ks) fun d s => .nx { s with sl := s.sl.set 7 (some d) }
def b_lplain_1_1 (calls : Calls) : MS := sB (mBind (getVar 3) fun x => mBind (mBind (mSeq [mBind (mBind (peek 7) fun _ => mBind (mPure (.int 0)) fun y => mBind (peek 7) fun x => idxD x y) fun x => mBind (mBind (mSeq [mPure (.str [116, 111, 112]), mPure (.str [99, 117, 116])]) mTup) (cmpD .In x)]) intD) (binD .Sub x)) fun d s => .nx { s with sl := s.sl.set 3 (some d) }
def b_lplain_1_2 (calls : Calls) : MS := sB (mBind (mSeq [getVar 5, getVar 7]) fun as => mBind (mSeq []) fun ks => callD calls i_lends [] s_lends as ks) fun d s => .nx { s with sl := s.sl.set 5 (some d) }
def b_lplain_1_3 (calls : Calls) : MS := sB (muV .append 4 (mSeq [getVar 7])) fun _ => .nx
def b_lplain_1 (calls : Calls) : MS := sB (mBind (getVar 2) itemsD) (forL (setSlot 6) (sSeq [b_lplain_1_0 calls, b_lplain_1_1 calls, b_lplain_1_2 calls, b_lplain_1_3 calls]))
def b_lplain_2 (calls : Calls) : MS := sB (mBind (mSeq [mBind (mSeq [getVar 4]) tupleD, getVar 5, getVar 3]) mTup) .rt
def b_lplain (calls : Calls) : MS := sSeq [b_lplain_0 calls, b_lplain_1 calls, b_lplain_2 calls]
theorem r_lplain (n : Nat) (ds : List D) (cs : List Cell) (h : ds.length = 4) : runF G cM cW (n + 1) i_lplain ds cs = endF (b_lplain (runF G cM cW n) ⟨ds.map some ++ List.replicate 4 none, cs⟩) := by
  match ds, h with
  | [_, _, _, _], _ => kernel_rfl
/-! ltest: slots 0 lbag_here 1 lnames_here 2 llooks 3 lway 4 lsome -/
def b_ltest_0 (calls : Calls) : MS := parM (mSeq [mBind (mSeq [getVar 0, mPure (.int 4)]) fun as => mBind (mSeq []) fun ks => callD calls i_lpull [] s_lpull as ks, mBind (mSeq [getVar 0, getVar 1]) fun as => mBind (mSeq []) fun ks => callD calls i_lgroup [] s_lgroup as ks]) [3, 4]
def b_ltest_1a_0 (calls : Calls) : MS := sB (mBind (mSeq [mPure (.str [119, 104, 111, 108, 101])]) mTup) .rt
def b_ltest_1 (calls : Calls) : MS := sIte (mAndT [mBind (getVar 3) fun x => mBind (mPure (.int 0)) fun y => mBind (cmpD .Eq x y) asB, mBind (getVar 2) fun x => mBind (mPure (.int 0)) fun y => mBind (cmpD .Gt x y) asB]) (sSeq [b_ltest_1a_0 calls]) (sSeq [])
def b_ltest_2 (calls : Calls) : MS := sB (mIte (mAndT [mBind (getVar 3) fun x => mBind (mPure (.int 1)) fun y => mBind (cmpD .Eq x y) asB, mBind (getVar 1) fun x => mBind (mL (mBind (mSeq []) mChk)) fun y => mBind (cmpD .NotEq x y) asB]) (mBind (mSeq [mPure (.str [115, 112, 97, 110, 115]), getVar 4, mBind (mSeq [getVar 0, getVar 1]) fun as => mBind (mSeq []) fun ks => callD calls i_lany [] s_lany as ks]) mTup) (mBind (mSeq [mPure (.str [114, 97, 110, 107]), getVar 4, mBind (mSeq [getVar 0, mPure (.int 4)]) fun as => mBind (mSeq []) fun ks => callD calls i_lpull [] s_lpull as ks]) mTup)) .rt
def b_ltest (calls : Calls) : MS := sSeq [b_ltest_0 calls, b_ltest_1 calls, b_ltest_2 calls]
theorem r_ltest (n : Nat) (ds : List D) (cs : List Cell) (h : ds.length = 3) : runF G cM cW (n + 1) i_ltest ds cs = endF (b_ltest (runF G cM cW n) ⟨ds.map some ++ List.replicate 2 none, cs⟩) := by
  match ds, h with
  | [_, _, _], _ => kernel_rfl
/-! lstill: slots 0 lbag_here 1 lnames_here 2 llooks 3 lsteps 4 lk 5 lway 6 lsome 7 lstep_here -/
def b_lstill_0 (calls : Calls) : MS := sB (mCell (mBind (mSeq []) mChk)) fun d s => .nx { s with sl := s.sl.set 3 (some d) }
def b_lstill_1_0 (calls : Calls) : MS := parM (mSeq [mBind (mSeq [getVar 0, mPure (.int 3)]) fun as => mBind (mSeq []) fun ks => callD calls i_lpull [] s_lpull as ks, mBind (mSeq [getVar 0, getVar 1]) fun as => mBind (mSeq []) fun ks => callD calls i_lgroup [] s_lgroup as ks]) [5, 6]
def b_lstill_1_1 (calls : Calls) : MS := sB (mIte (mBind (getVar 5) fun x => mBind (mPure (.int 0)) fun y => mBind (cmpD .Eq x y) asB) (mBind (mSeq [mPure (.str [116, 114, 117, 110, 99, 97, 116, 101]), getVar 6]) mTup) (mBind (mSeq [mPure (.str [117, 110, 105, 116, 101]), mBind (mSeq [getVar 0, getVar 6]) fun as => mBind (mSeq []) fun ks => callD calls i_lbases [] s_lbases as ks]) mTup)) fun d s => .nx { s with sl := s.sl.set 7 (some d) }
def b_lstill_1_2a_0 (calls : Calls) : MS := parM (mSeq [mBind (mSeq [mPure (.str [99, 117, 116])]) mTup, mBind (getVar 2) fun x => mBind (mPure (.int 1)) (binD .Sub x)]) [7, 2]
def b_lstill_1_2 (calls : Calls) : MS := sIte (mAndT [mBind (getVar 5) fun x => mBind (mPure (.int 2)) fun y => mBind (cmpD .Eq x y) asB, mBind (getVar 2) fun x => mBind (mPure (.int 0)) fun y => mBind (cmpD .Gt x y) asB]) (sSeq [b_lstill_1_2a_0 calls]) (sSeq [])
def b_lstill_1_3 (calls : Calls) : MS := sB (muV .append 3 (mSeq [getVar 7])) fun _ => .nx
def b_lstill_1 (calls : Calls) : MS := sB (mBind (mSeq [mBind (mSeq [getVar 0, mPure (.int 3)]) fun as => mBind (mSeq []) fun ks => callD calls i_lpull [] s_lpull as ks]) range1D) (forL (setSlot 4) (sSeq [b_lstill_1_0 calls, b_lstill_1_1 calls, b_lstill_1_2 calls, b_lstill_1_3 calls]))
def b_lstill_2 (calls : Calls) : MS := sB (mBind (mSeq [mBind (mSeq [getVar 3]) tupleD, getVar 2]) mTup) .rt
def b_lstill (calls : Calls) : MS := sSeq [b_lstill_0 calls, b_lstill_1 calls, b_lstill_2 calls]
theorem r_lstill (n : Nat) (ds : List D) (cs : List Cell) (h : ds.length = 3) : runF G cM cW (n + 1) i_lstill ds cs = endF (b_lstill (runF G cM cW n) ⟨ds.map some ++ List.replicate 5 none, cs⟩) := by
  match ds, h with
  | [_, _, _], _ => kernel_rfl
/-! lbody: slots 0 lbag_here 1 lnames_here 2 lfresh 3 llooks 4 lat 5 lsteps 6 lhere 7 ltest_here 8 lfirst 9 lsecond 10 llate -/
def b_lbody_0 (calls : Calls) : MS := sB (mBind (mSeq [getVar 0, mBind (mBind (mSeq [getVar 2]) lenD) fun x => mBind (mPure (.int 1)) (binD .Add x)]) fun as => mBind (mSeq []) fun ks => callD calls i_lpull [] s_lpull as ks) fun d s => .nx { s with sl := s.sl.set 4 (some d) }
def b_lbody_1 (calls : Calls) : MS := asgM (mBind (mSeq [getVar 0, getVar 1, mBind (getVar 2) fun x => mBind (mPure none) fun l => mBind (mBind (getVar 4) asI) fun h => slcD x l h, getVar 3]) fun as => mBind (mSeq []) fun ks => callD calls i_lplain [] s_lplain as ks) (asgT (.tp [5, 6, 3]))
def b_lbody_2a_0 (calls : Calls) : MS := sB (mBind (mSeq [getVar 0, getVar 6, getVar 3]) fun as => mBind (mSeq []) fun ks => callD calls i_ltest [] s_ltest as ks) fun d s => .nx { s with sl := s.sl.set 7 (some d) }
def b_lbody_2a_1 (calls : Calls) : MS := sB (mBind (getVar 3) fun x => mBind (mBind (mSeq [mBind (getVar 7) fun x => mBind (mBind (mSeq [mPure (.str [119, 104, 111, 108, 101])]) mTup) (cmpD .Eq x)]) intD) (binD .Sub x)) fun d s => .nx { s with sl := s.sl.set 3 (some d) }
def b_lbody_2a_2 (calls : Calls) : MS := asgM (mBind (mSeq [getVar 0, getVar 6, getVar 3]) fun as => mBind (mSeq []) fun ks => callD calls i_lstill [] s_lstill as ks) (asgT (.tp [8, 3]))
def b_lbody_2a_3 (calls : Calls) : MS := asgM (mBind (mSeq [getVar 0, getVar 6, getVar 3]) fun as => mBind (mSeq []) fun ks => callD calls i_lstill [] s_lstill as ks) (asgT (.tp [9, 3]))
def b_lbody_2a_4 (calls : Calls) : MS := sB (mBind (getVar 5) fun x => mBind (mBind (mSeq [mBind (mSeq [mPure (.str [105, 102]), getVar 7, getVar 8, getVar 9]) mTup]) mTup) (binD .Add x)) fun d s => .nx { s with sl := s.sl.set 5 (some d) }
def b_lbody_2 (calls : Calls) : MS := sIte (mBind (mBind (mSeq [getVar 0, mPure (.int 2)]) fun as => mBind (mSeq []) fun ks => callD calls i_lpull [] s_lpull as ks) fun x => mBind (mPure (.int 0)) fun y => mBind (cmpD .Eq x y) asB) (sSeq [b_lbody_2a_0 calls, b_lbody_2a_1 calls, b_lbody_2a_2 calls, b_lbody_2a_3 calls, b_lbody_2a_4 calls]) (sSeq [])
def b_lbody_3a_0 (calls : Calls) : MS := sB (mBind (getVar 5) fun x => mBind (mBind (mSeq [mBind (mSeq [mPure (.str [114, 101, 112, 101, 97, 116]), mBind (mPure (.int 1)) fun x => mBind (mBind (mSeq [getVar 0, mPure (.int 3)]) fun as => mBind (mSeq []) fun ks => callD calls i_lpull [] s_lpull as ks) (binD .Add x), mBind (mBind (mSeq [getVar 0, getVar 6, mPure (.int 0)]) fun as => mBind (mSeq []) fun ks => callD calls i_lstill [] s_lstill as ks) fun x => mBind (mPure (.int 0)) (idxD x)]) mTup]) mTup) (binD .Add x)) fun d s => .nx { s with sl := s.sl.set 5 (some d) }
def b_lbody_3 (calls : Calls) : MS := sIte (mBind (mBind (mSeq [getVar 0, mPure (.int 4)]) fun as => mBind (mSeq []) fun ks => callD calls i_lpull [] s_lpull as ks) fun x => mBind (mPure (.int 0)) fun y => mBind (cmpD .Eq x y) asB) (sSeq [b_lbody_3a_0 calls]) (sSeq [])
def b_lbody_4 (calls : Calls) : MS := asgM (mBind (mSeq [getVar 0, getVar 6, mBind (getVar 2) fun x => mBind (mBind (getVar 4) asI) fun l => mBind (mPure none) fun h => slcD x l h, getVar 3]) fun as => mBind (mSeq []) fun ks => callD calls i_lplain [] s_lplain as ks) (asgT (.tp [10, 6, 3]))
def b_lbody_5 (calls : Calls) : MS := sB (mBind (mSeq [mBind (getVar 5) fun x => mBind (getVar 10) (binD .Add x), getVar 6]) mTup) .rt
def b_lbody (calls : Calls) : MS := sSeq [b_lbody_0 calls, b_lbody_1 calls, b_lbody_2 calls, b_lbody_3 calls, b_lbody_4 calls, b_lbody_5 calls]
theorem r_lbody (n : Nat) (ds : List D) (cs : List Cell) (h : ds.length = 4) : runF G cM cW (n + 1) i_lbody ds cs = endF (b_lbody (runF G cM cW n) ⟨ds.map some ++ List.replicate 7 none, cs⟩) := by
  match ds, h with
  | [_, _, _, _], _ => kernel_rfl
/-! lwords: slots 0 lsteps 1 lfound 2 lstep_here -/
def b_lwords_0 (calls : Calls) : MS := sB (mBind (mSeq []) mChk) (setOwn 1)
def b_lwords_1_0 (calls : Calls) : MS := sB (mBind (mBind (getVar 1) fun x => mBind (mIte (mBind (getVar 1) fun x => mBind (mL (mBind (mSeq []) mChk)) fun y => mBind (cmpD .NotEq x y) asB) (mL (mBind (mSeq [mPure (.str [59])]) mChk)) (mL (mBind (mSeq []) mChk))) (binD .Add x)) fun x => mBind (mBind (mSeq [getVar 2]) fun as => mBind (mSeq []) fun ks => callD calls i_lstep_words [] s_lstep_words as ks) (binD .Add x)) fun d s => .nx { s with sl := s.sl.set 1 (some d) }
def b_lwords_1 (calls : Calls) : MS := sB (mBind (getVar 0) itemsD) (forL (setSlot 2) (sSeq [b_lwords_1_0 calls]))
def b_lwords_2 (calls : Calls) : MS := sB (getVar 1) .rt
def b_lwords (calls : Calls) : MS := sSeq [b_lwords_0 calls, b_lwords_1 calls, b_lwords_2 calls]
theorem r_lwords (n : Nat) (ds : List D) (cs : List Cell) (h : ds.length = 1) : runF G cM cW (n + 1) i_lwords ds cs = endF (b_lwords (runF G cM cW n) ⟨ds.map some ++ List.replicate 2 none, cs⟩) := by
  match ds, h with
  | [_], _ => kernel_rfl
/-! ltest_words: slots 0 ltest_here -/
def b_ltest_words_0a_0 (calls : Calls) : MS := sB (mL (mBind (mSeq [mPure (.str [119, 104, 111, 108, 101])]) mChk)) .rt
def b_ltest_words_0 (calls : Calls) : MS := sIte (mBind (mBind (peek 0) fun _ => mBind (mPure (.int 0)) fun y => mBind (peek 0) fun x => idxD x y) fun x => mBind (mPure (.str [119, 104, 111, 108, 101])) fun y => mBind (cmpD .Eq x y) asB) (sSeq [b_ltest_words_0a_0 calls]) (sSeq [])
def b_ltest_words_1 (calls : Calls) : MS := sB (mBind (mL (mBind (mSeq [mBind (peek 0) fun _ => mBind (mPure (.int 0)) fun y => mBind (peek 0) fun x => idxD x y, mBind (mSeq [mBind (peek 0) fun _ => mBind (mPure (.int 2)) fun y => mBind (peek 0) fun x => idxD x y]) strD]) mChk)) fun x => mBind (mBind (mSeq [mBind (peek 0) fun _ => mBind (mPure (.int 1)) fun y => mBind (peek 0) fun x => idxD x y]) listD) (binD .Add x)) .rt
def b_ltest_words (calls : Calls) : MS := sSeq [b_ltest_words_0 calls, b_ltest_words_1 calls]
theorem r_ltest_words (n : Nat) (ds : List D) (cs : List Cell) (h : ds.length = 1) : runF G cM cW (n + 1) i_ltest_words ds cs = endF (b_ltest_words (runF G cM cW n) ⟨ds.map some ++ List.replicate 0 none, cs⟩) := by
  match ds, h with
  | [_], _ => kernel_rfl
/-! lstep_words: slots 0 lstep_here 1 lword 2 lfound 3 lbase -/
def b_lstep_words_0 (calls : Calls) : MS := sB (mBind (peek 0) fun _ => mBind (mPure (.int 0)) fun y => mBind (peek 0) fun x => idxD x y) fun d s => .nx { s with sl := s.sl.set 1 (some d) }
def b_lstep_words_1a_0 (calls : Calls) : MS := sB (mBind (mBind (mBind (mBind (mBind (mBind (mL (mBind (mSeq [mPure (.str [105, 102])]) mChk)) fun x => mBind (mBind (mSeq [mBind (peek 0) fun _ => mBind (mPure (.int 1)) fun y => mBind (peek 0) fun x => idxD x y]) fun as => mBind (mSeq []) fun ks => callD calls i_ltest_words [] s_ltest_words as ks) (binD .Add x)) fun x => mBind (mL (mBind (mSeq [mPure (.str [40])]) mChk)) (binD .Add x)) fun x => mBind (mBind (mSeq [mBind (peek 0) fun _ => mBind (mPure (.int 2)) fun y => mBind (peek 0) fun x => idxD x y]) fun as => mBind (mSeq []) fun ks => callD calls i_lwords [] s_lwords as ks) (binD .Add x)) fun x => mBind (mL (mBind (mSeq [mPure (.str [41]), mPure (.str [101, 108, 115, 101]), mPure (.str [40])]) mChk)) (binD .Add x)) fun x => mBind (mBind (mSeq [mBind (peek 0) fun _ => mBind (mPure (.int 3)) fun y => mBind (peek 0) fun x => idxD x y]) fun as => mBind (mSeq []) fun ks => callD calls i_lwords [] s_lwords as ks) (binD .Add x)) fun x => mBind (mL (mBind (mSeq [mPure (.str [41])]) mChk)) (binD .Add x)) .rt
def b_lstep_words_1 (calls : Calls) : MS := sIte (mBind (getVar 1) fun x => mBind (mPure (.str [105, 102])) fun y => mBind (cmpD .Eq x y) asB) (sSeq [b_lstep_words_1a_0 calls]) (sSeq [])
def b_lstep_words_2a_0 (calls : Calls) : MS := sB (mBind (mBind (mL (mBind (mSeq [mPure (.str [114, 101, 112, 101, 97, 116]), mBind (mSeq [mBind (peek 0) fun _ => mBind (mPure (.int 1)) fun y => mBind (peek 0) fun x => idxD x y]) strD, mPure (.str [40])]) mChk)) fun x => mBind (mBind (mSeq [mBind (peek 0) fun _ => mBind (mPure (.int 2)) fun y => mBind (peek 0) fun x => idxD x y]) fun as => mBind (mSeq []) fun ks => callD calls i_lwords [] s_lwords as ks) (binD .Add x)) fun x => mBind (mL (mBind (mSeq [mPure (.str [41])]) mChk)) (binD .Add x)) .rt
def b_lstep_words_2 (calls : Calls) : MS := sIte (mBind (getVar 1) fun x => mBind (mPure (.str [114, 101, 112, 101, 97, 116])) fun y => mBind (cmpD .Eq x y) asB) (sSeq [b_lstep_words_2a_0 calls]) (sSeq [])
def b_lstep_words_3a_0 (calls : Calls) : MS := sB (mBind (mL (mBind (mSeq [mPure (.str [101, 120, 116, 101, 110, 100]), mBind (peek 0) fun _ => mBind (mPure (.int 1)) fun y => mBind (peek 0) fun x => idxD x y]) mChk)) fun x => mBind (mBind (mSeq [mBind (peek 0) fun _ => mBind (mPure (.int 2)) fun y => mBind (peek 0) fun x => idxD x y]) listD) (binD .Add x)) .rt
def b_lstep_words_3 (calls : Calls) : MS := sIte (mBind (getVar 1) fun x => mBind (mPure (.str [101, 120, 116, 101, 110, 100])) fun y => mBind (cmpD .Eq x y) asB) (sSeq [b_lstep_words_3a_0 calls]) (sSeq [])
def b_lstep_words_4a_0 (calls : Calls) : MS := sB (mBind (mL (mBind (mSeq [mPure (.str [116, 114, 117, 110, 99, 97, 116, 101])]) mChk)) fun x => mBind (mBind (mSeq [mBind (peek 0) fun _ => mBind (mPure (.int 1)) fun y => mBind (peek 0) fun x => idxD x y]) listD) (binD .Add x)) .rt
def b_lstep_words_4 (calls : Calls) : MS := sIte (mBind (getVar 1) fun x => mBind (mPure (.str [116, 114, 117, 110, 99, 97, 116, 101])) fun y => mBind (cmpD .Eq x y) asB) (sSeq [b_lstep_words_4a_0 calls]) (sSeq [])
def b_lstep_words_5a_0 (calls : Calls) : MS := sB (mBind (mL (mBind (mSeq [mPure (.str [117, 110, 105, 116, 101])]) mChk)) fun x => mBind (mBind (mSeq [mBind (mBind (peek 0) fun _ => mBind (mPure (.int 1)) fun y => mBind (peek 0) fun x => idxD x y) fun x => mBind (mPure (.int 0)) (idxD x)]) listD) (binD .Add x)) fun d s => .nx { s with sl := s.sl.set 2 (some d) }
def b_lstep_words_5a_1_0 (calls : Calls) : MS := sB (mBind (mBind (getVar 2) fun x => mBind (mL (mBind (mSeq [mPure (.str [44])]) mChk)) (binD .Add x)) fun x => mBind (mBind (mSeq [getVar 3]) listD) (binD .Add x)) fun d s => .nx { s with sl := s.sl.set 2 (some d) }
def b_lstep_words_5a_1 (calls : Calls) : MS := sB (mBind (mBind (mBind (peek 0) fun _ => mBind (mPure (.int 1)) fun y => mBind (peek 0) fun x => idxD x y) fun x => mBind (mBind (mPure (.int 1)) asI) fun l => mBind (mPure none) fun h => slcD x l h) itemsD) (forL (setSlot 3) (sSeq [b_lstep_words_5a_1_0 calls]))
def b_lstep_words_5a_2 (calls : Calls) : MS := sB (getVar 2) .rt
def b_lstep_words_5 (calls : Calls) : MS := sIte (mBind (getVar 1) fun x => mBind (mPure (.str [117, 110, 105, 116, 101])) fun y => mBind (cmpD .Eq x y) asB) (sSeq [b_lstep_words_5a_0 calls, b_lstep_words_5a_1 calls, b_lstep_words_5a_2 calls]) (sSeq [])
def b_lstep_words_6 (calls : Calls) : MS := sB (mBind (mSeq [getVar 0]) listD) .rt
def b_lstep_words (calls : Calls) : MS := sSeq [b_lstep_words_0 calls, b_lstep_words_1 calls, b_lstep_words_2 calls, b_lstep_words_3 calls, b_lstep_words_4 calls, b_lstep_words_5 calls, b_lstep_words_6 calls]
theorem r_lstep_words (n : Nat) (ds : List D) (cs : List Cell) (h : ds.length = 1) : runF G cM cW (n + 1) i_lstep_words ds cs = endF (b_lstep_words (runF G cM cW n) ⟨ds.map some ++ List.replicate 3 none, cs⟩) := by
  match ds, h with
  | [_], _ => kernel_rfl
/-! ltext: slots 0 lsteps -/
def b_ltext_0 (calls : Calls) : MS := sB (mMth "str" (mPure (.str [32])) (mSeq [mBind (mSeq [getVar 0]) fun as => mBind (mSeq []) fun ks => callD calls i_lwords [] s_lwords as ks]) joinD) .rt
def b_ltext (calls : Calls) : MS := sSeq [b_ltext_0 calls]
theorem r_ltext (n : Nat) (ds : List D) (cs : List Cell) (h : ds.length = 1) : runF G cM cW (n + 1) i_ltext ds cs = endF (b_ltext (runF G cM cW n) ⟨ds.map some ++ List.replicate 0 none, cs⟩) := by
  match ds, h with
  | [_], _ => kernel_rfl
/-! lall_steps: slots 0 lbag_here 1 lnames_here 2 lfresh 3 lsteps 4 lends_here 5 lsome 6 linner -/
def b_lall_steps_0 (calls : Calls) : MS := asgM (mBind (mSeq [getVar 0, getVar 1, getVar 2, mPure (.int 9)]) fun as => mBind (mSeq []) fun ks => callD calls i_lbody [] s_lbody as ks) (asgT (.tp [3, 4]))
def b_lall_steps_1 (calls : Calls) : MS := sB (mBind (mBind (mSeq [getVar 0, getVar 4, mPure (.int 9)]) fun as => mBind (mSeq []) fun ks => callD calls i_lstill [] s_lstill as ks) fun x => mBind (mPure (.int 0)) (idxD x)) fun d s => .nx { s with sl := s.sl.set 5 (some d) }
def b_lall_steps_2 (calls : Calls) : MS := sB (mBind (mSeq [mBind (mSeq [mPure (.str [114, 101, 112, 101, 97, 116]), mBind (mPure (.int 1)) fun x => mBind (mBind (mSeq [getVar 0, mPure (.int 4)]) fun as => mBind (mSeq []) fun ks => callD calls i_lpull [] s_lpull as ks) (binD .Add x), mBind (getVar 5) fun x => mBind (mBind (mSeq [mBind (mSeq [mPure (.str [117, 115, 101]), mBind (mSeq [getVar 0, mL (mBind (mSeq [mPure (.str [97]), mPure (.str [122, 121, 120, 119, 118, 117]), mPure (.str [117, 115, 101])]) mChk)]) fun as => mBind (mSeq []) fun ks => callD calls i_lany [] s_lany as ks]) mTup]) mTup) (binD .Add x)]) mTup]) mTup) fun d s => .nx { s with sl := s.sl.set 6 (some d) }
def b_lall_steps_3 (calls : Calls) : MS := sB (mBind (getVar 3) fun x => mBind (mIte (mBind (mBind (mSeq [getVar 0, mPure (.int 2)]) fun as => mBind (mSeq []) fun ks => callD calls i_lpull [] s_lpull as ks) fun x => mBind (mPure (.int 0)) fun y => mBind (cmpD .Eq x y) asB) (mBind (mSeq [mBind (mSeq [mPure (.str [105, 102]), mBind (mSeq [getVar 0, getVar 4, mPure (.int 9)]) fun as => mBind (mSeq []) fun ks => callD calls i_ltest [] s_ltest as ks, getVar 6, mBind (mSeq []) mTup]) mTup]) mTup) (mBind (mSeq []) mTup)) (binD .Add x)) fun d s => .nx { s with sl := s.sl.set 3 (some d) }
def b_lall_steps_4 (calls : Calls) : MS := sB (mBind (getVar 3) fun x => mBind (mIte (mBind (mBind (mSeq [getVar 0, mPure (.int 2)]) fun as => mBind (mSeq []) fun ks => callD calls i_lpull [] s_lpull as ks) fun x => mBind (mPure (.int 0)) fun y => mBind (cmpD .Eq x y) asB) (mBind (mSeq [mBind (mSeq [mPure (.str [105, 102]), mBind (mSeq [getVar 0, getVar 4, mPure (.int 9)]) fun as => mBind (mSeq []) fun ks => callD calls i_ltest [] s_ltest as ks, mBind (mSeq []) mTup, mBind (getVar 6) fun x => mBind (getVar 5) (binD .Add x)]) mTup]) mTup) (mBind (mSeq []) mTup)) (binD .Add x)) .rt
def b_lall_steps (calls : Calls) : MS := sSeq [b_lall_steps_0 calls, b_lall_steps_1 calls, b_lall_steps_2 calls, b_lall_steps_3 calls, b_lall_steps_4 calls]
theorem r_lall_steps (n : Nat) (ds : List D) (cs : List Cell) (h : ds.length = 3) : runF G cM cW (n + 1) i_lall_steps ds cs = endF (b_lall_steps (runF G cM cW n) ⟨ds.map some ++ List.replicate 4 none, cs⟩) := by
  match ds, h with
  | [_, _, _], _ => kernel_rfl
/-! law: slots 0 lscript 1 lbag_here 2 lturn 3 lwords_here 4 lsteps 5 ltext_z 6 ldeep 7 lk 8 lfound -/
def b_law_0 (calls : Calls) : MS := sB (mBind (mSeq [getVar 0]) fun as => mBind (mSeq []) fun ks => callD calls i_lbag [] s_lbag as ks) fun d s => .nx { s with sl := s.sl.set 1 (some d) }
def b_law_1_0 (calls : Calls) : MS := sB (mBind (mSeq [getVar 1, mBind (mSeq [getVar 1, mPure (.int 6)]) fun as => mBind (mSeq []) fun ks => callD calls i_lnames [] s_lnames as ks]) fun as => mBind (mSeq []) fun ks => callD calls i_lmixed [] s_lmixed as ks) fun d s => .nx { s with sl := s.sl.set 3 (some d) }
def b_law_1_1 (calls : Calls) : MS := sB (mBind (mSeq [getVar 1, mBind (getVar 3) fun x => mBind (mPure none) fun l => mBind (mBind (mBind (mSeq [getVar 1, mPure (.int 4)]) fun as => mBind (mSeq []) fun ks => callD calls i_lpull [] s_lpull as ks) asI) fun h => slcD x l h, mBind (getVar 3) fun x => mBind (mBind (mPure (.int 3)) asI) fun l => mBind (mBind (mBind (mPure (.int 3)) fun x => mBind (mBind (mSeq [getVar 1, mPure (.int 4)]) fun as => mBind (mSeq []) fun ks => callD calls i_lpull [] s_lpull as ks) (binD .Add x)) asI) fun h => slcD x l h]) fun as => mBind (mSeq []) fun ks => callD calls i_lall_steps [] s_lall_steps as ks) fun d s => .nx { s with sl := s.sl.set 4 (some d) }
def b_law_1_2 (calls : Calls) : MS := sB (mBind (mSeq [getVar 4]) fun as => mBind (mSeq []) fun ks => callD calls i_ltext [] s_ltext as ks) fun d s => .nx { s with sl := s.sl.set 5 (some d) }
def b_law_1_3a_0 (calls : Calls) : MS := sB (mPure (.bl false)) .rt
def b_law_1_3 (calls : Calls) : MS := sIte (mNot (mBind (mBind (mSeq [mL (mBind (mSeq [mBind (mSeq [getVar 5]) fun as => mBind (mSeq []) fun ks => callD calls i_read_steps [] s_read_steps as ks, mBind (mSeq []) fun as => mBind (mSeq [mBind (mSeq [getVar 4]) fun as => mBind (mSeq []) fun ks => callD calls i_text_of [] s_text_of as ks]) fun ks => callD calls i_read_steps [] s_read_steps_0_text as ks]) mChk), mL (mBind (mSeq [getVar 4, getVar 4]) mChk)]) fun as => mBind (mSeq []) fun ks => callD calls i_lsame [] s_lsame as ks) truD)) (sSeq [b_law_1_3a_0 calls]) (sSeq [])
def b_law_1_4a_0 (calls : Calls) : MS := sB (mPure (.bl false)) .rt
def b_law_1_4 (calls : Calls) : MS := sIte (mBind (mBind (mSeq [mBind (mSeq [getVar 5]) fun as => mBind (mSeq []) fun ks => callD calls i_read_steps [] s_read_steps as ks]) fun as => mBind (mSeq []) fun ks => callD calls i_text_of [] s_text_of as ks) fun x => mBind (getVar 5) fun y => mBind (cmpD .NotEq x y) asB) (sSeq [b_law_1_4a_0 calls]) (sSeq [])
def b_law_1 (calls : Calls) : MS := sB (mBind (mSeq [mPure (.int 4)]) range1D) (forL (setSlot 2) (sSeq [b_law_1_0 calls, b_law_1_1 calls, b_law_1_2 calls, b_law_1_3 calls, b_law_1_4 calls]))
def b_law_2 (calls : Calls) : MS := parM (mSeq [mBind (mSeq []) mTup, mPure (.str [])]) [6, 5]
def b_law_3_0 (calls : Calls) : MS := parM (mSeq [mBind (mSeq [mBind (mSeq [mPure (.str [114, 101, 112, 101, 97, 116]), mPure (.int 1), getVar 6]) mTup]) mTup, mBind (mBind (mPure (.str [114, 101, 112, 101, 97, 116, 32, 49, 32, 40, 32])) fun x => mBind (mIte (mBind (getVar 5) fun x => mBind (mPure (.str [])) fun y => mBind (cmpD .NotEq x y) asB) (mBind (getVar 5) fun x => mBind (mPure (.str [32])) (binD .Add x)) (mPure (.str []))) (binD .Add x)) fun x => mBind (mPure (.str [41])) (binD .Add x)]) [6, 5]
def b_law_3 (calls : Calls) : MS := sB (mBind (mSeq [mPure (.int 20)]) range1D) (forL (setSlot 7) (sSeq [b_law_3_0 calls]))
def b_law_4a_0 (calls : Calls) : MS := sB (mPure (.bl false)) .rt
def b_law_4 (calls : Calls) : MS := sIte (mNot (mBind (mBind (mSeq [mBind (mSeq [getVar 5]) fun as => mBind (mSeq []) fun ks => callD calls i_read_steps [] s_read_steps as ks, getVar 6]) fun as => mBind (mSeq []) fun ks => callD calls i_lsame [] s_lsame as ks) truD)) (sSeq [b_law_4a_0 calls]) (sSeq [])
def b_law_5 (calls : Calls) : MS := sB (mBind (mSeq [mBind (mSeq [mPure (.str [])]) fun as => mBind (mSeq []) fun ks => callD calls i_read_steps [] s_read_steps as ks, mBind (mSeq [mPure (.str [117, 110, 105, 116, 101])]) fun as => mBind (mSeq []) fun ks => callD calls i_read_steps [] s_read_steps as ks, mBind (mSeq [mPure (.str [117, 110, 105, 116, 101, 32, 44, 32, 97])]) fun as => mBind (mSeq []) fun ks => callD calls i_read_steps [] s_read_steps as ks, mBind (mSeq [mPure (.str [116, 114, 117, 110, 99, 97, 116, 101, 32, 99, 117, 116, 32, 59, 32, 117, 115, 101, 32, 99, 117, 116])]) fun as => mBind (mSeq []) fun ks => callD calls i_read_steps [] s_read_steps as ks, mBind (mSeq [mPure (.str [99, 117, 116])]) fun as => mBind (mSeq []) fun ks => callD calls i_read_steps [] s_read_steps as ks]) mChk) (setOwn 8)
def b_law_6 (calls : Calls) : MS := sB (mBind (mSeq [getVar 8, mL (mBind (mSeq [mBind (mSeq []) mTup, mBind (mSeq [mBind (mSeq [mPure (.str [117, 110, 105, 116, 101]), mBind (mSeq [mBind (mSeq []) mTup]) mTup]) mTup]) mTup, mBind (mSeq [mBind (mSeq [mPure (.str [117, 110, 105, 116, 101]), mBind (mSeq [mBind (mSeq []) mTup, mBind (mSeq [mPure (.str [97])]) mTup]) mTup]) mTup]) mTup, mBind (mSeq [mBind (mSeq [mPure (.str [116, 114, 117, 110, 99, 97, 116, 101]), mBind (mSeq [mPure (.str [99, 117, 116])]) mTup]) mTup, mBind (mSeq [mPure (.str [117, 115, 101]), mPure (.str [99, 117, 116])]) mTup]) mTup, mBind (mSeq [mBind (mSeq [mPure (.str [99, 117, 116])]) mTup]) mTup]) mChk)]) fun as => mBind (mSeq []) fun ks => callD calls i_lsame [] s_lsame as ks) .rt
def b_law (calls : Calls) : MS := sSeq [b_law_0 calls, b_law_1 calls, b_law_2 calls, b_law_3 calls, b_law_4 calls, b_law_5 calls, b_law_6 calls]
theorem r_law (n : Nat) (ds : List D) (cs : List Cell) (h : ds.length = 1) : runF G cM cW (n + 1) i_law ds cs = endF (b_law (runF G cM cW n) ⟨ds.map some ++ List.replicate 8 none, cs⟩) := by
  match ds, h with
  | [_], _ => kernel_rfl
end Law

namespace Law
open PySem PySem.Spec PyProof.Rows U
def bagC (xs : List Int) (i rest mix cnt : Int) : Cell := .L [.lst (xs.map .int), .int i, .int rest, .int mix, .int cnt]
/-- the bag as it is pulled from -/
def BagOk (c : Cell) : Prop := ∃ (xs : List Int) (i : Nat) (rest mix : Int) (cnt : Int), c = bagC xs i rest mix cnt ∧ 0 ≤ rest ∧ 0 ≤ mix ∧ mix < 2147483648
theorem pull0 {calls : Calls} {many : Int} {xs : List Int} {i : Nat} {rest mix cnt : Int} {r : List Cell} {N : S → Prop} {R : D → S → Prop} (a1 : 0 ≤ rest) (a2 : 0 ≤ mix) (a3 : mix < 2147483648)
    (h : ∀ (i : Nat) (rest mix : Int) (o : Option D), 0 ≤ rest → 0 ≤ mix → mix < 2147483648 → N ⟨[some (.ob 0), some (.int many), o, none, none], bagC xs i rest mix cnt :: r⟩) :
    SW (b_lpull_0 calls) ⟨[some (.ob 0), some (.int many), none, none, none], bagC xs i rest mix cnt :: r⟩ N R := by
  by_cases hr : rest = 0
  · subst hr
    by_cases hi : i < xs.length
    · have hx : (xs.map D.int)[i]? = some (.int xs[i]) := by simp [hi]
      simp [b_lpull_0, b_lpull_0a_0, b_lpull_0a_1, b_lpull_0a_2, b_lpull_0a_2a_0, b_lpull_0a_2b_0, bagC, hi, hx]
      have e1 : (i : Int) + 1 = ((i + 1 : Nat) : Int) := by omega
      rw [e1]
      split
      · exact h (i + 1) xs[i] mix _ (by omega) a2 a3
      · exact ⟨.inr (by decide), .inr (by decide), h (i + 1) 0 _ _ (by omega) (by omega) (by omega)⟩
    · simp [b_lpull_0, bagC, hi]
      exact h i 0 mix none a1 a2 a3
  · simp [b_lpull_0, bagC, hr]
    exact h i rest mix none a1 a2 a3
theorem pull_ok (n : Nat) (many : Int) (c : Cell) (r : List Cell) (hb : BagOk c) (h1 : 0 < many) (h2 : many < 1073741824) :
    FW (runF G cM cW (n + 1) i_lpull [.ob 0, .int many] (c :: r)) fun d cs => ∃ k c', d = .int k ∧ 0 ≤ k ∧ k < many ∧ cs = c' :: r ∧ BagOk c' := by
  obtain ⟨xs, i, rest, mix, cnt, rfl, a1, a2, a3⟩ := hb
  rw [r_lpull _ _ _ rfl, FW_end, b_lpull, SW_cons]
  refine pull0 a1 a2 a3 fun i rest mix o a1 a2 a3 => ?_
  have m1 : ∀ z : Int, 0 ≤ z % many ∧ z % many < many := fun z => ⟨Int.emod_nonneg z (by omega), Int.emod_lt_of_pos z h1⟩
  by_cases hr : 0 < rest
  · simp [b_lpull_1, b_lpull_1a_0, b_lpull_1a_1, b_lpull_1a_2, bagC, hr, h1, h2]
    exact ⟨(m1 rest).1, (m1 rest).2, xs, i, rest / many, mix, cnt, rfl, Int.ediv_nonneg a1 (by omega), a2, a3⟩
  · have i1 : in64 mix = true := by unfold in64; simp; omega
    simp [b_lpull_1, b_lpull_2, b_lpull_3, b_lpull_4, b_lpull_5, bagC, hr, h1, i1]
    have nn : ∀ z : Int, 0 ≤ z % 2147483549 ∧ z % 2147483549 < 2147483648 := fun z => by omega
    exact ⟨.inr (by decide), .inr (by decide), .inr (by decide), (m1 _).1, (m1 _).2, xs, i, rest, _, cnt + 1, rfl, a1, (nn _).1, (nn _).2⟩
theorem line : (1000 : Nat) ≤ sizeLine := by rw [sizeLine_eq]; decide
theorem anyL_ok (n : Nat) (ds : List D) (c : Cell) (r : List Cell) (hb : BagOk c) (h1 : ds ≠ []) (h2 : ds.length ≤ 1000) :
    FW (runF G cM cW (n + 2) i_lany [.ob 0, .lst ds] (c :: r)) fun d cs => ∃ c', d ∈ ds ∧ cs = c' :: r ∧ BagOk c' := by
  rw [r_lany _ _ _ rfl, FW_end]
  have h3 : 0 < ds.length := List.length_pos_iff.mpr h1
  simp [b_lany, b_lany_0, MW_call, s_lpull, permL]
  refine (pull_ok n ds.length c r hb (by omega) (by omega)).imp fun d cs ⟨k, c', e1, e2, e3, e4, e5⟩ => ?_
  subst e1; subst e4
  obtain ⟨j, rfl⟩ := Int.eq_ofNat_of_zero_le e2
  have hj : j < ds.length := by omega
  simp [hj]
  exact e5
theorem anyS_ok (n : Nat) (z : List Nat) (c : Cell) (r : List Cell) (hb : BagOk c) (h1 : z ≠ []) (h2 : z.length ≤ 1000) :
    FW (runF G cM cW (n + 2) i_lany [.ob 0, .str z] (c :: r)) fun d cs => ∃ k c', d = .str [k] ∧ k ∈ z ∧ cs = c' :: r ∧ BagOk c' := by
  rw [r_lany _ _ _ rfl, FW_end]
  have h3 : 0 < z.length := List.length_pos_iff.mpr h1
  have h4 : z.length ≤ sizeLine := Nat.le_trans h2 line
  simp [b_lany, b_lany_0, MW_call, s_lpull, permL, h4]
  refine (pull_ok n z.length c r hb (by omega) (by omega)).imp fun d cs ⟨k, c', e1, e2, e3, e4, e5⟩ => ?_
  subst e1; subst e4
  obtain ⟨j, rfl⟩ := Int.eq_ofNat_of_zero_le e2
  have hj : j < z.length := by omega
  simp [hj]
  exact ⟨h4, e5⟩
def LET : List Nat := [97, 98, 99, 100, 101, 102, 103, 104, 105, 106, 107, 108, 109, 110, 111, 112, 113, 114, 115, 116, 117, 118, 119, 120, 121, 122]
theorem LETd : ∀ i j : Nat, i < 26 → j < 26 → LET.getD i 0 = LET.getD j 0 → i = j := by
  have h : ∀ i j : Fin 26, LET.getD i 0 = LET.getD j 0 → i = j := by decide +kernel
  intro i j hi hj e
  exact congrArg Fin.val (h ⟨i, hi⟩ ⟨j, hj⟩ e)
/-- a good name -/
def gW (w : List Nat) : Prop := 1 ≤ w.length ∧ w.length ≤ 4 ∧ ∀ k ∈ w, k ∈ LET
theorem names_ok (n m : Nat) (hm : m ≤ 26) (c : Cell) (r : List Cell) (hb : BagOk c) :
    FW (runF G cM cW (n + 3) i_lnames [.ob 0, .int m] (c :: r)) fun d cs => ∃ (ys : List (List Nat)) (c' : Cell), d = .lst (ys.map .str) ∧ ys.length = m ∧ (∀ y ∈ ys, gW y) ∧ ys.Nodup ∧ cs = c' :: r ∧ BagOk c' := by
  rw [r_lnames _ _ _ rfl, FW_end]
  simp [b_lnames, b_lnames_0]
  rw [← LET]
  simp [b_lnames_1, MW_call, s_lpull, s_lany, permL]
  refine (pull_ok (n + 1) 4 c r hb (by omega) (by omega)).imp fun d cs ⟨k, c1, e1, e2, e3, e4, e5⟩ => ?_
  subst e1; subst e4
  obtain ⟨j, rfl⟩ := Int.eq_ofNat_of_zero_le e2
  simp [in62, freeSlots, wipeS]
  refine ⟨by omega, ?_⟩
  refine lcL_inv (fun r' acc s => ∃ (w : List Nat) (c' : Cell), acc = w.map (fun k => D.str [k]) ∧ (∀ k ∈ w, k ∈ LET) ∧ w.length + r'.length = j ∧ s = ⟨[some (.ob 0), some (.int m), some (.str LET), none, none, none, none], c' :: r⟩ ∧ BagOk c') ?_ ?_ _ _ _ ⟨[], c1, rfl, by simp, by simp [rangeL], rfl, e5⟩
  · rintro d r' acc s ⟨w, c', rfl, hL, hl, rfl, hb⟩
    simp [MW_call, s_lany, permL, wipeS]
    refine (anyS_ok n LET c' r hb (by decide) (by decide)).imp fun d cs ⟨k, c2, f1, f2, f3, f4⟩ => ?_
    subst f1; subst f3
    simp at hl
    refine ⟨by have := line; omega, w ++ [k], by simp, fun x hx => ?_, by simp; omega, c2, rfl, f4⟩
    rcases List.mem_append.mp hx with z | z
    · exact hL x z
    · rw [List.mem_singleton.mp z]; exact f2
  · rintro acc s ⟨w, c', rfl, hL, hl, rfl, hb⟩
    simp at hl
    have hw : w.length ≤ 3 := by omega
    rw [MW_joinSing (by omega)]
    have hz : w.length ≤ sizeLine := Nat.le_trans (by omega) line
    simp [backS, b_lnames_2, MW_call, s_lpull, permL, hz]
    refine (pull_ok (n + 1) (w.length + 1) c' r hb (by omega) (by omega)).imp fun d cs ⟨k, c2, e1, e2, e3, e4, e5⟩ => ?_
    subst e1; subst e4
    obtain ⟨at_, rfl⟩ := Int.eq_ofNat_of_zero_le e2
    refine (pull_ok (n + 1) 26 c2 r e5 (by omega) (by omega)).imp fun d cs ⟨k, c3, e1, e2, e3, e4, e5⟩ => ?_
    subst e1; subst e4
    obtain ⟨fi, rfl⟩ := Int.eq_ofNat_of_zero_le e2
    simp [b_lnames_3, in62, freeSlots, wipeS]
    refine ⟨Nat.le_trans (by omega) line, by omega, ?_⟩
    have hla : ∀ j : Nat, j < 26 → LET[j]? = some (LET.getD j 0) := by decide
    refine lc_map (fun d => match d with
      | .int i => .str (w.take at_ ++ (LET.getD ((fi + 7 * i.toNat) % 26) 0 :: w.drop at_))
      | _ => .non) (by rw [rangeL, List.length_map, List.length_range]; exact Nat.le_trans (by omega) line) (fun d hd => ?_) ?_
    · obtain ⟨k, hk, rfl⟩ := List.mem_map.mp hd
      have hm26 : ((fi : Int) + 7 * (k : Int)) % 26 = (((fi + 7 * k) % 26 : Nat) : Int) := by omega
      have hlt : (w.take at_).length + 1 + (w.drop at_).length ≤ 4 := by simp; omega
      have lL : LET.length ≤ sizeLine := Nat.le_trans (by decide) line
      have h2 := hla ((fi + 7 * k) % 26) (Nat.mod_lt _ (by decide))
      simp [hz, cutN_lo, cutN_hi, wipeS]
      refine ⟨.inl (by decide), lL, ?_⟩
      rw [hm26, atI_nat, h2]
      simp at hlt
      exact ⟨Nat.le_trans (by omega) line, Nat.le_trans (by omega) line, rfl⟩
    · refine ⟨(List.range m).map fun k => w.take at_ ++ (LET.getD ((fi + 7 * k) % 26) 0 :: w.drop at_), ?_, by simp, ?_, ?_, c3, by simp [backS], e5⟩
      · simp [rangeL]
      · intro y hy
        obtain ⟨k, _, rfl⟩ := List.mem_map.mp hy
        have hg : ∀ j : Nat, j < 26 → LET.getD j 0 ∈ LET := by decide
        refine ⟨by simp; omega, by simp; omega, fun x hx => ?_⟩
        rcases List.mem_append.mp hx with z | z
        · exact hL x (List.mem_of_mem_take z)
        · rcases List.mem_cons.mp z with z | z
          · rw [z]; exact hg _ (Nat.mod_lt _ (by decide))
          · exact hL x (List.mem_of_mem_drop z)
      · unfold List.Nodup
        rw [List.pairwise_map]
        refine List.Pairwise.imp_of_mem ?_ (List.nodup_range (n := m))
        intro a b ha hb hne e
        have e1 := List.append_cancel_left e
        have e2 := LETd _ _ (Nat.mod_lt _ (by decide)) (Nat.mod_lt _ (by decide)) (List.cons.inj e1).1
        have h1 := List.mem_range.mp ha
        have h2 := List.mem_range.mp hb
        exact hne (by omega)
theorem bag_ok (n : Nat) (ns : List Int) (cs : List Cell) (hl : ns.length ≤ 63) : FW (runF G cM cW (n + 1) i_lbag [.scr ns] cs) fun d cs' => ∃ c, d = .ob cs.length ∧ cs' = cs ++ [c] ∧ BagOk c := by
  rw [r_lbag _ _ _ rfl, FW_end]
  simp [b_lbag, b_lbag_0]
  exact ⟨Nat.le_trans (by decide) line, _, 0, 0, _, 0, rfl, by omega, by omega, by omega⟩
/-- alike to itself -/
theorem same_refl : ∀ (n : Nat) (d : D) (cs : List Cell), okD d = true → depD d < n → depD d ≤ 64 → lenOk d = true → FW (runF G cM cW n i_lsame [d, d] cs) fun r cs' => r = .bl true ∧ cs' = cs
  | 0, _, _, _, h, _, _ => absurd h (by omega)
  | n + 1, d, cs, h1, h2, h3, h4 => by
    have h2s : 2 ≤ sizeLine := Nat.le_trans (by decide) line
    rw [r_lsame _ _ _ rfl, FW_end, b_lsame, SW_cons]
    cases d with
    | lst xs =>
      simp [b_lsame_0, b_lsame_0a_0, b_lsame_0a_1, h2s]
      simp [freeSlots, wipeS]
      refine lc_map (fun _ => .bl true) (by rw [zipL_len]; simp [lenOk] at h4; exact Nat.le_trans (by omega) h4.1) (fun e he => ?_) ?_
      · obtain ⟨x, hx, rfl⟩ := zip_self he
        have hx1 := okL_mem (by simpa [okD] using h1) hx
        have hx2 : depD x < n ∧ depD x ≤ 64 := by
          have := depL_mem hx
          simp [depD] at h2 h3
          omega
        have hx3 : lenOk x = true := by simp [lenOk] at h4; exact lenL_mem h4.2 hx
        have hk := okD_own hx1
        simp [MW_call, s_lsame, permL, wipeS, hk.1, hk.2]
        exact (same_refl n x cs hx1 hx2.1 hx2.2 hx3).imp fun d cs' ⟨h1, h2⟩ => ⟨h1, h2⟩
      · rw [map_true, MW_all (asBls_map _)]
        simp [backS]
    | tup xs =>
      simp [b_lsame_0, b_lsame_0a_0, b_lsame_0a_1, h2s]
      simp [freeSlots, wipeS]
      refine lc_map (fun _ => .bl true) (by rw [zipL_len]; simp [lenOk] at h4; exact Nat.le_trans (by omega) h4.1) (fun e he => ?_) ?_
      · obtain ⟨x, hx, rfl⟩ := zip_self he
        have hx1 := okL_mem (by simpa [okD] using h1) hx
        have hx2 : depD x < n ∧ depD x ≤ 64 := by
          have := depL_mem hx
          simp [depD] at h2 h3
          omega
        have hx3 : lenOk x = true := by simp [lenOk] at h4; exact lenL_mem h4.2 hx
        have hk := okD_own hx1
        simp [MW_call, s_lsame, permL, wipeS, hk.1, hk.2]
        exact (same_refl n x cs hx1 hx2.1 hx2.2 hx3).imp fun d cs' ⟨h1, h2⟩ => ⟨h1, h2⟩
      · rw [map_true, MW_all (asBls_map _)]
        simp [backS]
    | non => simp [b_lsame_0, b_lsame_1, b_lsame_2, b_lsame_3, b_lsame_1a_0, h2s]
    | bl b => simp [b_lsame_0, b_lsame_1, b_lsame_2, b_lsame_3, h2s]
    | int i => simp [b_lsame_0, b_lsame_1, b_lsame_2, b_lsame_3, h2s]
    | str z => simp [b_lsame_0, b_lsame_1, b_lsame_2, b_lsame_3, h2s]
    | own _ => simp [okD] at h1
    | ob _ => simp [okD] at h1
    | scr _ => simp [okD] at h1
    | ty _ => simp [okD] at h1
    | cls _ => simp [okD] at h1
    | ins _ _ => simp [okD] at h1
    | ownI _ _ => simp [okD] at h1
end Law

set_option maxHeartbeats 1000000
namespace Law
open PySem PySem.Spec PyProof.Rows U
/-! steps as they are drawn, and their words -/
abbrev W := List Nat
abbrev wIF : W := [105, 102]
abbrev wREP : W := [114, 101, 112, 101, 97, 116]
abbrev wEXT : W := [101, 120, 116, 101, 110, 100]
abbrev wTRU : W := [116, 114, 117, 110, 99, 97, 116, 101]
abbrev wUNI : W := [117, 110, 105, 116, 101]
abbrev wDEL : W := [100, 101, 108, 101, 116, 101]
abbrev wCON : W := [99, 111, 110, 116, 114, 97, 99, 116]
abbrev wREN : W := [114, 101, 110, 97, 109, 101]
abbrev wDUA : W := [100, 117, 97, 108]
abbrev wTOP : W := [116, 111, 112]
abbrev wCUT : W := [99, 117, 116]
abbrev wUSE : W := [117, 115, 101]
abbrev wRANK : W := [114, 97, 110, 107]
abbrev wSPA : W := [115, 112, 97, 110, 115]
abbrev wWHO : W := [119, 104, 111, 108, 101]
abbrev wELSE : W := [101, 108, 115, 101]
abbrev wLP : W := [40]
abbrev wRP : W := [41]
abbrev wSEMI : W := [59]
abbrev wCOM : W := [44]
def grp (g : List W) : D := .tup (g.map .str)
/-- a word of a text -/
def gT (w : W) : Prop := 1 ≤ w.length ∧ w.length ≤ 10 ∧ ∀ k ∈ w, k < 128 ∧ k ≠ 32
/-- a piece -/
def gP (w : W) : Prop := 1 ≤ w.length ∧ w.length ≤ 6 ∧ ∀ k ∈ w, k ∈ LET
theorem let128 : ∀ x ∈ LET, x < 128 ∧ x ≠ 32 := by decide
theorem gW.b {w : W} (h : gW w) : gT w := ⟨h.1, by have := h.2.1; omega, fun k hk => let128 k (h.2.2 k hk)⟩
theorem gP.b {w : W} (h : gP w) : gT w := ⟨h.1, by have := h.2.1; omega, fun k hk => let128 k (h.2.2 k hk)⟩
theorem gT.ok {w : W} (h : gT w) : okS w = true := by
  unfold okS; rw [List.all_eq_true]
  intro k hk
  have := h.2.2 k hk
  exact decide_eq_true (by omega)
theorem gW.ok {w : W} (h : gW w) : okS w = true := h.b.ok
theorem gWs_ok {us : List W} (h : ∀ u ∈ us, gW u) : us.all okS = true := by
  rw [List.all_eq_true]; exact fun u hu => (h u hu).ok
theorem gTs_ok {us : List W} (h : ∀ u ∈ us, gT u) : us.all okS = true := by
  rw [List.all_eq_true]; exact fun u hu => (h u hu).ok
def grOk (g : List W) : Prop := g.length ≤ 3 ∧ (∀ w ∈ g, gW w) ∧ g.Pairwise (· < ·)
theorem lineN {n : Nat} (h : n ≤ 1000) : n ≤ sizeLine := Nat.le_trans h line
theorem lineM {n : Nat} (h : n ≤ 1000000) : n ≤ sizeLine := Nat.le_trans h (by rw [sizeLine_eq]; decide)
inductive Te where
  | whole
  | spans (g : List W) (a : W)
  | rank (g : List W) (k : Nat)
def Te.d : Te → D
  | .whole => .tup [.str wWHO]
  | .spans g a => .tup [.str wSPA, grp g, .str a]
  | .rank g k => .tup [.str wRANK, grp g, .int k]
def Te.ws : Te → List W
  | .whole => [wWHO]
  | .spans g a => wSPA :: a :: g
  | .rank g k => wRANK :: strOfInt k :: g
def Te.ok : Te → Prop
  | .whole => True
  | .spans g a => grOk g ∧ gW a
  | .rank g k => grOk g ∧ k ≤ 6
inductive Pl where
  | del (a : W) | con (a : W) | ren (a b : W) | dual | ext (a : W) (g : List W) | top (a : W) | cut | uni (g : List W) (gs : List (List W)) | tru (g : List W) | use (a : W)
def Pl.d : Pl → D
  | .del a => .tup [.str wDEL, .str a]
  | .con a => .tup [.str wCON, .str a]
  | .ren a b => .tup [.str wREN, .str a, .str b]
  | .dual => .tup [.str wDUA]
  | .ext a g => .tup [.str wEXT, .str a, grp g]
  | .top a => .tup [.str wTOP, .str a]
  | .cut => .tup [.str wCUT]
  | .uni g gs => .tup [.str wUNI, .tup (grp g :: gs.map grp)]
  | .tru g => .tup [.str wTRU, grp g]
  | .use a => .tup [.str wUSE, .str a]
def Pl.ws : Pl → List W
  | .del a => [wDEL, a]
  | .con a => [wCON, a]
  | .ren a b => [wREN, a, b]
  | .dual => [wDUA]
  | .ext a g => wEXT :: a :: g
  | .top a => [wTOP, a]
  | .cut => [wCUT]
  | .uni g gs => wUNI :: (g ++ (gs.map fun h => wCOM :: h).flatten)
  | .tru g => wTRU :: g
  | .use a => [wUSE, a]
def Pl.ok : Pl → Prop
  | .del a => gW a
  | .con a => gW a
  | .ren a b => gW a ∧ gW b
  | .dual => True
  | .ext a g => gW a ∧ grOk g
  | .top a => gW a
  | .cut => True
  | .uni g gs => grOk g ∧ gs.length ≤ 3 ∧ ∀ h ∈ gs, grOk h
  | .tru g => grOk g
  | .use a => gP a
inductive St where
  | pl (p : Pl)
  | iff (t : Te) (a b : List St)
  | rep (k : Nat) (a : List St)
mutual
def St.d : St → D
  | .pl p => p.d
  | .iff t a b => .tup [.str wIF, t.d, .tup (dsS a), .tup (dsS b)]
  | .rep k a => .tup [.str wREP, .int k, .tup (dsS a)]
def dsS : List St → List D
  | [] => []
  | s :: r => s.d :: dsS r
end
def glue : List (List W) → List W
  | [] => []
  | x :: r => x ++ (r.map fun y => wSEMI :: y).flatten
mutual
def St.ws : St → List W
  | .pl p => p.ws
  | .iff t a b => wIF :: (t.ws ++ wLP :: (glue (wsS a) ++ wRP :: wELSE :: wLP :: (glue (wsS b) ++ [wRP])))
  | .rep k a => wREP :: strOfInt k :: wLP :: (glue (wsS a) ++ [wRP])
def wsS : List St → List (List W)
  | [] => []
  | s :: r => s.ws :: wsS r
end
mutual
def St.ok : St → Prop
  | .pl p => p.ok
  | .iff t a b => t.ok ∧ okSs a ∧ okSs b
  | .rep k a => (1 ≤ k ∧ k ≤ 4) ∧ okSs a
def okSs : List St → Prop
  | [] => True
  | s :: r => s.ok ∧ okSs r
end
mutual
def St.dep : St → Nat
  | .pl _ => 0
  | .iff _ a b => max (depS a) (depS b) + 1
  | .rep _ a => depS a + 1
def depS : List St → Nat
  | [] => 0
  | s :: r => max s.dep (depS r)
end
theorem okSs_mem : ∀ {a : List St}, okSs a → ∀ s ∈ a, s.ok
  | x :: r, h, s, hs => by
    unfold okSs at h
    rcases List.mem_cons.mp hs with rfl | hs
    · exact h.1
    · exact okSs_mem h.2 s hs
theorem depS_mem : ∀ {a : List St}, ∀ s ∈ a, s.dep ≤ depS a
  | x :: r, s, hs => by
    unfold depS
    rcases List.mem_cons.mp hs with rfl | hs
    · omega
    · have := depS_mem s hs
      omega
theorem dsS_map : ∀ a : List St, dsS a = a.map St.d
  | [] => rfl
  | s :: r => by unfold dsS; rw [dsS_map r]; rfl
theorem wsS_map : ∀ a : List St, wsS a = a.map St.ws
  | [] => rfl
  | s :: r => by unfold wsS; rw [wsS_map r]; rfl
theorem okSs_app : ∀ {a b : List St}, okSs a → okSs b → okSs (a ++ b)
  | [], _, _, h => h
  | x :: r, b, h, k => by
    unfold okSs at h
    rw [List.cons_append]; unfold okSs
    exact ⟨h.1, okSs_app h.2 k⟩
theorem Pl.ne (p : Pl) : p.ws ≠ [] := by cases p <;> simp [Pl.ws]
theorem St.ne (s : St) : s.ws ≠ [] := by
  cases s with
  | pl p => unfold St.ws; exact p.ne
  | iff t a b => unfold St.ws; simp
  | rep k a => unfold St.ws; simp
/-- glue, by its front part -/
theorem glue_snoc : ∀ (xs : List (List W)) (y : List W), glue (xs ++ [y]) = glue xs ++ ((if xs = [] then [] else [wSEMI]) ++ y)
  | [], y => by simp [glue]
  | x :: r, y => by simp [glue]
theorem glue_nil_iff {xs : List (List W)} (h : ∀ x ∈ xs, x ≠ []) : glue xs = [] ↔ xs = [] := by
  cases xs with
  | nil => simp [glue]
  | cons x r =>
    have := h x List.mem_cons_self
    simp [glue, this]
theorem glue_pre : ∀ (xs ys : List (List W)), (glue xs).length ≤ (glue (xs ++ ys)).length
  | [], _ => by simp [glue]
  | x :: r, ys => by simp [glue]
theorem glue_mem {xs : List (List W)} {y : List W} (h : y ∈ xs) : y.length ≤ (glue xs).length := by
  obtain ⟨a, b, rfl⟩ := List.append_of_mem h
  have h1 := glue_pre (a ++ [y]) b
  have h2 : y.length ≤ (glue (a ++ [y])).length := by
    rw [glue_snoc]; simp; omega
  have e : a ++ y :: b = (a ++ [y]) ++ b := by simp
  rw [e]; omega
end Law

set_option maxHeartbeats 1000000
namespace Law
open PySem PySem.Spec PyProof.Rows U
theorem insS_perm2 {ys zs : List (List Nat)} {z : List Nat} {k : Nat} : (ys.take k ++ z :: ys.drop k ++ zs).Perm (ys ++ z :: zs) := by
  have h1 : (ys.take k ++ z :: ys.drop k).Perm (z :: ys) := by
    have := List.perm_middle (a := z) (l₁ := ys.take k) (l₂ := ys.drop k)
    rwa [List.take_append_drop] at this
  exact (h1.append_right zs).trans List.perm_middle.symm
theorem lt_of {a b : List Nat} (h : leS a b) (hn : a ≠ b) : a < b := by
  rcases List.le_iff_lt_or_eq.mp (leS_iff.mp h) with h | h
  · exact h
  · exact absurd h hn
/-- the names in order, none twice -/
theorem sort_strict {us : List (List Nat)} (h : us.Nodup) : (sortS us).Pairwise (· < ·) := by
  have h1 := sortS_sorted us
  have h2 : (sortS us).Nodup := (sortS_perm us).nodup_iff.mpr h
  exact (List.Pairwise.and h1 h2).imp fun h => lt_of h.1 h.2
theorem mixed_ok (n : Nat) (us : List (List Nat)) (c : Cell) (r : List Cell) (hb : BagOk c) (hu : us.length ≤ 20) :
    FW (runF G cM cW (n + 2) i_lmixed [.ob 0, .lst (us.map .str)] (c :: r)) fun d cs => ∃ (ys : List (List Nat)) (c' : Cell), d = .ob (r.length + 1) ∧ ys.Perm us ∧ cs = c' :: (r ++ [.L (ys.map .str)]) ∧ BagOk c' := by
  rw [r_lmixed _ _ _ rfl, FW_end]
  simp [b_lmixed, b_lmixed_0, b_lmixed_1]
  obtain ⟨I, hI⟩ : ∃ I : List D → S → Prop, I = (fun rest s => ∃ (ys zs : List (List Nat)) (o : Option D) (c' : Cell), rest = zs.map .str ∧ (ys ++ zs).Perm us ∧ s = ⟨[some (.ob 0), some (.lst (us.map .str)), some (.ob (r.length + 1)), o], c' :: (r ++ [.L (ys.map .str)])⟩ ∧ BagOk c') := ⟨_, rfl⟩
  refine SW_for I ?_ ?_ _ _ (by rw [hI]; exact ⟨[], us, none, c, rfl, by simp, rfl, hb⟩)
  · intro d rest s h
    rw [hI] at h
    obtain ⟨ys, zs, o, c', e1, hp, rfl, hb⟩ := h
    obtain ⟨z, zs, rfl⟩ : ∃ z zs', zs = z :: zs' := by
      cases zs with
      | nil => cases e1
      | cons z zs => exact ⟨z, zs, rfl⟩
    cases e1
    have hl := hp.length_eq
    simp at hl
    simp [b_lmixed_1_0, MW_call, s_lpull, permL]
    refine (pull_ok n (ys.length + 1) c' _ hb (by omega) (by omega)).imp fun d cs ⟨k, c2, e1, e2, e3, e4, e5⟩ => ?_
    subst e1; subst e4
    simp
    refine ⟨⟨Nat.lt_of_lt_of_le (by omega) line, e2, by omega⟩, ?_⟩
    rw [hI]
    exact ⟨ys.take k.toNat ++ z :: ys.drop k.toNat, zs, some (.str z), c2, rfl, insS_perm2.trans hp, by simp [List.map_take, List.map_drop], e5⟩
  · intro s h
    rw [hI] at h
    obtain ⟨ys, zs, o, c', e1, hp, rfl, hb⟩ := h
    cases zs with
    | cons _ _ => cases e1
    | nil =>
      simp at hp
      simp [b_lmixed_2]
      exact ⟨ys, hp, c', ⟨rfl, rfl⟩, hb⟩
theorem group_ok (n : Nat) (us : List (List Nat)) (c : Cell) (r : List Cell) (hb : BagOk c) (hu : us.length ≤ 20) (hnd : us.Nodup) :
    FW (runF G cM cW (n + 2) i_lgroup [.ob 0, .lst (us.map .str)] (c :: r)) fun d cs => ∃ (ys : List (List Nat)) (c' : Cell), d = .tup (ys.map .str) ∧ ys.length ≤ 3 ∧ (∀ y ∈ ys, y ∈ us) ∧ ys.Pairwise (· < ·) ∧ cs = c' :: r ∧ BagOk c' := by
  rw [r_lgroup _ _ _ rfl, FW_end]
  have srt := fun (s : S) (Q : D → S → Prop) => MW_sortS (s := s) (Q := Q) (ys := us) (by omega)
  have hl : (sortS us).length = us.length := (sortS_perm us).length_eq
  simp [b_lgroup, b_lgroup_0, srt, freeSlots, wipeS]
  refine lcL_inv (fun rest acc s => ∃ (ys zs : List (List Nat)) (c' : Cell), rest = zs.map .str ∧ acc = ys.map .str ∧ (ys ++ zs).Sublist (sortS us) ∧ s = ⟨[some (.ob 0), some (.lst (us.map .str)), none], c' :: r⟩ ∧ BagOk c') ?_ ?_ _ _ _ ⟨[], sortS us, c, rfl, rfl, List.Sublist.refl _, rfl, hb⟩
  · rintro d rest acc s ⟨ys, zs, c', e1, rfl, hsub, rfl, hb⟩
    obtain ⟨z, zs, rfl⟩ : ∃ z zs', zs = z :: zs' := by
      cases zs with
      | nil => cases e1
      | cons z zs => exact ⟨z, zs, rfl⟩
    cases e1
    have hlen := hsub.length_le
    simp at hlen
    simp [MW_call, s_lpull, permL]
    refine (pull_ok n 2 c' r hb (by omega) (by omega)).imp fun d cs ⟨k, c2, e1, e2, e3, e4, e5⟩ => ?_
    subst e1; subst e4
    simp
    by_cases hk : k = 0
    · rw [if_pos hk]
      exact ⟨Nat.lt_of_lt_of_le (by omega) line, ys ++ [z], zs, rfl, by simp, by simpa using hsub, _, rfl, e5⟩
    · rw [if_neg hk]
      exact ⟨ys, zs, rfl, rfl, (List.Sublist.append_left (List.sublist_cons_self z zs) ys).trans hsub, _, rfl, e5⟩
  · rintro acc s ⟨ys, zs, c', e1, rfl, hsub, rfl, hb⟩
    have hc : U.cutD (ys.map D.str) none (some 3) = (ys.take 3).map .str := by
      have := @cutD_lo (ys.map D.str) 3
      simpa using this
    have h1 : (ys.take 3).Sublist (sortS us) := ((List.take_sublist 3 ys).trans (List.sublist_append_left ys zs)).trans hsub
    have h2 := (sort_strict hnd).sublist h1
    have h3 : ∀ y ∈ ys.take 3, y ∈ us := fun y hy => (sortS_perm us).mem_iff.mp (h1.subset hy)
    obtain ⟨g, hg⟩ : ∃ g, g = ys.take 3 := ⟨_, rfl⟩
    have h4 : g.length ≤ 3 := by rw [hg]; simp; omega
    rw [← hg] at h2 h3 hc
    simp only [MW_slcL, MW_asI, backS, hc, MW_tupL, MW_bind, MW_pure, SW_rt, MW_nil]
    exact ⟨g, rfl, h4, h3, h2, c', rfl, hb⟩
end Law

set_option maxHeartbeats 1000000
namespace Law
open PySem PySem.Spec PyProof.Rows U
theorem log9 {k : Nat} (h : k ≤ 9) : (k : Int).natAbs.log2 < 1920 := by
  have : k.log2 ≤ k := Nat.log2_le_self k
  simp; omega
theorem test_words_ok (m : Nat) (t : Te) (h : t.ok) (cs : List Cell) : FW (runF G cM cW (m + 1) i_test_words [t.d] cs) fun d cs' => d = .lst (t.ws.map .str) ∧ cs' = cs := by
  rw [r_test_words _ _ _ rfl, FW_end]
  cases t with
  | whole =>
    simp [b_test_words, b_test_words_0, b_test_words_1, Te.d, Te.ws]
    exact lineN (by omega)
  | spans g a =>
    have h1 : g.length ≤ 3 := h.1.1
    simp [b_test_words, b_test_words_0, b_test_words_1, Te.d, Te.ws, grp]
    exact lineN (by omega)
  | rank g k =>
    have h1 : g.length ≤ 3 := h.1.1
    have h2 := log9 (Nat.le_trans h.2 (by decide))
    simp at h2
    simp [b_test_words, b_test_words_0, b_test_words_0a_0, Te.d, Te.ws, grp, h2]
    exact lineN (by omega)
theorem pl_words_ok (m : Nat) (p : Pl) (h : p.ok) (cs : List Cell) : FW (runF G cM cW (m + 1) i_step_words [p.d] cs) fun d cs' => d = .lst (p.ws.map .str) ∧ cs' = cs := by
  rw [r_step_words _ _ _ rfl, FW_end]
  cases p with
  | uni g gs =>
    obtain ⟨h1, h2, h3⟩ := h
    simp [b_step_words, b_step_words_0, b_step_words_1, b_step_words_2, b_step_words_3, b_step_words_4, b_step_words_5, b_step_words_5a_0, b_step_words_5a_1, b_step_words_5a_2, Pl.d, Pl.ws, grp]
    have hg := h1.1
    refine ⟨lineN (by omega), ?_⟩
    have hc : U.cutD (D.tup (g.map .str) :: gs.map grp) (some 1) none = gs.map grp := by
      have := @cutD_hi (D.tup (g.map .str) :: gs.map grp) 1
      simpa using this
    rw [hc]
    have e0 : ∀ l : List (List W), (l.map (List.map D.str ∘ fun h => wCOM :: h)).flatten = ((l.map fun h => wCOM :: h).flatten).map .str := fun l => by simp [List.map_flatten]
    rw [e0]
    have own : ∀ (v : D) (xs : List D), (v = .own xs ∨ v = .lst xs) → frzD v = .lst xs := fun v xs h => by rcases h with rfl | rfl <;> rfl
    have fl : ∀ l : List (List W), (∀ h ∈ l, grOk h) → (l.map fun h => wCOM :: h).flatten.length ≤ 4 * l.length := fun l => by
      induction l with
      | nil => simp
      | cons x r ih =>
        intro hh
        have h1 := (hh x List.mem_cons_self).1
        have h2 := ih fun h hr => hh h (List.mem_cons_of_mem _ hr)
        simp only [List.map_cons, List.flatten_cons, List.length_append, List.length_cons]
        omega
    refine SW_for (fun rest s => ∃ (a b : List (List W)) (us : List W) (o : Option D) (v : D), gs = a ++ b ∧ rest = b.map grp ∧ us = wUNI :: (g ++ (a.map fun h => wCOM :: h).flatten) ∧ (v = .own (us.map .str) ∨ v = .lst (us.map .str)) ∧ s = ⟨[some (.tup [.str wUNI, .tup (.tup (g.map .str) :: gs.map grp)]), some (.str wUNI), some v, o], cs⟩) ?_ ?_ _ _ ⟨[], gs, _, none, _, rfl, rfl, rfl, .inl (by simp), rfl⟩
    · rintro d rest s ⟨a, b, us, o, v, e1, e2, e4, e3, rfl⟩
      obtain ⟨z, b, rfl⟩ : ∃ z b', b = z :: b' := by
        cases b with
        | nil => cases e2
        | cons z b => exact ⟨z, b, rfl⟩
      cases e2
      have hz := (h3 z (by rw [e1]; simp)).1
      have h4 := fl a fun h hh => h3 h (by rw [e1]; simp [hh])
      have h5 : a.length ≤ 3 := by rw [e1] at h2; simp at h2; omega
      have hu : us.length ≤ 20 := by rw [e4]; simp only [List.length_cons, List.length_append]; omega
      rcases e3 with rfl | rfl
      all_goals
        simp [b_step_words_5a_1_0, grp]
        exact ⟨lineN (by omega), lineN (by omega), a ++ [z], b, by simp [e1], rfl, by rw [e4]; simp⟩
    · rintro s ⟨a, b, us, o, v, e1, e2, e4, e3, rfl⟩
      cases b with
      | cons _ _ => cases e2
      | nil =>
        rw [List.append_nil] at e1
        subst e1
        rw [e4] at e3
        rcases e3 with rfl | rfl <;> simp
  | ext a g =>
    have h1 := h.2.1
    simp [b_step_words, b_step_words_0, b_step_words_1, b_step_words_2, b_step_words_3, b_step_words_3a_0, Pl.d, Pl.ws, grp]
    exact lineN (by omega)
  | tru g =>
    have h1 := h.1
    simp [b_step_words, b_step_words_0, b_step_words_1, b_step_words_2, b_step_words_3, b_step_words_4, b_step_words_4a_0, Pl.d, Pl.ws, grp]
    exact lineN (by omega)
  | _ => simp [b_step_words, b_step_words_0, b_step_words_1, b_step_words_2, b_step_words_3, b_step_words_4, b_step_words_5, b_step_words_6, Pl.d, Pl.ws]
end Law

set_option maxHeartbeats 1000000
namespace Law
open PySem PySem.Spec PyProof.Rows U
theorem enumL_drop {xs : List D} {j : Nat} (h : j < xs.length) : (enumL xs).drop j = .tup [.int (j : Int), xs[j]] :: (enumL xs).drop (j + 1) := by
  have h2 : j < (enumL xs).length := by rw [enumL_len]; exact h
  rw [List.drop_eq_getElem_cons h2]
  have e : (enumL xs)[j]? = some (.tup [.int (j : Int), xs[j]]) := enumL_get (by simp [h])
  rw [List.getElem?_eq_getElem h2] at e
  rw [Option.some.inj e]
theorem take_ws {a : List St} {j : Nat} (h : j < a.length) : wsS (a.take (j + 1)) = wsS (a.take j) ++ [a[j].ws] := by
  rw [wsS_map, wsS_map, List.take_succ_eq_append_getElem h, List.map_append]; rfl
theorem glue_take (a : List St) (j : Nat) : (glue (wsS (a.take j))).length ≤ (glue (wsS a)).length := by
  have h := glue_pre (wsS (a.take j)) (wsS (a.drop j))
  have e : wsS (a.take j) ++ wsS (a.drop j) = wsS a := by rw [wsS_map, wsS_map, wsS_map, ← List.map_append, List.take_append_drop]
  rw [e] at h; exact h
theorem ws_le {a : List St} {s : St} (h : s ∈ a) : s.ws.length ≤ (glue (wsS a)).length := glue_mem (by rw [wsS_map]; exact List.mem_map_of_mem h)
def StepOk (i : Nat) (k : Nat) : Prop := ∀ s : St, s.dep ≤ k → s.ok → s.ws.length ≤ 900000 → ∀ m, 3 * k + 1 ≤ m → ∀ cs, FW (runF G cM cW m i [s.d] cs) fun d cs' => d = .lst (s.ws.map .str) ∧ cs' = cs
def WordsOk (i : Nat) (k : Nat) : Prop := ∀ a : List St, depS a ≤ k → okSs a → (glue (wsS a)).length ≤ 900000 → ∀ m, 3 * k + 2 ≤ m → ∀ cs, FW (runF G cM cW m i [.tup (dsS a)] cs) fun d cs' => d = .lst ((glue (wsS a)).map .str) ∧ cs' = cs
theorem frz_of {v : D} {xs : List D} (h : v = .own xs ∨ v = .lst xs) : frzD v = .lst xs := by rcases h with rfl | rfl <;> rfl
theorem words_of {k : Nat} (hk : StepOk i_step_words k) : WordsOk i_words_of k := fun a hd ho hl m hm cs => by
  obtain ⟨m, rfl⟩ : ∃ m', m = m' + 1 := ⟨m - 1, by omega⟩
  rw [r_words_of _ _ _ rfl, FW_end]
  simp [b_words_of, b_words_of_0, b_words_of_1]
  have hdl : (dsS a).length = a.length := by rw [dsS_map, List.length_map]
  refine SW_for (fun rest s => ∃ (j : Nat) (v : D) (o2 o3 : Option D), j ≤ a.length ∧ rest = (enumL (dsS a)).drop j ∧ (v = .own ((glue (wsS (a.take j))).map .str) ∨ v = .lst ((glue (wsS (a.take j))).map .str)) ∧ s = ⟨[some (.tup (dsS a)), some v, o2, o3], cs⟩) ?_ ?_ _ _ ⟨0, .own [], none, none, by omega, rfl, .inl (by simp [wsS, glue]), rfl⟩
  · rintro d rest s ⟨j, v, o2, o3, hj, e1, e2, rfl⟩
    by_cases hlt : j < a.length
    · rw [enumL_drop (by omega)] at e1
      cases e1
      have hs : (dsS a)[j]'(by omega) = a[j].d := by simp [dsS_map]
      rw [hs]
      have hm2 : a[j] ∈ a := List.getElem_mem hlt
      have hws := ws_le hm2
      have hgt := glue_take a j
      have hgt2 := glue_take a (j + 1)
      have stp := fun cs => hk a[j] (Nat.le_trans (depS_mem _ hm2) hd) (okSs_mem ho _ hm2) (by omega) m (by omega) cs
      have hown : isOwn a[j].d = false ∧ frzD a[j].d = a[j].d := by
        cases a[j] with
        | pl p => cases p <;> exact ⟨rfl, rfl⟩
        | iff t a b => exact ⟨rfl, rfl⟩
        | rep k a => exact ⟨rfl, rfl⟩
      have eg : glue (wsS (a.take (j + 1))) = glue (wsS (a.take j)) ++ ((if wsS (a.take j) = [] then [] else [wSEMI]) ++ a[j].ws) := by rw [take_ws hlt, glue_snoc]
      obtain ⟨us, hu⟩ : ∃ us, us = glue (wsS (a.take j)) := ⟨_, rfl⟩
      obtain ⟨ws, hw⟩ : ∃ ws, ws = a[j].ws := ⟨_, rfl⟩
      rw [← hu] at e2 hgt eg
      rw [← hw] at stp eg hws
      obtain ⟨dd, hdd⟩ : ∃ dd, dd = a[j].d := ⟨_, rfl⟩
      rw [← hdd] at stp hown ⊢
      have e0 : wsS (a.take j) = [] ↔ j = 0 := by
        rw [wsS_map, List.map_eq_nil_iff, List.take_eq_nil_iff]
        constructor
        · rintro (h | h)
          · exact h
          · rw [h] at hlt; simp at hlt
        · exact .inl
      by_cases h0 : j = 0
      · rw [if_pos (e0.mpr h0)] at eg
        rcases e2 with rfl | rfl
        all_goals
          simp [b_words_of_1_0, MW_call, s_step_words, permL, h0, hown]
          refine ⟨lineM (by omega), (stp cs).imp fun d cs' ⟨q1, q2⟩ => ?_⟩
          subst q1; subst q2
          simp
          refine ⟨lineM (by rw [eg] at hgt2; simp at hgt2; omega), 1, by omega, by simp, ?_⟩
          have : j + 1 = 1 := by omega
          rw [this] at eg
          rw [eg]; simp
      · rw [if_neg (fun h => h0 (e0.mp h))] at eg
        have hj0 : (0 : Int) < j := by omega
        rcases e2 with rfl | rfl
        all_goals
          simp [b_words_of_1_0, MW_call, s_step_words, permL, Nat.pos_of_ne_zero h0, hown]
          refine ⟨lineM (by omega), lineM (by rw [eg] at hgt2; simp at hgt2; omega), (stp cs).imp fun d cs' ⟨q1, q2⟩ => ?_⟩
          subst q1; subst q2
          simp
          refine ⟨lineM (by rw [eg] at hgt2; simp at hgt2; omega), j + 1, by omega, rfl, ?_⟩
          rw [eg]; simp
    · rw [List.drop_eq_nil_of_le (by rw [enumL_len]; omega)] at e1
      cases e1
  · rintro s ⟨j, v, o2, o3, hj, e1, e2, rfl⟩
    have hj2 : j = a.length := by
      have := congrArg List.length e1
      simp [enumL_len] at this
      omega
    subst hj2
    rw [List.take_length] at e2
    rcases e2 with rfl | rfl <;> simp [b_words_of_2]
theorem block_ok {k : Nat} (hk : WordsOk i_words_of k) (a : List St) (hd : depS a ≤ k) (ho : okSs a) (hl : (glue (wsS a)).length ≤ 900000) (m : Nat) (hm : 3 * k + 3 ≤ m) (cs : List Cell) : FW (runF G cM cW m i_block_words [.tup (dsS a)] cs) fun d cs' => d = .lst ((wLP :: (glue (wsS a) ++ [wRP])).map .str) ∧ cs' = cs := by
  obtain ⟨m, rfl⟩ : ∃ m', m = m' + 1 := ⟨m - 1, by omega⟩
  rw [r_block_words _ _ _ rfl, FW_end]
  simp [b_block_words, b_block_words_0, MW_call, s_words_of, permL]
  refine (hk a hd ho (by omega) m (by omega) cs).imp fun d cs' ⟨q1, q2⟩ => ?_
  subst q1; subst q2
  simp
  exact lineM (by omega)
theorem step_ok : ∀ k, StepOk i_step_words k
  | 0 => fun s hd ho hl m hm cs => by
    obtain ⟨m, rfl⟩ : ∃ m', m = m' + 1 := ⟨m - 1, by omega⟩
    cases s with
    | pl p => unfold St.d St.ws; exact pl_words_ok m p (by simpa [St.ok] using ho) cs
    | iff t a b => simp [St.dep] at hd
    | rep k a => simp [St.dep] at hd
  | k + 1 => fun s hd ho hl m hm cs => by
    have ih := words_of (step_ok k)
    obtain ⟨m, rfl⟩ : ∃ m', m = m' + 1 := ⟨m - 1, by omega⟩
    cases s with
    | pl p => unfold St.d St.ws; exact pl_words_ok m p (by simpa [St.ok] using ho) cs
    | iff t a b =>
      obtain ⟨m, rfl⟩ : ∃ m', m = m' + 1 := ⟨m - 1, by omega⟩
      simp [St.dep] at hd
      obtain ⟨o1, o2, o3⟩ : t.ok ∧ okSs a ∧ okSs b := by simpa [St.ok] using ho
      simp [St.ws] at hl
      have ht : t.ws.length ≤ 5 := by
        cases t with
        | whole => simp [Te.ws]
        | spans g a => have := o1.1.1; simp [Te.ws]; omega
        | rank g a => have := o1.1.1; simp [Te.ws]; omega
      have tst := fun cs => test_words_ok m t o1 cs
      have b1 := fun cs (hl : (glue (wsS a)).length ≤ 900000) => block_ok ih a (by omega) o2 hl (m + 1) (by omega) cs
      have b2 := fun cs (hl : (glue (wsS b)).length ≤ 900000) => block_ok ih b (by omega) o3 hl (m + 1) (by omega) cs
      have hto : isOwn t.d = false ∧ frzD t.d = t.d := by cases t <;> exact ⟨rfl, rfl⟩
      rw [r_step_words _ _ _ rfl, FW_end]
      unfold St.d
      simp [b_step_words, b_step_words_0, b_step_words_1, b_step_words_1a_0, MW_call, s_test_words, s_block_words, permL, hto]
      refine (tst cs).imp fun d cs' ⟨q1, q2⟩ => ?_
      subst q1; subst q2
      simp
      refine ⟨lineM (by omega), (b1 _ (by omega)).imp fun d cs' ⟨q1, q2⟩ => ?_⟩
      subst q1; subst q2
      simp
      refine ⟨lineM (by omega), lineM (by omega), lineM (by omega), (b2 _ (by omega)).imp fun d cs' ⟨q1, q2⟩ => ?_⟩
      subst q1; subst q2
      simp [St.ws]
      exact lineM (by omega)
    | rep j a =>
      obtain ⟨m, rfl⟩ : ∃ m', m = m' + 1 := ⟨m - 1, by omega⟩
      simp [St.dep] at hd
      obtain ⟨o1, o2⟩ : (1 ≤ j ∧ j ≤ 4) ∧ okSs a := by unfold St.ok at ho; exact ho
      simp [St.ws] at hl
      have b1 := fun cs (hl : (glue (wsS a)).length ≤ 900000) => block_ok ih a (by omega) o2 hl (m + 1) (by omega) cs
      have hlg := log9 (k := j) (by omega)
      simp at hlg
      rw [r_step_words _ _ _ rfl, FW_end]
      unfold St.d
      simp [b_step_words, b_step_words_0, b_step_words_1, b_step_words_2, b_step_words_2a_0, MW_call, s_block_words, permL, hlg]
      refine ⟨lineM (by omega), (b1 _ (by omega)).imp fun d cs' ⟨q1, q2⟩ => ?_⟩
      subst q1; subst q2
      simp [St.ws]
      exact lineM (by omega)
theorem words_ok (k : Nat) : WordsOk i_words_of k := words_of (step_ok k)
end Law

set_option maxHeartbeats 1000000
namespace Law
open PySem PySem.Spec PyProof.Rows U
theorem dig : ∀ k : Nat, k ≤ 9 → gT (strOfInt (k : Int)) := by
  have h : ∀ k : Fin 10, (1 ≤ (strOfInt ((k : Nat) : Int)).length ∧ (strOfInt ((k : Nat) : Int)).length ≤ 10 ∧ ∀ x ∈ strOfInt ((k : Nat) : Int), x < 128 ∧ x ≠ 32) := by decide +kernel
  intro k hk
  exact h ⟨k, by omega⟩
instance (w : W) : Decidable (gT w) := inferInstanceAs (Decidable (_ ∧ _ ∧ _))
theorem Te.gW {t : Te} (h : t.ok) : ∀ w ∈ t.ws, gT w := by
  cases t with
  | whole => simp [Te.ws]; decide
  | spans g a =>
    intro w hw
    simp [Te.ws] at hw
    rcases hw with rfl | rfl | hw
    · decide
    · exact h.2.b
    · exact (h.1.2.1 w hw).b
  | rank g k =>
    intro w hw
    simp [Te.ws] at hw
    rcases hw with rfl | rfl | hw
    · decide
    · exact dig k (Nat.le_trans h.2 (by decide))
    · exact (h.1.2.1 w hw).b
theorem Pl.gW {p : Pl} (h : p.ok) : ∀ w ∈ p.ws, gT w := by
  cases p with
  | uni g gs =>
    intro w hw
    simp [Pl.ws] at hw
    rcases hw with rfl | hw | hw
    · decide
    · exact (h.1.2.1 w hw).b
    · obtain ⟨l, ⟨a, hl, rfl⟩, hw⟩ := hw
      rcases List.mem_cons.mp hw with rfl | hw
      · decide
      · exact ((h.2.2 a hl).2.1 w hw).b
  | ext a g =>
    intro w hw
    simp [Pl.ws] at hw
    rcases hw with rfl | rfl | hw
    · decide
    · exact gW.b h.1
    · exact (h.2.2.1 w hw).b
  | tru g =>
    intro w hw
    simp [Pl.ws] at hw
    rcases hw with rfl | hw
    · decide
    · exact (h.2.1 w hw).b
  | ren a b =>
    intro w hw
    simp [Pl.ws] at hw
    rcases hw with rfl | rfl | rfl
    · decide
    · exact gW.b h.1
    · exact gW.b h.2
  | dual => intro w hw; simp [Pl.ws] at hw; subst hw; decide
  | cut => intro w hw; simp [Pl.ws] at hw; subst hw; decide
  | use a =>
    intro w hw
    simp [Pl.ws] at hw
    rcases hw with rfl | rfl
    · decide
    · exact gP.b h
  | _ =>
    intro w hw
    simp [Pl.ws] at hw
    rcases hw with rfl | rfl
    · decide
    · exact gW.b h
theorem glue_sub : ∀ {xs : List (List W)}, (∀ x ∈ xs, ∀ w ∈ x, gT w) → ∀ w ∈ glue xs, gT w
  | [], _, w, hw => by simp [glue] at hw
  | x :: r, h, w, hw => by
    simp [glue] at hw
    rcases hw with hw | ⟨_, ⟨l, hl, rfl⟩, hw⟩
    · exact h x List.mem_cons_self w hw
    · rcases List.mem_cons.mp hw with rfl | hw
      · decide
      · exact h l (List.mem_cons_of_mem _ hl) w hw
mutual
theorem St.gW : ∀ s : St, s.ok → ∀ w ∈ s.ws, gT w
  | .pl p, h, w, hw => by
    unfold St.ws at hw; unfold St.ok at h
    exact Pl.gW h w hw
  | .iff t a b, h, w, hw => by
    unfold St.ok at h
    have h1 := Te.gW h.1
    have h2 := glue_sub (wsS_gW a h.2.1)
    have h3 := glue_sub (wsS_gW b h.2.2)
    simp [St.ws] at hw
    rcases hw with rfl | hw | rfl | hw | rfl | rfl | rfl | hw | rfl
    · decide
    · exact h1 w hw
    · decide
    · exact h2 w hw
    · decide
    · decide
    · decide
    · exact h3 w hw
    · decide
  | .rep k a, h, w, hw => by
    unfold St.ok at h
    have h2 := glue_sub (wsS_gW a h.2)
    simp [St.ws] at hw
    rcases hw with rfl | rfl | rfl | hw | rfl
    · decide
    · exact dig k (by omega)
    · decide
    · exact h2 w hw
    · decide
theorem wsS_gW : ∀ a : List St, okSs a → ∀ x ∈ wsS a, ∀ w ∈ x, gT w
  | [], _, x, hx, w, hw => by simp [wsS] at hx
  | s :: r, h, x, hx, w, hw => by
    unfold okSs at h
    unfold wsS at hx
    rcases List.mem_cons.mp hx with rfl | hx
    · exact St.gW s h.1 w hw
    · exact wsS_gW r h.2 x hx w hw
end
theorem ltest_words_ok (m : Nat) (t : Te) (h : t.ok) (cs : List Cell) : FW (runF G cM cW (m + 1) i_ltest_words [t.d] cs) fun d cs' => d = .lst (t.ws.map .str) ∧ cs' = cs := by
  rw [r_ltest_words _ _ _ rfl, FW_end]
  cases t with
  | whole =>
    simp [b_ltest_words, b_ltest_words_0, b_ltest_words_0a_0, Te.d, Te.ws]
    exact lineN (by omega)
  | spans g a =>
    have h1 : g.length ≤ 3 := h.1.1
    simp [b_ltest_words, b_ltest_words_0, b_ltest_words_1, Te.d, Te.ws, grp]
    exact ⟨lineN (by omega), lineN (by omega)⟩
  | rank g k =>
    have h1 : g.length ≤ 3 := h.1.1
    have h2 := log9 (Nat.le_trans h.2 (by decide))
    simp at h2
    simp [b_ltest_words, b_ltest_words_0, b_ltest_words_1, Te.d, Te.ws, grp, h2]
    exact ⟨lineN (by omega), lineN (by omega)⟩
theorem lpl_words_ok (m : Nat) (p : Pl) (h : p.ok) (cs : List Cell) : FW (runF G cM cW (m + 1) i_lstep_words [p.d] cs) fun d cs' => d = .lst (p.ws.map .str) ∧ cs' = cs := by
  rw [r_lstep_words _ _ _ rfl, FW_end]
  cases p with
  | uni g gs =>
    obtain ⟨h1, h2, h3⟩ := h
    simp [b_lstep_words, b_lstep_words_0, b_lstep_words_1, b_lstep_words_2, b_lstep_words_3, b_lstep_words_4, b_lstep_words_5, b_lstep_words_5a_0, b_lstep_words_5a_1, b_lstep_words_5a_2, Pl.d, Pl.ws, grp]
    have hg := h1.1
    refine ⟨lineN (by omega), lineN (by omega), ?_⟩
    have hc : U.cutD (D.tup (g.map .str) :: gs.map grp) (some 1) none = gs.map grp := by
      have := @cutD_hi (D.tup (g.map .str) :: gs.map grp) 1
      simpa using this
    rw [hc]
    have e0 : ∀ l : List (List W), (l.map (List.map D.str ∘ fun h => wCOM :: h)).flatten = ((l.map fun h => wCOM :: h).flatten).map .str := fun l => by simp [List.map_flatten]
    rw [e0]
    have own : ∀ (v : D) (xs : List D), (v = .own xs ∨ v = .lst xs) → frzD v = .lst xs := fun v xs h => by rcases h with rfl | rfl <;> rfl
    have fl : ∀ l : List (List W), (∀ h ∈ l, grOk h) → (l.map fun h => wCOM :: h).flatten.length ≤ 4 * l.length := fun l => by
      induction l with
      | nil => simp
      | cons x r ih =>
        intro hh
        have h1 := (hh x List.mem_cons_self).1
        have h2 := ih fun h hr => hh h (List.mem_cons_of_mem _ hr)
        simp only [List.map_cons, List.flatten_cons, List.length_append, List.length_cons]
        omega
    refine SW_for (fun rest s => ∃ (a b : List (List W)) (us : List W) (o : Option D) (v : D), gs = a ++ b ∧ rest = b.map grp ∧ us = wUNI :: (g ++ (a.map fun h => wCOM :: h).flatten) ∧ (v = .own (us.map .str) ∨ v = .lst (us.map .str)) ∧ s = ⟨[some (.tup [.str wUNI, .tup (.tup (g.map .str) :: gs.map grp)]), some (.str wUNI), some v, o], cs⟩) ?_ ?_ _ _ ⟨[], gs, _, none, _, rfl, rfl, rfl, .inr (by simp), rfl⟩
    · rintro d rest s ⟨a, b, us, o, v, e1, e2, e4, e3, rfl⟩
      obtain ⟨z, b, rfl⟩ : ∃ z b', b = z :: b' := by
        cases b with
        | nil => cases e2
        | cons z b => exact ⟨z, b, rfl⟩
      cases e2
      have hz := (h3 z (by rw [e1]; simp)).1
      have h4 := fl a fun h hh => h3 h (by rw [e1]; simp [hh])
      have h5 : a.length ≤ 3 := by rw [e1] at h2; simp at h2; omega
      have hu : us.length ≤ 20 := by rw [e4]; simp only [List.length_cons, List.length_append]; omega
      rcases e3 with rfl | rfl
      all_goals
        simp [b_lstep_words_5a_1_0, grp]
        exact ⟨lineN (by omega), lineN (by omega), lineN (by omega), a ++ [z], b, by simp [e1], rfl, by rw [e4]; simp⟩
    · rintro s ⟨a, b, us, o, v, e1, e2, e4, e3, rfl⟩
      cases b with
      | cons _ _ => cases e2
      | nil =>
        rw [List.append_nil] at e1
        subst e1
        rw [e4] at e3
        rcases e3 with rfl | rfl <;> simp
  | ext a g =>
    have h1 := h.2.1
    simp [b_lstep_words, b_lstep_words_0, b_lstep_words_1, b_lstep_words_2, b_lstep_words_3, b_lstep_words_3a_0, Pl.d, Pl.ws, grp]
    first | exact lineN (by omega) | exact ⟨lineN (by omega), lineN (by omega)⟩
  | tru g =>
    have h1 := h.1
    simp [b_lstep_words, b_lstep_words_0, b_lstep_words_1, b_lstep_words_2, b_lstep_words_3, b_lstep_words_4, b_lstep_words_4a_0, Pl.d, Pl.ws, grp]
    first | exact lineN (by omega) | exact ⟨lineN (by omega), lineN (by omega)⟩
  | _ => simp [b_lstep_words, b_lstep_words_0, b_lstep_words_1, b_lstep_words_2, b_lstep_words_3, b_lstep_words_4, b_lstep_words_5, b_lstep_words_6, Pl.d, Pl.ws]
end Law

set_option maxHeartbeats 1000000
namespace Law
open PySem PySem.Spec PyProof.Rows U
theorem lwords_of {k : Nat} (hk : StepOk i_lstep_words k) : WordsOk i_lwords k := fun a hd ho hl m hm cs => by
  obtain ⟨m, rfl⟩ : ∃ m', m = m' + 1 := ⟨m - 1, by omega⟩
  rw [r_lwords _ _ _ rfl, FW_end]
  simp [b_lwords, b_lwords_0, b_lwords_1]
  have hdl : (dsS a).length = a.length := by rw [dsS_map, List.length_map]
  refine SW_for (fun rest s => ∃ (j : Nat) (v : D) (o2 : Option D), j ≤ a.length ∧ rest = (dsS a).drop j ∧ (v = .own ((glue (wsS (a.take j))).map .str) ∨ v = .lst ((glue (wsS (a.take j))).map .str)) ∧ s = ⟨[some (.tup (dsS a)), some v, o2], cs⟩) ?_ ?_ _ _ ⟨0, .own [], none, by omega, rfl, .inl (by simp [wsS, glue]), rfl⟩
  · rintro d rest s ⟨j, v, o2, hj, e1, e2, rfl⟩
    by_cases hlt : j < a.length
    · rw [List.drop_eq_getElem_cons (by omega)] at e1
      cases e1
      have hs : (dsS a)[j]'(by omega) = a[j].d := by simp [dsS_map]
      rw [hs]
      have hm2 : a[j] ∈ a := List.getElem_mem hlt
      have hws := ws_le hm2
      have hgt := glue_take a j
      have hgt2 := glue_take a (j + 1)
      have stp := fun cs => hk a[j] (Nat.le_trans (depS_mem _ hm2) hd) (okSs_mem ho _ hm2) (by omega) m (by omega) cs
      have hown : isOwn a[j].d = false ∧ frzD a[j].d = a[j].d := by
        cases a[j] with
        | pl p => cases p <;> exact ⟨rfl, rfl⟩
        | iff t a b => exact ⟨rfl, rfl⟩
        | rep k a => exact ⟨rfl, rfl⟩
      have eg : glue (wsS (a.take (j + 1))) = glue (wsS (a.take j)) ++ ((if wsS (a.take j) = [] then [] else [wSEMI]) ++ a[j].ws) := by rw [take_ws hlt, glue_snoc]
      obtain ⟨us, hu⟩ : ∃ us, us = glue (wsS (a.take j)) := ⟨_, rfl⟩
      obtain ⟨ws, hw⟩ : ∃ ws, ws = a[j].ws := ⟨_, rfl⟩
      rw [← hu] at e2 hgt eg
      rw [← hw] at stp eg hws
      obtain ⟨dd, hdd⟩ : ∃ dd, dd = a[j].d := ⟨_, rfl⟩
      rw [← hdd] at stp hown ⊢
      have e0 : wsS (a.take j) = [] ↔ j = 0 := by
        rw [wsS_map, List.map_eq_nil_iff, List.take_eq_nil_iff]
        constructor
        · rintro (h | h)
          · exact h
          · rw [h] at hlt; simp at hlt
        · exact .inl
      have hus : okL (us.map .str) = true := okL_strs (gTs_ok (by rw [hu]; exact glue_sub fun x hx => wsS_gW a ho x (by rw [wsS_map] at hx ⊢; exact List.map_subset _ (List.take_subset _ _) hx)))
      have neq : ∀ (s : S) (Q : D → S → Prop), MW (cmpD .NotEq (.lst (us.map .str)) (.lst [])) s Q = Q (.bl (!decide (us = []))) s := fun s Q => by
        rw [MW_neG (by simpa [okD] using hus) (by simp [okD, okL]) (by simp [depD, depL_strs]) (by simp [depD, depL])]
        have := eqGL_strs us []
        simp only [List.map_nil] at this
        simp [eqG, this]
      have u0 : us = [] ↔ j = 0 := by
        rw [hu, glue_nil_iff (by rw [wsS_map]; intro x hx; obtain ⟨s, _, rfl⟩ := List.mem_map.mp hx; exact s.ne), e0]
      by_cases h0 : j = 0
      · rw [if_pos (e0.mpr h0)] at eg
        have hu0 := u0.mpr h0
        have neq0 : ∀ (s : S) (Q : D → S → Prop), MW (cmpD .NotEq (.lst (us.map .str)) (.lst [])) s Q = Q (.bl false) s := fun s Q => by rw [neq, hu0]; rfl
        rcases e2 with rfl | rfl
        all_goals
          simp [b_lwords_1_0, MW_call, s_lstep_words, permL, hown, neq0]
          refine ⟨lineM (by omega), (stp cs).imp fun d cs' ⟨q1, q2⟩ => ?_⟩
          subst q1; subst q2
          simp
          refine ⟨lineM (by rw [eg] at hgt2; simp at hgt2; omega), j + 1, by omega, rfl, ?_⟩
          rw [eg]; simp
      · rw [if_neg (fun h => h0 (e0.mp h))] at eg
        have hu0 : us ≠ [] := fun h => h0 (u0.mp h)
        rcases e2 with rfl | rfl
        all_goals
          simp [b_lwords_1_0, MW_call, s_lstep_words, permL, hown, neq, hu0]
          refine ⟨lineM (by omega), lineM (by rw [eg] at hgt2; simp at hgt2; omega), (stp cs).imp fun d cs' ⟨q1, q2⟩ => ?_⟩
          subst q1; subst q2
          simp
          refine ⟨lineM (by rw [eg] at hgt2; simp at hgt2; omega), j + 1, by omega, rfl, ?_⟩
          rw [eg]; simp
    · rw [List.drop_eq_nil_of_le (by omega)] at e1
      cases e1
  · rintro s ⟨j, v, o2, hj, e1, e2, rfl⟩
    have hj2 : j = a.length := by
      have := congrArg List.length e1
      simp at this
      omega
    subst hj2
    rw [List.take_length] at e2
    rcases e2 with rfl | rfl <;> simp [b_lwords_2]
theorem lstep_ok : ∀ k, StepOk i_lstep_words k
  | 0 => fun s hd ho hl m hm cs => by
    obtain ⟨m, rfl⟩ : ∃ m', m = m' + 1 := ⟨m - 1, by omega⟩
    cases s with
    | pl p => unfold St.d St.ws; exact lpl_words_ok m p (by simpa [St.ok] using ho) cs
    | iff t a b => simp [St.dep] at hd
    | rep k a => simp [St.dep] at hd
  | k + 1 => fun s hd ho hl m hm cs => by
    have ih := lwords_of (lstep_ok k)
    obtain ⟨m, rfl⟩ : ∃ m', m = m' + 1 := ⟨m - 1, by omega⟩
    cases s with
    | pl p => unfold St.d St.ws; exact lpl_words_ok m p (by simpa [St.ok] using ho) cs
    | iff t a b =>
      obtain ⟨m, rfl⟩ : ∃ m', m = m' + 1 := ⟨m - 1, by omega⟩
      simp [St.dep] at hd
      obtain ⟨o1, o2, o3⟩ : t.ok ∧ okSs a ∧ okSs b := by simpa [St.ok] using ho
      simp [St.ws] at hl
      have ht : t.ws.length ≤ 5 := by
        cases t with
        | whole => simp [Te.ws]
        | spans g a => have := o1.1.1; simp [Te.ws]; omega
        | rank g a => have := o1.1.1; simp [Te.ws]; omega
      have tst := fun cs => ltest_words_ok m t o1 cs
      have b1 := fun cs (hl : (glue (wsS a)).length ≤ 900000) => ih a (by omega) o2 hl (m + 1) (by omega) cs
      have b2 := fun cs (hl : (glue (wsS b)).length ≤ 900000) => ih b (by omega) o3 hl (m + 1) (by omega) cs
      have hto : isOwn t.d = false ∧ frzD t.d = t.d := by cases t <;> exact ⟨rfl, rfl⟩
      rw [r_lstep_words _ _ _ rfl, FW_end]
      unfold St.d
      simp [b_lstep_words, b_lstep_words_0, b_lstep_words_1, b_lstep_words_1a_0, MW_call, s_ltest_words, s_lwords, permL, hto]
      refine ⟨lineM (by omega), (tst cs).imp fun d cs' ⟨q1, q2⟩ => ?_⟩
      subst q1; subst q2
      simp
      refine ⟨lineM (by omega), lineM (by omega), lineM (by omega), (b1 _ (by omega)).imp fun d cs' ⟨q1, q2⟩ => ?_⟩
      subst q1; subst q2
      simp
      refine ⟨lineM (by omega), lineM (by omega), lineM (by omega), (b2 _ (by omega)).imp fun d cs' ⟨q1, q2⟩ => ?_⟩
      subst q1; subst q2
      simp [St.ws]
      exact ⟨lineM (by omega), lineM (by omega), lineM (by omega)⟩
    | rep j a =>
      obtain ⟨m, rfl⟩ : ∃ m', m = m' + 1 := ⟨m - 1, by omega⟩
      simp [St.dep] at hd
      obtain ⟨o1, o2⟩ : (1 ≤ j ∧ j ≤ 4) ∧ okSs a := by unfold St.ok at ho; exact ho
      simp [St.ws] at hl
      have b1 := fun cs (hl : (glue (wsS a)).length ≤ 900000) => ih a (by omega) o2 hl (m + 1) (by omega) cs
      have hlg := log9 (k := j) (by omega)
      simp at hlg
      rw [r_lstep_words _ _ _ rfl, FW_end]
      unfold St.d
      simp [b_lstep_words, b_lstep_words_0, b_lstep_words_1, b_lstep_words_2, b_lstep_words_2a_0, MW_call, s_lwords, permL, hlg]
      refine ⟨lineM (by omega), (b1 _ (by omega)).imp fun d cs' ⟨q1, q2⟩ => ?_⟩
      subst q1; subst q2
      simp [St.ws]
      exact ⟨lineM (by omega), lineM (by omega), lineM (by omega)⟩
theorem lwords_ok (k : Nat) : WordsOk i_lwords k := lwords_of (lstep_ok k)
theorem sum10 : ∀ {us : List W}, (∀ w ∈ us, gT w) → (us.map (·.length)).sum ≤ 10 * us.length
  | [], _ => by simp
  | u :: r, h => by
    have h1 := (h u List.mem_cons_self).2.1
    have h2 := sum10 fun w hw => h w (List.mem_cons_of_mem _ hw)
    simp only [List.map_cons, List.sum_cons, List.length_cons]
    omega
theorem glue_gW {a : List St} (h : okSs a) : ∀ w ∈ glue (wsS a), gT w := glue_sub fun x hx => wsS_gW a h x hx
theorem text_ok (a : List St) (hd : depS a ≤ 5) (ho : okSs a) (hl : (glue (wsS a)).length ≤ 900000) (m : Nat) (hm : 20 ≤ m) (cs : List Cell) : FW (runF G cM cW m i_text_of [.tup (dsS a)] cs) fun d cs' => d = .str (joinN [32] (glue (wsS a))) ∧ cs' = cs := by
  obtain ⟨m, rfl⟩ : ∃ m', m = m' + 1 := ⟨m - 1, by omega⟩
  rw [r_text_of _ _ _ rfl, FW_end]
  simp [b_text_of, b_text_of_0, MW_call, s_words_of, permL]
  refine (words_ok 5 a hd ho hl m (by omega) cs).imp fun d cs' ⟨q1, q2⟩ => ?_
  subst q1; subst q2
  have h1 := sum10 (glue_gW ho)
  rw [MW_join (asStrs_map _) (Nat.le_trans (Nat.add_le_add_right h1 _) (by simp; omega))]
  exact ⟨rfl, rfl⟩
theorem ltext_ok (a : List St) (hd : depS a ≤ 5) (ho : okSs a) (hl : (glue (wsS a)).length ≤ 900000) (m : Nat) (hm : 20 ≤ m) (cs : List Cell) : FW (runF G cM cW m i_ltext [.tup (dsS a)] cs) fun d cs' => d = .str (joinN [32] (glue (wsS a))) ∧ cs' = cs := by
  obtain ⟨m, rfl⟩ : ∃ m', m = m' + 1 := ⟨m - 1, by omega⟩
  rw [r_ltext _ _ _ rfl, FW_end]
  simp [b_ltext, b_ltext_0, MW_call, s_lwords, permL]
  refine (lwords_ok 5 a hd ho hl m (by omega) cs).imp fun d cs' ⟨q1, q2⟩ => ?_
  subst q1; subst q2
  have h1 := sum10 (glue_gW ho)
  rw [MW_join (asStrs_map _) (Nat.le_trans (Nat.add_le_add_right h1 _) (by simp; omega))]
  exact ⟨rfl, rfl⟩
end Law

set_option maxHeartbeats 1000000
namespace Law
open PySem PySem.Spec PyProof.Rows U
theorem MW_ne0 {us : List W} (h : ∀ u ∈ us, gW u) {s : S} {Q : D → S → Prop} : MW (cmpD .NotEq (.lst (us.map .str)) (.lst [])) s Q = Q (.bl (!decide (us = []))) s := by
  have hus : okL (us.map .str) = true := okL_strs (gWs_ok h)
  rw [MW_neG (by simpa [okD] using hus) (by simp [okD, okL]) (by simp [depD, depL_strs]) (by simp [depD, depL])]
  have := eqGL_strs us []
  simp only [List.map_nil] at this
  simp [eqG, this]
theorem MW_eqT0 {us : List W} (h : ∀ u ∈ us, gW u) {s : S} {Q : D → S → Prop} : MW (cmpD .Eq (.tup (us.map .str)) (.tup [])) s Q = Q (.bl (decide (us = []))) s := by
  have hus : okL (us.map .str) = true := okL_strs (gWs_ok h)
  rw [MW_eqG (by simpa [okD] using hus) (by simp [okD, okL]) (by simp [depD, depL_strs]) (by simp [depD, depL])]
  have := eqGL_strs us []
  simp only [List.map_nil] at this
  simp [eqG, this]
theorem bases_ok (n : Nat) (g : List W) (hg : grOk g) (c : Cell) (r : List Cell) (hb : BagOk c) :
    FW (runF G cM cW (n + 2) i_lbases [.ob 0, grp g] (c :: r)) fun d cs => ∃ (b : List W) (bs : List (List W)) (c' : Cell), d = .tup (grp b :: bs.map grp) ∧ grOk b ∧ bs.length ≤ 3 ∧ (∀ h ∈ bs, grOk h) ∧ cs = c' :: r ∧ BagOk c' := by
  rw [r_lbases _ _ _ rfl, FW_end]
  have e0 := fun (s : S) (Q : D → S → Prop) => MW_eqT0 (s := s) (Q := Q) hg.2.1
  have h1s : 1 ≤ sizeLine := lineN (by omega)
  have h2s : 2 ≤ sizeLine := lineN (by omega)
  have h3s : 3 ≤ sizeLine := lineN (by omega)
  simp [b_lbases, b_lbases_0, b_lbases_0a_0, grp, e0]
  by_cases h : g = []
  · simp [h, h1s]
    exact ⟨[], [], ⟨rfl, rfl⟩, ⟨by simp, by simp, .nil⟩, by simp, by simp, hb⟩
  · simp [h]
    have pr := fun c hb => pull_ok n 2 c r hb (by omega) (by omega)
    -- the last way
    have last : ∀ c, BagOk c → SW (b_lbases_2 (runF G cM cW (n + 1))) ⟨[some (.ob 0), some (.tup (g.map .str)), none], c :: r⟩ (fun _ => False) fun d s => ∃ (b : List W) (bs : List (List W)) (c' : Cell), d = .tup (.tup (b.map .str) :: bs.map grp) ∧ grOk b ∧ bs.length ≤ 3 ∧ (∀ h ∈ bs, grOk h) ∧ s.cs = c' :: r ∧ BagOk c' := fun c hb => by
      simp [b_lbases_2, MW_call, s_lpull, permL]
      refine (pr c hb).imp fun d cs ⟨k, c1, e1, e2, e3, e4, e5⟩ => ?_
      subst e1; subst e4
      simp
      by_cases hk : k = 0
      · rw [if_pos hk]
        refine ⟨h1s, g, [], by simp, hg, by simp, by simp, e5⟩
      · rw [if_neg hk]
        simp [freeSlots, wipeS]
        refine lc_map (fun d => .tup [d]) (by rw [List.length_map]; exact lineN (by have := hg.1; omega)) (fun d hd => ?_) ?_
        · obtain ⟨w, hw, rfl⟩ := List.mem_map.mp hd
          simp [h1s, wipeS]
        · cases g with
          | nil => exact absurd rfl h
          | cons a g =>
            simp [backS]
            have ha := hg.2.1
            refine ⟨[a], g.map fun w => [w], by simp [grp], ⟨by simp, fun w hw => ha w (by simp at hw; simp [hw]), by simp⟩, by have := hg.1; simp at this ⊢; omega, fun l hl => ?_, e5⟩
            obtain ⟨w, hw, rfl⟩ := List.mem_map.mp hl
            exact ⟨by simp, fun v hv => ha v (by simp at hv; simp [hv, hw]), by simp⟩
    by_cases h3 : g.length = 3
    · match g, h3 with
      | [a, b, d], _ =>
        simp [b_lbases_1, MW_call, s_lpull, permL]
        refine (pr c hb).imp fun x cs ⟨k, c1, e1, e2, e3, e4, e5⟩ => ?_
        subst e1; subst e4
        simp
        by_cases hk : k = 0
        · rw [if_pos hk]
          have c1' : U.cutD [D.str a, D.str b, D.str d] none (some 2) = [D.str a, D.str b] := by
            have := @cutD_lo [D.str a, D.str b, D.str d] 2
            simpa using this
          have c2' : U.cutD [D.str a, D.str b, D.str d] (some 1) none = [D.str b, D.str d] := by
            have := @cutD_hi [D.str a, D.str b, D.str d] 1
            simpa using this
          have ha := hg.2.1
          have hpw := hg.2.2
          simp at hpw
          simp [b_lbases_1a_0, c1', c2', h2s, h3s]
          refine ⟨[a, b], [[b, d], [a, d]], by simp [grp], ⟨by simp, fun w hw => ha w (by simp at hw; rcases hw with rfl | rfl <;> simp), by simp [hpw]⟩, by simp, fun l hl => ?_, e5⟩
          simp at hl
          rcases hl with rfl | rfl
          · exact ⟨by simp, fun w hw => ha w (by simp at hw; rcases hw with rfl | rfl <;> simp), by simp [hpw]⟩
          · exact ⟨by simp, fun w hw => ha w (by simp at hw; rcases hw with rfl | rfl <;> simp), by simp [hpw]⟩
        · rw [if_neg hk]
          simpa [grp] using last c1 e5
    · have h4 : ¬ ((g.length : Int) = 3) := by omega
      simp [b_lbases_1, h4]
      simpa [grp] using last c hb
end Law

set_option maxHeartbeats 1000000
namespace Law
open PySem PySem.Spec PyProof.Rows U
/-- the bag in front, the rest as it was -/
def Bk (r cs : List Cell) : Prop := ∃ c, cs = c :: r ∧ BagOk c
/-- the name that is put in -/
def Pl.adds : Pl → List W
  | .ext a _ => [a]
  | .top a => [a]
  | .ren _ b => [b]
  | _ => []
def Pl.noUse : Pl → Prop
  | .use _ => False
  | _ => True
theorem lstep_ok1 (n : Nat) (us : List W) (f : W) (lk : Int) (hu : us.length ≤ 10) (hus : ∀ u ∈ us, gW u) (hnd : us.Nodup) (hf : gW f) (c : Cell) (r : List Cell) (hb : BagOk c) :
    FW (runF G cM cW (n + 3) i_lstep [.ob 0, .lst (us.map .str), .str f, .int lk] (c :: r)) fun d cs => ∃ p : Pl, d = p.d ∧ p.ok ∧ p.noUse ∧ (∀ b ∈ p.adds, b = f) ∧ Bk r cs := by
  rw [r_lstep _ _ _ rfl, FW_end]
  have h1s : 1 ≤ sizeLine := lineN (by omega)
  have h2s : 2 ≤ sizeLine := lineN (by omega)
  have h3s : 3 ≤ sizeLine := lineN (by omega)
  have ne := fun (s : S) (Q : D → S → Prop) => MW_ne0 (s := s) (Q := Q) hus
  simp [b_lstep, b_lstep_0, MW_call, s_lpull, s_lgroup, permL]
  refine (pull_ok (n + 1) 11 c r hb (by omega) (by omega)).imp fun d cs ⟨k, c1, e1, e2, e3, e4, e5⟩ => ?_
  subst e1; subst e4
  refine (group_ok n us c1 r e5 (by omega) hnd).imp fun d cs ⟨g, c2, e1, g1, g2, g3, e4, e5⟩ => ?_
  subst e1; subst e4
  have hg : grOk g := ⟨g1, fun w hw => hus w (g2 w hw), g3⟩
  -- behind the first three ways
  have last : SW (b_lstep_5 (runF G cM cW (n + 2))) ⟨[some (.ob 0), some (.lst (us.map .str)), some (.str f), some (.int lk), some (.int k), some (.tup (g.map .str)), none], c2 :: r⟩ (fun s => ∃ p : Pl, D.non = p.d ∧ p.ok ∧ p.noUse ∧ (∀ b ∈ p.adds, b = f) ∧ Bk r s.cs) fun d s => ∃ p : Pl, d = p.d ∧ p.ok ∧ p.noUse ∧ (∀ b ∈ p.adds, b = f) ∧ Bk r s.cs := by
    simp [b_lstep_5, MW_call, s_lbases, permL]
    by_cases h8 : k = 8
    · rw [if_pos h8]
      refine (bases_ok n g hg c2 r e5).imp fun d cs ⟨b, bs, c3, e1, q1, q2, q3, e4, e5⟩ => ?_
      subst e1; subst e4
      exact ⟨h2s, .uni b bs, rfl, ⟨q1, q2, q3⟩, trivial, by simp [Pl.adds], c3, rfl, e5⟩
    · rw [if_neg h8]
      exact ⟨h2s, .tru g, rfl, hg, trivial, by simp [Pl.adds], c2, rfl, e5⟩
  have rest : SW (b_lstep_2 (runF G cM cW (n + 2))) ⟨[some (.ob 0), some (.lst (us.map .str)), some (.str f), some (.int lk), some (.int k), some (.tup (g.map .str)), none], c2 :: r⟩ (fun s => SW (b_lstep_3 (runF G cM cW (n + 2))) s (fun s => SW (b_lstep_4 (runF G cM cW (n + 2))) s (fun s => SW (b_lstep_5 (runF G cM cW (n + 2))) s (fun s => ∃ p : Pl, D.non = p.d ∧ p.ok ∧ p.noUse ∧ (∀ b ∈ p.adds, b = f) ∧ Bk r s.cs) fun d s => ∃ p : Pl, d = p.d ∧ p.ok ∧ p.noUse ∧ (∀ b ∈ p.adds, b = f) ∧ Bk r s.cs) fun d s => ∃ p : Pl, d = p.d ∧ p.ok ∧ p.noUse ∧ (∀ b ∈ p.adds, b = f) ∧ Bk r s.cs) fun d s => ∃ p : Pl, d = p.d ∧ p.ok ∧ p.noUse ∧ (∀ b ∈ p.adds, b = f) ∧ Bk r s.cs) fun d s => ∃ p : Pl, d = p.d ∧ p.ok ∧ p.noUse ∧ (∀ b ∈ p.adds, b = f) ∧ Bk r s.cs := by
    by_cases h3 : k = 3
    · simp [b_lstep_2, b_lstep_2a_0, h3, h1s]
      exact ⟨.dual, rfl, trivial, trivial, by simp [Pl.adds], c2, rfl, e5⟩
    · simp [b_lstep_2, h3]
      by_cases h4 : k = 4 ∨ k = 5
      · have : (4 == k || 5 == k) = true := by rcases h4 with rfl | rfl <;> rfl
        simp [b_lstep_3, b_lstep_3a_0, h2s, h3s]
        rw [if_pos (by omega)]
        exact ⟨.ext f g, rfl, ⟨hf, hg⟩, trivial, by simp [Pl.adds], c2, rfl, e5⟩
      · simp [b_lstep_3, h2s]
        rw [if_neg (by omega)]
        by_cases h6 : (k = 6 ∨ k = 7) ∧ 0 < lk
        · simp [b_lstep_4, b_lstep_4a_0, h2s, h1s, h6.2]
          rw [if_pos (by omega)]
          by_cases h7 : k = 6
          · rw [if_pos h7]
            exact ⟨.top f, rfl, hf, trivial, by simp [Pl.adds], c2, rfl, e5⟩
          · rw [if_neg h7]
            exact ⟨.cut, rfl, trivial, trivial, by simp [Pl.adds], c2, rfl, e5⟩
        · simp [b_lstep_4, h2s]
          by_cases h7 : 6 = k ∨ 7 = k
          · have hlk : ¬ 0 < lk := fun h => h6 ⟨by omega, h⟩
            rw [if_pos h7, if_neg hlk]
            exact last
          · rw [if_neg h7]
            exact last
  simp only [b_lstep_1, SW_ite, MW_and, MW_and1]
  by_cases h3 : k < 3
  · simp [h3, ne]
    by_cases h0 : us = []
    · rw [if_pos h0]; exact rest
    · rw [if_neg h0]
      simp [b_lstep_1a_0, MW_call, s_lany, permL]
      refine (anyL_ok (n) (us.map .str) c2 r e5 (by simpa using h0) (by simp; omega)).imp fun d cs ⟨c3, hd, e4, e5⟩ => ?_
      subst e4
      obtain ⟨w, hw, rfl⟩ := List.mem_map.mp hd
      simp [b_lstep_1a_1, h2s, h3s]
      have hw := hus w hw
      obtain ⟨j, rfl⟩ := Int.eq_ofNat_of_zero_le e2
      have hj : j = 0 ∨ j = 1 ∨ j = 2 := by omega
      rcases hj with rfl | rfl | rfl
      · simp
        exact ⟨.del w, rfl, hw, trivial, by simp [Pl.adds], c3, rfl, e5⟩
      · simp
        exact ⟨.con w, rfl, hw, trivial, by simp [Pl.adds], c3, rfl, e5⟩
      · simp
        exact ⟨.ren w f, rfl, ⟨hw, hf⟩, trivial, by simp [Pl.adds], c3, rfl, e5⟩
  · simp [h3]
    exact rest
theorem ends_ok (n : Nat) (us : List W) (p : Pl) (hu : us.length ≤ 30) (hus : ∀ u ∈ us, gW u) (hnd : us.Nodup) (hp : p.ok) (hq : p.noUse) (had : ∀ b ∈ p.adds, b ∉ us) (cs : List Cell) :
    FW (runF G cM cW (n + 1) i_lends [.lst (us.map .str), p.d] cs) fun d cs' => ∃ vs : List W, d = .lst (vs.map .str) ∧ vs.length ≤ us.length + 1 ∧ (∀ v ∈ vs, gW v) ∧ vs.Nodup ∧ (∀ v ∈ vs, v ∈ us ∨ v ∈ p.adds) ∧ cs' = cs := by
  rw [r_lends _ _ _ rfl, FW_end]
  have h1s : 1 ≤ sizeLine := lineN (by omega)
  have h3s : 3 ≤ sizeLine := lineN (by omega)
  simp [b_lends, b_lends_0, freeSlots, wipeS]
  obtain ⟨J, hJ⟩ : ∃ J : List D → List D → Prop, J = (fun rest acc => ∃ (ys zs : List W), rest = zs.map .str ∧ acc = ys.map .str ∧ (ys ++ zs).Sublist us) := ⟨_, rfl⟩
  refine lcL_inv (fun rest acc s => J rest acc ∧ s = ⟨[some (.lst (us.map .str)), some p.d, none, none], cs⟩) ?_ ?_ _ _ _ ⟨by rw [hJ]; exact ⟨[], us, rfl, rfl, List.Sublist.refl _⟩, rfl⟩
  · rintro d rest acc s ⟨hj, rfl⟩
    rw [hJ] at hj
    obtain ⟨ys, zs, e1, rfl, hsub⟩ := hj
    obtain ⟨z, zs, rfl⟩ : ∃ z zs', zs = z :: zs' := by
      cases zs with
      | nil => cases e1
      | cons z zs => exact ⟨z, zs, rfl⟩
    cases e1
    have hl := hsub.length_le
    simp at hl
    have k1 : ys.length < sizeLine := Nat.lt_of_lt_of_le (by omega) line
    have kept : J (zs.map .str) (ys.map D.str ++ [D.str z]) := by rw [hJ]; exact ⟨ys ++ [z], zs, rfl, by simp, by simpa using hsub⟩
    have out : J (zs.map .str) (ys.map D.str) := by rw [hJ]; exact ⟨ys, zs, rfl, rfl, (List.Sublist.append_left (List.sublist_cons_self z zs) ys).trans hsub⟩
    cases p with
    | use a => exact hq.elim
    | del a =>
      simp [Pl.d, h3s, wipeS]
      by_cases h : z = a
      · rw [if_pos h]; exact out
      · rw [if_neg h]; exact ⟨k1, kept⟩
    | con a =>
      simp [Pl.d, h3s, wipeS]
      by_cases h : z = a
      · rw [if_pos h]; exact out
      · rw [if_neg h]; exact ⟨k1, kept⟩
    | ren a b =>
      simp [Pl.d, h3s, wipeS]
      by_cases h : z = a
      · rw [if_pos h]; exact out
      · rw [if_neg h]; exact ⟨k1, kept⟩
    | _ =>
      simp [Pl.d, h3s, wipeS, grp]
      exact ⟨k1, kept⟩
  · rintro acc s ⟨hj, rfl⟩
    rw [hJ] at hj
    obtain ⟨ys, zs, e1, rfl, hsub⟩ := hj
    have hsub : ys.Sublist us := (List.sublist_append_left ys zs).trans hsub
    have hl := hsub.length_le
    have h1 : ∀ y ∈ ys, gW y := fun y hy => hus y (hsub.subset hy)
    have srt : ∀ (vs : List W) (s : S) (Q : D → S → Prop), vs.length < 64 → MW (sortedD [.lst (vs.map .str)]) s Q = Q (.lst ((sortS vs).map .str)) s := fun vs s Q h => MW_sortS h
    have srt0 := fun s Q => srt ys s Q (by omega)
    obtain ⟨P, hP⟩ : ∃ P : D → Prop, P = (fun d => ∃ vs : List W, d = .lst (vs.map .str) ∧ vs.length ≤ us.length + 1 ∧ (∀ v ∈ vs, gW v) ∧ vs.Nodup ∧ ∀ v ∈ vs, v ∈ us ∨ v ∈ p.adds) := ⟨_, rfl⟩
    have fin : ∀ vs : List W, vs.length ≤ ys.length + 1 → (∀ v ∈ vs, gW v) → vs.Nodup → (∀ v ∈ vs, v ∈ us ∨ v ∈ p.adds) → P (.lst ((sortS vs).map .str)) := fun vs h k nd sb => by
      rw [hP]
      exact ⟨sortS vs, rfl, by rw [(sortS_perm vs).length_eq]; omega, fun v hv => k v ((sortS_perm vs).mem_iff.mp hv), (sortS_perm vs).nodup_iff.mpr nd, fun v hv => sb v ((sortS_perm vs).mem_iff.mp hv)⟩
    have add : ∀ b, gW b → b ∈ p.adds → P (.lst ((sortS (ys ++ [b])).map .str)) := fun b hb hba => by
      refine fin (ys ++ [b]) (by simp) (fun v hv => ?_) ?_ (fun v hv => ?_)
      · rcases List.mem_append.mp hv with q | q
        · exact h1 v q
        · rw [List.mem_singleton.mp q]; exact hb
      · rw [List.nodup_append]
        refine ⟨hnd.sublist hsub, by simp, fun x hx y hy => ?_⟩
        rw [List.mem_singleton.mp hy]
        exact fun e => had b hba (hsub.subset (by rw [← e]; exact hx))
      · rcases List.mem_append.mp hv with q | q
        · exact .inl (hsub.subset q)
        · rw [List.mem_singleton.mp q]; exact .inr hba
    have goal : ∀ d, P d → ∃ vs : List W, d = .lst (vs.map .str) ∧ vs.length ≤ us.length + 1 ∧ (∀ v ∈ vs, gW v) ∧ vs.Nodup ∧ (∀ v ∈ vs, v ∈ us ∨ v ∈ p.adds) ∧ cs = cs := fun d h => by
      rw [hP] at h
      obtain ⟨vs, a1, a2, a3, a4, a5⟩ := h
      exact ⟨vs, a1, a2, a3, a4, a5, rfl⟩
    have plain : P (.lst ((sortS ys).map .str)) := fin ys (by omega) h1 (hnd.sublist hsub) fun v hv => .inl (hsub.subset hv)
    have run : SW (b_lends_1 (runF G cM cW n)) ⟨[some (.lst (us.map .str)), some p.d, some (.own (ys.map .str)), none], cs⟩ (fun s => SW (b_lends_2 (runF G cM cW n)) s (fun _ => False) fun d s => P d ∧ s.cs = cs) fun d s => P d ∧ s.cs = cs := by
      cases p with
      | use a => exact hq.elim
      | ren a b =>
        have srt1 := fun s Q => srt (ys ++ [b]) s Q (by simp; omega)
        simp at srt1
        simp [b_lends_1, b_lends_1a_0, b_lends_2, Pl.d, h3s, h1s, srt1]
        exact ⟨lineN (by omega), by simpa using add b hp.2 (by simp [Pl.adds])⟩
      | ext a g =>
        have srt1 := fun s Q => srt (ys ++ [a]) s Q (by simp; omega)
        simp at srt1
        simp [b_lends_1, b_lends_1a_0, b_lends_2, Pl.d, h3s, h1s, srt1, grp]
        exact ⟨lineN (by omega), by simpa using add a hp.1 (by simp [Pl.adds])⟩
      | top a =>
        have srt1 := fun s Q => srt (ys ++ [a]) s Q (by simp; omega)
        simp at srt1
        simp [b_lends_1, b_lends_1a_0, b_lends_2, Pl.d, h3s, h1s, srt1]
        exact ⟨lineN (by omega), by simpa using add a hp (by simp [Pl.adds])⟩
      | _ =>
        simp [b_lends_1, b_lends_2, Pl.d, h3s, srt0, grp]
        exact plain
    simp only [backS, List.foldr_cons, List.foldr_nil, List.set_cons_succ, List.set_cons_zero, List.getD_cons_succ, List.getD_cons_zero]
    refine run.imp (fun s h => h.imp (fun _ z => z.elim) fun d s h => ?_) fun d s h => ?_
    · obtain ⟨vs, a1, a2, a3, a4, a5, _⟩ := goal d h.1
      exact ⟨vs, a1, a2, a3, a4, a5, h.2⟩
    · obtain ⟨vs, a1, a2, a3, a4, a5, _⟩ := goal d h.1
      exact ⟨vs, a1, a2, a3, a4, a5, h.2⟩
end Law

set_option maxHeartbeats 1000000
namespace Law
open PySem PySem.Spec PyProof.Rows U
/-- the bag in front, then the rest as it was, then new cells -/
def Bg (r cs : List Cell) : Prop := ∃ c g, cs = c :: (r ++ g) ∧ BagOk c
def wl (a : List St) : Nat := ((wsS a).map fun x => x.length + 1).sum
theorem wl_app (a b : List St) : wl (a ++ b) = wl a + wl b := by
  unfold wl; rw [wsS_map, wsS_map, wsS_map]; simp
theorem wl_cons (s : St) (b : List St) : wl (s :: b) = s.ws.length + 1 + wl b := by
  unfold wl; rw [wsS_map, wsS_map]; simp
theorem wl_nil : wl [] = 0 := rfl
theorem glue_wl (a : List St) : (glue (wsS a)).length ≤ wl a := by
  unfold wl
  generalize wsS a = xs
  cases xs with
  | nil => simp [glue]
  | cons x r =>
    have : ∀ r : List (List W), (r.map fun y => wSEMI :: y).flatten.length = (r.map fun x => x.length + 1).sum := fun r => by
      induction r with
      | nil => rfl
      | cons y r ih => simp only [List.map_cons, List.flatten_cons, List.length_append, List.length_cons, List.sum_cons, ih]
    simp only [glue, List.length_append, this, List.map_cons, List.sum_cons]
    omega
theorem fl_len : ∀ l : List (List W), (∀ h ∈ l, grOk h) → (l.map fun h => wCOM :: h).flatten.length ≤ 4 * l.length := fun l => by
  induction l with
  | nil => simp
  | cons x r ih =>
    intro hh
    have h1 := (hh x List.mem_cons_self).1
    have h2 := ih fun h hr => hh h (List.mem_cons_of_mem _ hr)
    simp only [List.map_cons, List.flatten_cons, List.length_append, List.length_cons]
    omega
theorem Pl.len {p : Pl} (h : p.ok) : p.ws.length ≤ 16 := by
  cases p with
  | uni g gs =>
    have h1 := fl_len gs h.2.2
    have h2 := h.2.1
    have h3 := h.1.1
    simp only [Pl.ws, List.length_cons, List.length_append]
    omega
  | ext a g => have := h.2.1; simp [Pl.ws]; omega
  | tru g => have := h.1; simp [Pl.ws]; omega
  | _ => simp [Pl.ws]
theorem Te.len {t : Te} (h : t.ok) : t.ws.length ≤ 5 := by
  cases t with
  | whole => simp [Te.ws]
  | spans g a => have := h.1.1; simp [Te.ws]; omega
  | rank g a => have := h.1.1; simp [Te.ws]; omega
/-- good steps: of what depth, how many words -/
def Gd (a : List St) (k n : Nat) : Prop := okSs a ∧ depS a ≤ k ∧ wl a ≤ n ∧ a.length ≤ n
theorem depS_app : ∀ a b : List St, depS (a ++ b) = max (depS a) (depS b)
  | [], b => by simp [depS]
  | s :: r, b => by
    show max s.dep (depS (r ++ b)) = max (max s.dep (depS r)) (depS b)
    rw [depS_app r b]; omega
theorem Gd.nil {k n : Nat} : Gd [] k n := ⟨trivial, by simp [depS], by rw [wl_nil]; omega, by simp⟩
theorem Gd.app {a b : List St} {k n m : Nat} (h : Gd a k n) (h' : Gd b k m) : Gd (a ++ b) k (n + m) :=
  ⟨okSs_app h.1 h'.1, by rw [depS_app]; have := h.2.1; have := h'.2.1; omega, by rw [wl_app]; have := h.2.2.1; have := h'.2.2.1; omega, by rw [List.length_append]; have := h.2.2.2; have := h'.2.2.2; omega⟩
theorem Gd.mono {a : List St} {k n k' n' : Nat} (h : Gd a k n) (hk : k ≤ k') (hn : n ≤ n') : Gd a k' n' := ⟨h.1, Nat.le_trans h.2.1 hk, Nat.le_trans h.2.2.1 hn, Nat.le_trans h.2.2.2 hn⟩
theorem Gd.pl {p : Pl} (h : p.ok) : Gd [.pl p] 0 17 := ⟨⟨by simpa [St.ok] using h, trivial⟩, by simp [depS, St.dep], by rw [wl_cons, wl_nil]; have := Pl.len h; simp [St.ws]; omega, by simp⟩
theorem Gd.iff {t : Te} {a b : List St} {k n m : Nat} (h : t.ok) (ha : Gd a k n) (hb : Gd b k m) : Gd [.iff t a b] (k + 1) (n + m + 12) := by
  have h1 := Te.len h
  have h2 := glue_wl a
  have h3 := glue_wl b
  have h4 := ha.2.2.1
  have h5 := hb.2.2.1
  have h6 := ha.2.1
  have h7 := hb.2.1
  refine ⟨⟨by unfold St.ok; exact ⟨h, ha.1, hb.1⟩, trivial⟩, by simp [depS, St.dep]; omega, by rw [wl_cons, wl_nil]; simp [St.ws]; omega, by simp⟩
theorem Gd.rep {j : Nat} {a : List St} {k n : Nat} (h : 1 ≤ j ∧ j ≤ 4) (ha : Gd a k n) : Gd [.rep j a] (k + 1) (n + 5) := by
  have h2 := glue_wl a
  have h4 := ha.2.2.1
  have h6 := ha.2.1
  refine ⟨⟨by unfold St.ok; exact ⟨h, ha.1⟩, trivial⟩, by simp [depS, St.dep]; omega, by rw [wl_cons, wl_nil]; simp [St.ws]; omega, by simp⟩
theorem dsS_app (a b : List St) : dsS (a ++ b) = dsS a ++ dsS b := by rw [dsS_map, dsS_map, dsS_map, List.map_append]
theorem dsS_len (a : List St) : (dsS a).length = a.length := by rw [dsS_map, List.length_map]
theorem Pl.own (p : Pl) : isOwn p.d = false ∧ frzD p.d = p.d := by cases p <;> exact ⟨rfl, rfl⟩
theorem Te.own (t : Te) : isOwn t.d = false ∧ frzD t.d = t.d := by cases t <;> exact ⟨rfl, rfl⟩
theorem plain_11 {calls : Calls} {a0 a1 a2 a4 a5 a6 : Option D} {lk : Int} {p : Pl} {cs : List Cell} {N : S → Prop} {R : D → S → Prop} (h : ∀ lk' : Int, N ⟨[a0, a1, a2, some (.int lk'), a4, a5, a6, some p.d], cs⟩) :
    SW (b_lplain_1_1 calls) ⟨[a0, a1, a2, some (.int lk), a4, a5, a6, some p.d], cs⟩ N R := by
  have h2s : 2 ≤ sizeLine := lineN (by omega)
  cases p <;> simp [b_lplain_1_1, Pl.d, grp, h2s] <;> simpa [Pl.d, grp] using h _
def PlainP (us fs : List W) (r : List Cell) (d : D) (cs : List Cell) : Prop := ∃ (a : List St) (vs : List W) (lk' : Int), d = .tup [.tup (dsS a), .lst (vs.map .str), .int lk'] ∧ Gd a 0 51 ∧ vs.length ≤ us.length + fs.length ∧ (∀ v ∈ vs, gW v) ∧ vs.Nodup ∧ (∀ v ∈ vs, v ∈ us ∨ v ∈ fs) ∧ Bg r cs
theorem plain_ok (n : Nat) (us fs : List W) (lk : Int) (hu : us.length ≤ 7) (hus : ∀ u ∈ us, gW u) (hf : fs.length ≤ 3) (hfs : ∀ u ∈ fs, gW u) (hnd : (us ++ fs).Nodup) (c : Cell) (r : List Cell) (hb : BagOk c) :
    FW (runF G cM cW (n + 4) i_lplain [.ob 0, .lst (us.map .str), .lst (fs.map .str), .int lk] (c :: r)) (PlainP us fs r) := by
  rw [r_lplain _ _ _ rfl, FW_end]
  have h3s : 3 ≤ sizeLine := lineN (by omega)
  have srt := fun (s : S) (Q : D → S → Prop) => MW_sortS (s := s) (Q := Q) (ys := us) (by omega)
  simp [b_lplain, b_lplain_0, b_lplain_1, srt]
  obtain ⟨I, hI⟩ : ∃ I : List D → S → Prop, I = (fun rest s => ∃ (a : List St) (vs zs : List W) (lk' : Int) (o6 o7 : Option D) (c' : Cell), rest = zs.map .str ∧ a.length + zs.length = fs.length ∧ Gd a 0 (17 * a.length) ∧ (∀ z ∈ zs, gW z) ∧ vs.length ≤ us.length + a.length ∧ (∀ v ∈ vs, gW v) ∧ (vs ++ zs).Nodup ∧ (∀ v ∈ vs, v ∈ us ∨ v ∈ fs) ∧ (∀ z ∈ zs, z ∈ fs) ∧ s = ⟨[some (.ob 0), some (.lst (us.map .str)), some (.lst (fs.map .str)), some (.int lk'), some (.ob (r.length + 1)), some (.lst (vs.map .str)), o6, o7], c' :: (r ++ [.L (dsS a)])⟩ ∧ BagOk c') := ⟨_, rfl⟩
  refine SW_for I ?_ ?_ _ _ (by rw [hI]; exact ⟨[], sortS us, fs, lk, none, none, c, rfl, by simp, Gd.nil, hfs, by rw [(sortS_perm us).length_eq]; omega, fun v hv => hus v ((sortS_perm us).mem_iff.mp hv), (((sortS_perm us).append_right fs).nodup_iff).mpr hnd, fun v hv => .inl ((sortS_perm us).mem_iff.mp hv), fun z hz => hz, rfl, hb⟩)
  · intro d rest s h
    rw [hI] at h
    obtain ⟨a, vs, zs, lk', o6, o7, c', e1, hl, ha, hzs, hv, hvs, hn, hsub, hzf, rfl, hb⟩ := h
    obtain ⟨z, zs, rfl⟩ : ∃ z zs', zs = z :: zs' := by
      cases zs with
      | nil => cases e1
      | cons z zs => exact ⟨z, zs, rfl⟩
    cases e1
    simp at hl
    simp [b_lplain_1_0, MW_call, s_lstep, permL]
    have hvn : vs.Nodup := (List.nodup_append.mp hn).1
    have hzn : zs.Nodup := (List.nodup_cons.mp (List.nodup_append.mp hn).2.1).2
    have hdis : ∀ v ∈ vs, ∀ y ∈ z :: zs, v ≠ y := (List.nodup_append.mp hn).2.2
    have hzz : z ∉ zs := (List.nodup_cons.mp (List.nodup_append.mp hn).2.1).1
    refine (lstep_ok1 n vs z lk' (by omega) hvs hvn (hzs z List.mem_cons_self) c' _ hb).imp fun d cs ⟨p, e1, hp, hq, had, c2, e4, e5⟩ => ?_
    subst e1; subst e4
    refine plain_11 fun lk2 => ?_
    have ends := fun cs => ends_ok (n + 2) vs p (by omega) hvs hvn hp hq (fun b hb hbv => hdis b hbv z List.mem_cons_self (had b hb)) cs
    simp [b_lplain_1_2, MW_call, s_lends, permL, p.own]
    refine (ends _).imp fun d cs ⟨ws, e1, q1, q2, q3, q4, e4⟩ => ?_
    subst e1; subst e4
    simp [b_lplain_1_3, p.own]
    refine ⟨Nat.lt_of_lt_of_le (by rw [dsS_len]; omega) line, ?_⟩
    rw [hI]
    refine ⟨a ++ [.pl p], ws, zs, lk2, some (.str z), some p.d, c2, rfl, by simp; omega, ?_, fun y hy => hzs y (List.mem_cons_of_mem _ hy), by simp; omega, q2, ?_, ?_, fun y hy => hzf y (List.mem_cons_of_mem _ hy), by simp [dsS_app, dsS, St.d], e5⟩
    · have := ha.app (Gd.pl hp)
      simp at this ⊢
      exact this.mono (by omega) (by omega)
    · rw [List.nodup_append]
      refine ⟨q3, hzn, fun x hx y hy => ?_⟩
      rcases q4 x hx with k | k
      · exact hdis x k y (List.mem_cons_of_mem _ hy)
      · rw [had x k]
        exact fun e => hzz (by rw [e]; exact hy)
    · intro v hv
      rcases q4 v hv with k | k
      · exact hsub v k
      · rw [had v k]; exact .inr (hzf z List.mem_cons_self)
  · intro s h
    rw [hI] at h
    obtain ⟨a, vs, zs, lk', o6, o7, c', e1, hl, ha, hzs, hv, hvs, hn, hsub, hzf, rfl, hb⟩ := h
    cases zs with
    | cons _ _ => cases e1
    | nil =>
      simp at hl
      simp [b_lplain_2, h3s]
      exact ⟨a, vs, lk', rfl, ha.mono (by omega) (by omega), by omega, hvs, by simpa using hn, hsub, c', [.L (dsS a)], rfl, hb⟩
end Law

set_option maxHeartbeats 1000000
namespace Law
open PySem PySem.Spec PyProof.Rows U
def TestP (r : List Cell) (d : D) (cs : List Cell) : Prop := ∃ t : Te, d = t.d ∧ t.ok ∧ Bk r cs
theorem ltest_ok (n : Nat) (us : List W) (lk : Int) (hu : us.length ≤ 10) (hus : ∀ u ∈ us, gW u) (hnd : us.Nodup) (c : Cell) (r : List Cell) (hb : BagOk c) :
    FW (runF G cM cW (n + 3) i_ltest [.ob 0, .lst (us.map .str), .int lk] (c :: r)) (TestP r) := by
  rw [r_ltest _ _ _ rfl, FW_end]
  have h1s : 1 ≤ sizeLine := lineN (by omega)
  have h3s : 3 ≤ sizeLine := lineN (by omega)
  have ne := fun (s : S) (Q : D → S → Prop) => MW_ne0 (s := s) (Q := Q) hus
  simp [b_ltest, b_ltest_0, MW_call, s_lpull, s_lgroup, permL]
  refine (pull_ok (n + 1) 4 c r hb (by omega) (by omega)).imp fun d cs ⟨k, c1, e1, e2, e3, e4, e5⟩ => ?_
  subst e1; subst e4
  refine (group_ok n us c1 r e5 (by omega) hnd).imp fun d cs ⟨g, c2, e1, g1, g2, g3, e4, e5⟩ => ?_
  subst e1; subst e4
  have hg : grOk g := ⟨g1, fun w hw => hus w (g2 w hw), g3⟩
  have rank : ∀ (s : S) , s.cs = c2 :: r → FW (runF G cM cW (n + 2) i_lpull [D.ob 0, D.int 4] s.cs) fun d cs => TestP r (.tup [.str wRANK, grp g, d]) cs := fun s hs => by
    rw [hs]
    refine (pull_ok (n + 1) 4 c2 r e5 (by omega) (by omega)).imp fun d cs ⟨j, c3, e1, e2, e3, e4, e5⟩ => ?_
    subst e1; subst e4
    obtain ⟨i, rfl⟩ := Int.eq_ofNat_of_zero_le e2
    exact ⟨.rank g i, rfl, ⟨hg, by omega⟩, c3, rfl, e5⟩
  have rank' := rank ⟨[], c2 :: r⟩ rfl
  by_cases h0 : k = 0 ∧ 0 < lk
  · simp [b_ltest_1, b_ltest_1a_0, h0.1, h0.2, h1s]
    exact ⟨.whole, rfl, trivial, c2, rfl, e5⟩
  · have two : SW (b_ltest_2 (runF G cM cW (n + 2))) ⟨[some (.ob 0), some (.lst (us.map .str)), some (.int lk), some (.int k), some (.tup (g.map .str))], c2 :: r⟩ (fun s => TestP r .non s.cs) fun d s => TestP r d s.cs := by
      by_cases h1 : k = 1
      · simp [b_ltest_2, h1, ne, MW_call, s_lany, s_lpull, permL]
        by_cases h2 : us = []
        · rw [if_pos h2]
          refine rank'.imp fun d cs h => ⟨h3s, h⟩
        · rw [if_neg h2]
          refine (anyL_ok n (us.map .str) c2 r e5 (by simpa using h2) (by simp; omega)).imp fun d cs ⟨c3, hd, e4, e5⟩ => ?_
          subst e4
          obtain ⟨w, hw, rfl⟩ := List.mem_map.mp hd
          exact ⟨h3s, .spans g w, rfl, ⟨hg, hus w hw⟩, c3, rfl, e5⟩
      · simp [b_ltest_2, h1, MW_call, s_lany, s_lpull, permL]
        exact rank'.imp fun d cs h => ⟨h3s, h⟩
    simp [b_ltest_1]
    by_cases h2 : k = 0
    · rw [if_pos h2, if_neg (fun h => h0 ⟨h2, h⟩)]
      exact two
    · rw [if_neg h2]
      exact two
def StillP (r : List Cell) (d : D) (cs : List Cell) : Prop := ∃ (a : List St) (lk' : Int), d = .tup [.tup (dsS a), .int lk'] ∧ Gd a 0 34 ∧ Bg r cs
theorem still_ok (n : Nat) (us : List W) (lk : Int) (hu : us.length ≤ 10) (hus : ∀ u ∈ us, gW u) (hnd : us.Nodup) (c : Cell) (r : List Cell) (hb : BagOk c) :
    FW (runF G cM cW (n + 3) i_lstill [.ob 0, .lst (us.map .str), .int lk] (c :: r)) (StillP r) := by
  rw [r_lstill _ _ _ rfl, FW_end]
  have h1s : 1 ≤ sizeLine := lineN (by omega)
  have h2s : 2 ≤ sizeLine := lineN (by omega)
  simp [b_lstill, b_lstill_0, b_lstill_1, MW_call, s_lpull, permL]
  refine (pull_ok (n + 1) 3 c _ hb (by omega) (by omega)).imp fun d cs ⟨m, c1, e1, e2, e3, e4, e5⟩ => ?_
  subst e1; subst e4
  obtain ⟨m, rfl⟩ := Int.eq_ofNat_of_zero_le e2
  simp [in62]
  refine ⟨by omega, ?_⟩
  obtain ⟨I, hI⟩ : ∃ I : List D → S → Prop, I = (fun rest s => ∃ (a : List St) (lk' : Int) (o4 o5 o6 o7 : Option D) (c' : Cell), a.length + rest.length ≤ 2 ∧ Gd a 0 (17 * a.length) ∧ s = ⟨[some (.ob 0), some (.lst (us.map .str)), some (.int lk'), some (.ob (r.length + 1)), o4, o5, o6, o7], c' :: (r ++ [.L (dsS a)])⟩ ∧ BagOk c') := ⟨_, rfl⟩
  refine SW_for I ?_ ?_ _ _ (by rw [hI]; exact ⟨[], lk, none, none, none, none, c1, by simp [rangeL]; omega, Gd.nil, rfl, e5⟩)
  · intro d rest s h
    rw [hI] at h
    obtain ⟨a, lk', o4, o5, o6, o7, c', hl, ha, rfl, hb⟩ := h
    simp at hl
    simp [b_lstill_1_0, MW_call, s_lpull, s_lgroup, permL]
    refine (pull_ok (n + 1) 3 c' _ hb (by omega) (by omega)).imp fun d cs ⟨k, c2, e1, e2, e3, e4, e5⟩ => ?_
    subst e1; subst e4
    refine (group_ok n us c2 _ e5 (by omega) hnd).imp fun d cs ⟨g, c3, e1, g1, g2, g3, e4, e5⟩ => ?_
    subst e1; subst e4
    have hg : grOk g := ⟨g1, fun w hw => hus w (g2 w hw), g3⟩
    -- what is put in
    have put : ∀ (p : Pl) (lk' : Int) (o4 o5 o6 : Option D) (c4 : Cell), p.ok → BagOk c4 → SW (b_lstill_1_3 (runF G cM cW (n + 2))) ⟨[some (.ob 0), some (.lst (us.map .str)), some (.int lk'), some (.ob (r.length + 1)), o4, o5, o6, some p.d], c4 :: (r ++ [.L (dsS a)])⟩ (fun s => I rest s) fun d s => StillP r d s.cs := fun p lk' o4 o5 o6 c4 hp hb => by
      simp [b_lstill_1_3, p.own]
      refine ⟨Nat.lt_of_lt_of_le (by rw [dsS_len]; omega) line, ?_⟩
      rw [hI]
      refine ⟨a ++ [.pl p], lk', o4, o5, o6, some p.d, c4, by simp; omega, ?_, by simp [dsS_app, dsS, St.d], hb⟩
      have := ha.app (Gd.pl hp)
      simp at this ⊢
      exact this.mono (by omega) (by omega)
    have two : ∀ (p : Pl) (c4 : Cell), p.ok → BagOk c4 → SW (b_lstill_1_2 (runF G cM cW (n + 2))) ⟨[some (.ob 0), some (.lst (us.map .str)), some (.int lk'), some (.ob (r.length + 1)), some d, some (.int k), some (.tup (g.map .str)), some p.d], c4 :: (r ++ [.L (dsS a)])⟩ (fun s => SW (b_lstill_1_3 (runF G cM cW (n + 2))) s (fun s => I rest s) fun d s => StillP r d s.cs) fun d s => StillP r d s.cs := fun p c4 hp hb => by
      simp [b_lstill_1_2]
      by_cases h2 : k = 2
      · rw [if_pos h2]
        by_cases h3 : 0 < lk'
        · rw [if_pos h3]
          simp [b_lstill_1_2a_0, h1s]
          exact put .cut _ _ _ _ c4 trivial hb
        · rw [if_neg h3]
          exact put p _ _ _ _ c4 hp hb
      · rw [if_neg h2]
        exact put p _ _ _ _ c4 hp hb
    simp [b_lstill_1_1, MW_call, s_lbases, permL]
    by_cases h0 : k = 0
    · rw [if_pos h0]
      exact ⟨h2s, two (.tru g) c3 hg e5⟩
    · rw [if_neg h0]
      refine (bases_ok n g hg c3 _ e5).imp fun d cs ⟨b, bs, c4, e1, q1, q2, q3, e4, e5⟩ => ?_
      subst e1; subst e4
      exact ⟨h2s, two (.uni b bs) c4 ⟨q1, q2, q3⟩ e5⟩
  · intro s h
    rw [hI] at h
    obtain ⟨a, lk', o4, o5, o6, o7, c', hl, ha, rfl, hb⟩ := h
    simp at hl
    simp [b_lstill_2, h2s]
    exact ⟨a, lk', rfl, ha.mono (by omega) (by omega), c', [.L (dsS a)], rfl, hb⟩
end Law

set_option maxHeartbeats 1000000
namespace Law
open PySem PySem.Spec PyProof.Rows U
theorem Bg.of {r g cs : List Cell} (h : Bg (r ++ g) cs) : Bg r cs := by
  obtain ⟨c, g', rfl, hb⟩ := h
  exact ⟨c, g ++ g', by simp, hb⟩
theorem Bk.bg {r cs : List Cell} (h : Bk r cs) : Bg r cs := by
  obtain ⟨c, rfl, hb⟩ := h
  exact ⟨c, [], by simp, hb⟩
theorem Te.okD {t : Te} (h : t.ok) : okD t.d = true ∧ depD t.d ≤ 64 := by
  cases t with
  | whole => exact ⟨by decide, by decide⟩
  | spans g a =>
    have h1 : okL (g.map .str) = true := okL_strs (gWs_ok h.1.2.1)
    exact ⟨by simp [Te.d, grp, U.okD, okL, h1, h.2.ok]; decide, by simp [Te.d, grp, depD, depL, depL_strs]⟩
  | rank g a =>
    have h1 : okL (g.map .str) = true := okL_strs (gWs_ok h.1.2.1)
    exact ⟨by simp [Te.d, grp, U.okD, okL, h1]; decide, by simp [Te.d, grp, depD, depL, depL_strs]⟩
def BodyP (r : List Cell) (d : D) (cs : List Cell) : Prop := ∃ (a : List St) (vs : List W), d = .tup [.tup (dsS a), .lst (vs.map .str)] ∧ Gd a 1 221 ∧ vs.length ≤ 10 ∧ (∀ v ∈ vs, gW v) ∧ vs.Nodup ∧ Bg r cs
theorem body_ok (n : Nat) (us fs : List W) (lk : Int) (hu : us.length ≤ 3) (hus : ∀ u ∈ us, gW u) (hf : fs.length ≤ 3) (hfs : ∀ u ∈ fs, gW u) (hnd : (us ++ fs).Nodup) (c : Cell) (r : List Cell) (hb : BagOk c) :
    FW (runF G cM cW (n + 5) i_lbody [.ob 0, .lst (us.map .str), .lst (fs.map .str), .int lk] (c :: r)) (BodyP r) := by
  rw [r_lbody _ _ _ rfl, FW_end]
  have h1s : 1 ≤ sizeLine := lineN (by omega)
  have h2s : 2 ≤ sizeLine := lineN (by omega)
  have h3s : 3 ≤ sizeLine := lineN (by omega)
  have h4s : 4 ≤ sizeLine := lineN (by omega)
  simp [b_lbody, b_lbody_0, MW_call, s_lpull, permL]
  refine (pull_ok (n + 3) (fs.length + 1) c r hb (by omega) (by omega)).imp fun d cs ⟨k, c1, e1, e2, e3, e4, e5⟩ => ?_
  subst e1; subst e4
  obtain ⟨k, rfl⟩ := Int.eq_ofNat_of_zero_le e2
  have cl : U.cutD (fs.map D.str) none (some (k : Int)) = (fs.take k).map .str := by rw [cutD_lo, List.map_take]
  have ch : U.cutD (fs.map D.str) (some (k : Int)) none = (fs.drop k).map .str := by rw [cutD_hi, List.map_drop]
  simp [b_lbody_1, MW_call, s_lplain, permL, cl]
  rw [← List.map_take]
  refine (plain_ok n us (fs.take k) lk (by omega) hus (by simp; omega) (fun u hu => hfs u (List.mem_of_mem_take hu)) (hnd.sublist (List.Sublist.append_left (List.take_sublist k fs) us)) c1 r e5).imp fun d cs ⟨a, vs, lk1, e1, ha, hv, hvs, hvn, hvsub, c2, g, e4, e5⟩ => ?_
  subst e1; subst e4
  have hnd2 : (vs ++ fs.drop k).Nodup := by
    have h1 := List.nodup_append.mp hnd
    rw [List.nodup_append]
    refine ⟨hvn, h1.2.1.sublist (List.drop_sublist k fs), fun x hx y hy => ?_⟩
    rcases hvsub x hx with q | q
    · exact h1.2.2 x q y (List.mem_of_mem_drop hy)
    · have h2 : (fs.take k ++ fs.drop k).Nodup := by rw [List.take_append_drop]; exact h1.2.1
      exact (List.nodup_append.mp h2).2.2 x q y hy
  have hv2 : vs.length ≤ 6 := by simp at hv; omega
  simp
  -- the end
  have last : ∀ (a : List St) (lk : Int) (o7 o8 o9 : Option D) (g : List Cell) (c : Cell), Gd a 1 170 → BagOk c → SW (b_lbody_4 (runF G cM cW (n + 4))) ⟨[some (.ob 0), some (.lst (us.map .str)), some (.lst (fs.map .str)), some (.int lk), some (.int k), some (.tup (dsS a)), some (.lst (vs.map .str)), o7, o8, o9, none], c :: (r ++ g)⟩ (fun s => SW (b_lbody_5 (runF G cM cW (n + 4))) s (fun s => BodyP r .non s.cs) fun d s => BodyP r d s.cs) fun d s => BodyP r d s.cs := fun a lk o7 o8 o9 g c ha hb => by
    simp [b_lbody_4, MW_call, s_lplain, permL, ch]
    rw [← List.map_drop]
    refine (plain_ok n vs (fs.drop k) lk (by omega) hvs (by simp; omega) (fun u hu => hfs u (List.mem_of_mem_drop hu)) hnd2 c (r ++ g) hb).imp fun d cs ⟨b, ws, lk2, e1, hb2, hw, hws, hwn, _, c3, g2, e4, e5⟩ => ?_
    subst e1; subst e4
    have hla := ha.2.2.2
    have hlb := hb2.2.2.2
    simp [b_lbody_5, h2s]
    refine ⟨lineN (by rw [dsS_len, dsS_len]; omega), a ++ b, ws, by rw [dsS_app], (ha.app (hb2.mono (by omega) (Nat.le_refl _))).mono (Nat.le_refl _) (by omega), by simp at hw; omega, hws, hwn, c3, g ++ g2, by simp, e5⟩
  -- the repeat
  have three : ∀ (a : List St) (lk : Int) (o7 o8 o9 : Option D) (g : List Cell) (c : Cell), Gd a 1 131 → BagOk c → SW (b_lbody_3 (runF G cM cW (n + 4))) ⟨[some (.ob 0), some (.lst (us.map .str)), some (.lst (fs.map .str)), some (.int lk), some (.int k), some (.tup (dsS a)), some (.lst (vs.map .str)), o7, o8, o9, none], c :: (r ++ g)⟩ (fun s => SW (b_lbody_4 (runF G cM cW (n + 4))) s (fun s => SW (b_lbody_5 (runF G cM cW (n + 4))) s (fun s => BodyP r .non s.cs) fun d s => BodyP r d s.cs) fun d s => BodyP r d s.cs) fun d s => BodyP r d s.cs := fun a lk o7 o8 o9 g c ha hb => by
    simp [b_lbody_3, MW_call, s_lpull, permL]
    refine (pull_ok (n + 3) 4 c (r ++ g) hb (by omega) (by omega)).imp fun d cs ⟨j, c2, e1, e2, e3, e4, e5⟩ => ?_
    subst e1; subst e4
    simp
    by_cases h0 : j = 0
    · rw [if_pos h0]
      simp [b_lbody_3a_0, MW_call, s_lpull, s_lstill, permL]
      refine (pull_ok (n + 3) 3 c2 (r ++ g) e5 (by omega) (by omega)).imp fun d cs ⟨i, c3, e1, e2, e3, e4, e5⟩ => ?_
      subst e1; subst e4
      obtain ⟨i, rfl⟩ := Int.eq_ofNat_of_zero_le e2
      refine (still_ok (n + 1) vs 0 (by omega) hvs hvn c3 (r ++ g) e5).imp fun d cs ⟨b, lk2, e1, hb2, c4, g2, e4, e5⟩ => ?_
      subst e1; subst e4
      have hla := ha.2.2.2
      simp [h3s, h1s]
      refine ⟨lineN (by rw [dsS_len]; omega), ?_⟩
      have e : dsS a ++ [D.tup [D.str wREP, D.int (1 + (i : Int)), D.tup (dsS b)]] = dsS (a ++ [.rep (1 + i) b]) := by
        rw [dsS_app]; simp [dsS, St.d]
      rw [e]
      have := ha.app ((Gd.rep (j := 1 + i) (by omega) hb2).mono (Nat.le_refl _) (Nat.le_refl 39))
      exact last _ lk _ _ _ (g ++ g2) c4 (this.mono (Nat.le_refl _) (by omega)) e5
    · rw [if_neg h0]
      exact last a lk _ _ _ g c2 (ha.mono (Nat.le_refl _) (by omega)) e5
  simp [b_lbody_2, MW_call, s_lpull, permL]
  refine (pull_ok (n + 3) 2 c2 (r ++ g) e5 (by omega) (by omega)).imp fun d cs ⟨j, c3, e1, e2, e3, e4, e5⟩ => ?_
  subst e1; subst e4
  simp
  by_cases h0 : j = 0
  · rw [if_pos h0]
    simp [b_lbody_2a_0, MW_call, s_ltest, permL]
    refine (ltest_ok (n + 1) vs lk1 (by omega) hvs hvn c3 (r ++ g) e5).imp fun d cs ⟨t, e1, ht, c4, e4, e5⟩ => ?_
    subst e1; subst e4
    have hto := Te.own t
    have hod := Te.okD ht
    have teq : ∀ (s : S) (Q : D → S → Prop), MW (cmpD .Eq t.d (.tup [.str wWHO])) s Q = Q (.bl (eqG t.d (.tup [.str wWHO]))) s := fun s Q => MW_eqG hod.1 (by decide) hod.2 (by decide)
    simp [b_lbody_2a_1, hto, h1s, teq]
    simp [b_lbody_2a_2, MW_call, s_lstill, permL]
    refine (still_ok (n + 1) vs _ (by omega) hvs hvn c4 (r ++ g) e5).imp fun d cs ⟨b, lk2, e1, hb2, c5, g2, e4, e5⟩ => ?_
    subst e1; subst e4
    simp [b_lbody_2a_3, MW_call, s_lstill, permL]
    refine (still_ok (n + 1) vs _ (by omega) hvs hvn c5 _ e5).imp fun d cs ⟨b', lk3, e1, hb3, c6, g3, e4, e5⟩ => ?_
    subst e1; subst e4
    have hla := ha.2.2.2
    simp [b_lbody_2a_4, hto, h4s, h1s]
    refine ⟨lineN (by rw [dsS_len]; omega), ?_⟩
    have e : dsS a ++ [D.tup [D.str wIF, t.d, D.tup (dsS b), D.tup (dsS b')]] = dsS (a ++ [.iff t b b']) := by
      rw [dsS_app]; simp [dsS, St.d]
    rw [e]
    have := (ha.mono (k' := 1) (by omega) (Nat.le_refl _)).app (Gd.iff ht hb2 hb3)
    exact three _ _ _ _ _ _ c6 (this.mono (Nat.le_refl _) (by omega)) e5
  · rw [if_neg h0]
    exact three a lk1 _ _ _ g c3 (ha.mono (by omega) (by omega)) e5
end Law

set_option maxHeartbeats 1000000
namespace Law
open PySem PySem.Spec PyProof.Rows U
def AllP (r : List Cell) (d : D) (cs : List Cell) : Prop := ∃ a : List St, d = .tup (dsS a) ∧ Gd a 2 500 ∧ Bg r cs
theorem all_steps_ok (n : Nat) (us fs : List W) (hu : us.length ≤ 3) (hus : ∀ u ∈ us, gW u) (hf : fs.length ≤ 3) (hfs : ∀ u ∈ fs, gW u) (hnd : (us ++ fs).Nodup) (c : Cell) (r : List Cell) (hb : BagOk c) :
    FW (runF G cM cW (n + 6) i_lall_steps [.ob 0, .lst (us.map .str), .lst (fs.map .str)] (c :: r)) (AllP r) := by
  rw [r_lall_steps _ _ _ rfl, FW_end]
  have hs : ∀ {k : Nat}, k ≤ 10 → k ≤ sizeLine := fun h => lineN (by omega)
  have h0s : 0 ≤ sizeLine := hs (by omega)
  have h1s : 1 ≤ sizeLine := hs (by omega)
  have h2s : 2 ≤ sizeLine := hs (by omega)
  have h3s : 3 ≤ sizeLine := hs (by omega)
  have h4s : 4 ≤ sizeLine := hs (by omega)
  simp [b_lall_steps, b_lall_steps_0, MW_call, s_lbody, permL]
  refine (body_ok n us fs 9 hu hus hf hfs hnd c r hb).imp fun d cs ⟨a, vs, e1, ha, hv, hvs, hvn, c1, g, e4, e5⟩ => ?_
  subst e1; subst e4
  simp [b_lall_steps_1, MW_call, s_lstill, permL]
  refine (still_ok (n + 2) vs 9 (by omega) hvs hvn c1 (r ++ g) e5).imp fun d cs ⟨b, lk2, e1, hbb, c2, g2, e4, e5⟩ => ?_
  subst e1; subst e4
  simp [b_lall_steps_2, MW_call, s_lpull, s_lany, permL, h1s, h2s, h3s]
  refine (pull_ok (n + 4) 4 c2 _ e5 (by omega) (by omega)).imp fun d cs ⟨k, c3, e1, e2, e3, e4, e5⟩ => ?_
  subst e1; subst e4
  obtain ⟨k, rfl⟩ := Int.eq_ofNat_of_zero_le e2
  refine (anyL_ok (n + 3) _ c3 _ e5 (by simp) (by simp)).imp fun d cs ⟨c4, hd, e4, e5⟩ => ?_
  subst e4
  have hw : ∃ w : W, d = .str w ∧ gP w := by
    simp only [List.mem_cons, List.mem_nil_iff, or_false] at hd
    rcases hd with rfl | rfl | rfl <;> exact ⟨_, rfl, ⟨by decide, by decide, by decide⟩⟩
  obtain ⟨w, rfl, hw⟩ := hw
  have hlb := hbb.2.2.2
  have hla := ha.2.2.2
  simp
  refine ⟨lineN (by rw [dsS_len]; omega), ?_⟩
  have e : D.tup [D.str wREP, D.int (1 + (k : Int)), D.tup (dsS b ++ [D.tup [D.str wUSE, D.str w]])] = (St.rep (1 + k) (b ++ [.pl (.use w)])).d := by
    simp [dsS_app, dsS, St.d, Pl.d]
  rw [e]
  have hin : Gd [St.rep (1 + k) (b ++ [.pl (.use w)])] 1 56 := (Gd.rep (by omega) (hbb.app (Gd.pl (p := .use w) hw))).mono (by omega) (by omega)
  generalize St.rep (1 + k) (b ++ [.pl (.use w)]) = q at hin
  -- the last part
  have four : ∀ (a' : List St) (g' : List Cell) (c : Cell), Gd a' 2 320 → BagOk c → SW (b_lall_steps_4 (runF G cM cW (n + 5))) ⟨[some (.ob 0), some (.lst (us.map .str)), some (.lst (fs.map .str)), some (.tup (dsS a')), some (.lst (vs.map .str)), some (.tup (dsS b)), some (.tup [q.d])], c :: (r ++ g')⟩ (fun s => AllP r .non s.cs) fun d s => AllP r d s.cs := fun a' g' c ha' hb => by
    simp [b_lall_steps_4, MW_call, s_lpull, s_ltest, permL]
    refine (pull_ok (n + 4) 2 c _ hb (by omega) (by omega)).imp fun d cs ⟨j, c2, e1, e2, e3, e4, e5⟩ => ?_
    subst e1; subst e4
    have hla := ha'.2.2.2
    simp
    by_cases h0 : j = 0
    · rw [if_pos h0]
      refine (ltest_ok (n + 2) vs 9 (by omega) hvs hvn c2 _ e5).imp fun d cs ⟨t, e1, ht, c3, e4, e5⟩ => ?_
      subst e1; subst e4
      simp [h1s, h4s]
      refine ⟨lineN (by rw [dsS_len]; omega), lineN (by rw [dsS_len]; omega), a' ++ [.iff t [] (q :: b)], by simp [dsS_app, dsS, St.d], ?_, c3, g', rfl, e5⟩
      have h1 : Gd (q :: b) 1 90 := by
        have := hin.app (hbb.mono (k' := 1) (by omega) (Nat.le_refl _))
        exact this.mono (Nat.le_refl _) (by omega)
      exact (ha'.app (Gd.iff ht (Gd.nil (n := 0)) h1)).mono (Nat.le_refl _) (by omega)
    · rw [if_neg h0]
      exact ⟨lineN (by rw [dsS_len]; omega), a', rfl, ha'.mono (Nat.le_refl _) (by omega), c2, g', rfl, e5⟩
  simp [b_lall_steps_3, MW_call, s_lpull, s_ltest, permL]
  refine (pull_ok (n + 4) 2 c4 _ e5 (by omega) (by omega)).imp fun d cs ⟨j, c5, e1, e2, e3, e4, e5⟩ => ?_
  subst e1; subst e4
  simp
  by_cases h0 : j = 0
  · rw [if_pos h0]
    refine (ltest_ok (n + 2) vs 9 (by omega) hvs hvn c5 _ e5).imp fun d cs ⟨t, e1, ht, c6, e4, e5⟩ => ?_
    subst e1; subst e4
    simp [h1s, h4s]
    refine ⟨lineN (by rw [dsS_len]; omega), ?_⟩
    have e : dsS a ++ [D.tup [D.str wIF, t.d, D.tup [q.d], D.tup []]] = dsS (a ++ [.iff t [q] []]) := by simp [dsS_app, dsS, St.d]
    have h1 := (ha.mono (k' := 2) (by omega) (Nat.le_refl _)).app (Gd.iff ht hin (Gd.nil (n := 0)))
    have := four _ (g ++ g2) c6 (h1.mono (Nat.le_refl _) (by omega)) e5
    rw [← e] at this
    simpa using this
  · rw [if_neg h0]
    have := four a (g ++ g2) c5 (ha.mono (by omega) (by omega)) e5
    have hz : dsS a ++ [] = dsS a := List.append_nil _
    exact ⟨lineN (by rw [dsS_len]; omega), by simpa using this⟩
end Law

set_option maxHeartbeats 1000000
namespace Law
open PySem PySem.Spec PyProof.Rows U
/-! the reader's object -/
def wF (ws : List W) (i k : Int) : List (Str × D) := [("words", .lst (ws.map .str)), ("spot_now", .int i), ("opened", .int k)]
abbrev wO (ws : List W) (i k : Int) : Cell := .O 0 (wF ws i k)
@[simp] theorem wF1 (ws : List W) (i k : Int) : (wF ws i k).lookup ("words" : Str) = some (.lst (ws.map .str)) := by simp [wF, List.lookup]
@[simp] theorem wF2 (ws : List W) (i k : Int) : (wF ws i k).lookup ("spot_now" : Str) = some (.int i) := by simp [wF, List.lookup]
@[simp] theorem wF3 (ws : List W) (i k : Int) : (wF ws i k).lookup ("opened" : Str) = some (.int k) := by simp [wF, List.lookup]
@[simp] theorem wF_here (ws : List W) (i k : Int) : (wF ws i k).lookup ("here" : Str) = none := by simp [wF, List.lookup, -List.lookup_eq_none_iff]
@[simp] theorem wF_take (ws : List W) (i k : Int) : (wF ws i k).lookup ("take" : Str) = none := by simp [wF, List.lookup, -List.lookup_eq_none_iff]
@[simp] theorem wF_take_name (ws : List W) (i k : Int) : (wF ws i k).lookup ("take_name" : Str) = none := by simp [wF, List.lookup, -List.lookup_eq_none_iff]
@[simp] theorem wF_take_group (ws : List W) (i k : Int) : (wF ws i k).lookup ("take_group" : Str) = none := by simp [wF, List.lookup, -List.lookup_eq_none_iff]
@[simp] theorem wF_take_number (ws : List W) (i k : Int) : (wF ws i k).lookup ("take_number" : Str) = none := by simp [wF, List.lookup, -List.lookup_eq_none_iff]
@[simp] theorem wF_take_groups (ws : List W) (i k : Int) : (wF ws i k).lookup ("take_groups" : Str) = none := by simp [wF, List.lookup, -List.lookup_eq_none_iff]
@[simp] theorem wF_take_block (ws : List W) (i k : Int) : (wF ws i k).lookup ("take_block" : Str) = none := by simp [wF, List.lookup, -List.lookup_eq_none_iff]
@[simp] theorem wF_take_steps (ws : List W) (i k : Int) : (wF ws i k).lookup ("take_steps" : Str) = none := by simp [wF, List.lookup, -List.lookup_eq_none_iff]
@[simp] theorem wF_take_test (ws : List W) (i k : Int) : (wF ws i k).lookup ("take_test" : Str) = none := by simp [wF, List.lookup, -List.lookup_eq_none_iff]
@[simp] theorem wF_take_step (ws : List W) (i k : Int) : (wF ws i k).lookup ("take_step" : Str) = none := by simp [wF, List.lookup, -List.lookup_eq_none_iff]
@[simp] theorem wF_len (ws : List W) (i k : Int) : (wF ws i k).length = 3 := rfl
@[simp] theorem wF_p2 (ws : List W) (i k j : Int) : putD ("spot_now" : Str) (.int j) (wF ws i k) = wF ws j k := by simp [wF, putD]
@[simp] theorem wF_p3 (ws : List W) (i k j : Int) : putD ("opened" : Str) (.int j) (wF ws i k) = wF ws i j := by simp [wF, putD]
@[simp] theorem getmid {α : Type} (p q : List α) (x : α) : (p ++ x :: q)[p.length]? = some x := by simp
@[simp] theorem setmid {α : Type} (p q : List α) (x y : α) : (p ++ x :: q).set p.length y = p ++ y :: q := by simp
@[simp high] theorem objO_w (sl : List (Option D)) (p q : List Cell) (ws : List W) (i k : Int) : objO ⟨sl, p ++ wO ws i k :: q⟩ (.ob p.length) = some (p.length, 0, wF ws i k) := by simp [wO]
theorem wO_def (ws : List W) (i k : Int) : Cell.O 0 (wF ws i k) = wO ws i k := rfl
def cur (ws : List W) (i : Nat) : D := match ws[i]? with
  | some w => .str w
  | none => .non
theorem cur_own (ws : List W) (i : Nat) : isOwn (cur ws i) = false ∧ frzD (cur ws i) = cur ws i := by unfold cur; cases ws[i]? <;> exact ⟨rfl, rfl⟩
theorem here_ok (m : Nat) (p q : List Cell) (ws : List W) (i : Nat) (k : Int) : FW (runF G cM cW (m + 1) i_Words_here [.ob p.length] (p ++ wO ws i k :: q)) fun d cs => d = cur ws i ∧ cs = p ++ wO ws i k :: q := by
  rw [r_Words_here _ _ _ rfl, FW_end]
  by_cases h : i < ws.length
  · have e : ws[i]? = some ws[i] := List.getElem?_eq_getElem h
    simp [b_Words_here, b_Words_here_0, h, cur, e]
  · have e : ws[i]? = none := List.getElem?_eq_none (by omega)
    simp [b_Words_here, b_Words_here_0, h, cur, e]
theorem take_ok (m : Nat) (p q : List Cell) (ws : List W) (i : Nat) (k : Int) (w : W) (h : ws[i]? = some w) : FW (runF G cM cW (m + 2) i_Words_take [.ob p.length, .bl true] (p ++ wO ws i k :: q)) fun d cs => d = .str w ∧ cs = p ++ wO ws (i + 1 : Nat) k :: q := by
  rw [r_Words_take _ _ _ rfl, FW_end]
  have hr := here_ok m p q ws i k
  simp [b_Words_take, b_Words_take_0, MW_call, s_Words_here, permL, -List.lookup_eq_none_iff]
  refine hr.imp fun d cs ⟨e1, e2⟩ => ?_
  subst e1; subst e2
  have e : cur ws i = .str w := by unfold cur; rw [h]
  rw [e]
  simp [b_Words_take_1, b_Words_take_2, b_Words_take_3, wO_def]
/-! words, names -/
def isNm (z : W) (m : Nat) : Bool := decide (1 ≤ z.length ∧ z.length ≤ m ∧ ∀ k ∈ z, k ∈ LET)
theorem is_word_ok (n : Nat) (z : W) (m : Nat) (cs : List Cell) (hz : z.length ≤ 1000) : FW (runF G cM cW (n + 1) i_is_word [.str z, .int m] cs) fun d cs' => d = .bl (isNm z m) ∧ cs' = cs := by
  rw [r_is_word _ _ _ rfl, FW_end]
  have h1 : z.length ≤ sizeLine := lineN hz
  rw [b_is_word, SW_cons, b_is_word_0]
  simp [h1, b_is_word_0a_0]
  by_cases g1 : 1 ≤ z.length
  · by_cases g2 : z.length ≤ m
    · have g1' : (1 : Int) ≤ z.length := by omega
      have g2' : (z.length : Int) ≤ m := by omega
      rw [if_pos g1', if_pos g2]
      rw [b_is_word_1, ← LET]
      simp [freeSlots, wipeS]
      refine lc_map (fun d => match d with
        | .str [k] => .bl (decide (k ∈ LET))
        | _ => .non) (by rw [U.signs, List.length_map]; exact h1) (fun d hd => ?_) ?_
      · obtain ⟨k, hk, rfl⟩ := List.mem_map.mp hd
        simp [wipeS]
      · have e : (U.signs z).map (fun d => match d with
          | .str [k] => D.bl (decide (k ∈ LET))
          | _ => .non) = (z.map fun k => decide (k ∈ LET)).map .bl := by simp [U.signs]
        rw [e, MW_all (asBls_map _)]
        simp [isNm, g1, g2, backS]
        rw [Bool.eq_iff_iff]; simp
    · have g1' : (1 : Int) ≤ z.length := by omega
      rw [if_pos g1', if_neg g2]
      simp [isNm, g2]
  · have g1' : ¬ (1 : Int) ≤ z.length := by omega
    rw [if_neg g1']
    simp [isNm, g1]
theorem is_word_non (n : Nat) (m : Nat) (cs : List Cell) : FW (runF G cM cW (n + 1) i_is_word [.non, .int m] cs) fun d cs' => d = .bl false ∧ cs' = cs := by
  rw [r_is_word _ _ _ rfl, FW_end]
  simp [b_is_word, b_is_word_0, b_is_word_0a_0]
theorem is_name_ok (n : Nat) (z : W) (cs : List Cell) (hz : z.length ≤ 1000) : FW (runF G cM cW (n + 2) i_is_name [.str z] cs) fun d cs' => d = .bl (isNm z 4) ∧ cs' = cs := by
  rw [r_is_name _ _ _ rfl, FW_end]
  simp [b_is_name, b_is_name_0, MW_call, s_is_word, permL]
  exact (is_word_ok n z 4 cs hz).imp fun d cs' h => h
theorem is_name_non (n : Nat) (cs : List Cell) : FW (runF G cM cW (n + 2) i_is_name [.non] cs) fun d cs' => d = .bl false ∧ cs' = cs := by
  rw [r_is_name _ _ _ rfl, FW_end]
  simp [b_is_name, b_is_name_0, MW_call, s_is_word, permL]
  exact (is_word_non n 4 cs).imp fun d cs' h => h
theorem is_piece_ok (n : Nat) (z : W) (cs : List Cell) (hz : z.length ≤ 1000) : FW (runF G cM cW (n + 2) i_is_piece [.str z] cs) fun d cs' => d = .bl (isNm z 6) ∧ cs' = cs := by
  rw [r_is_piece _ _ _ rfl, FW_end]
  simp [b_is_piece, b_is_piece_0, MW_call, s_is_word, permL]
  exact (is_word_ok n z 6 cs hz).imp fun d cs' h => h
theorem take_name_ok (m : Nat) (p q : List Cell) (ws : List W) (i : Nat) (k : Int) (w : W) (h : ws[i]? = some w) (hw : gW w) : FW (runF G cM cW (m + 3) i_Words_take_name [.ob p.length] (p ++ wO ws i k :: q)) fun d cs => d = .str w ∧ cs = p ++ wO ws (i + 1 : Nat) k :: q := by
  rw [r_Words_take_name _ _ _ rfl, FW_end]
  have hr := here_ok (m + 1) p q ws i k
  have tk := take_ok m p q ws i k w h
  have nm := fun cs => is_name_ok m w cs (by have := hw.2.1; omega)
  have e : cur ws i = .str w := by unfold cur; rw [h]
  have e2 : isNm w 4 = true := by unfold isNm; exact decide_eq_true ⟨hw.1, hw.2.1, hw.2.2⟩
  rw [e] at hr
  rw [e2] at nm
  simp [-List.lookup_eq_none_iff, b_Words_take_name, b_Words_take_name_0, MW_call, s_Words_here, s_Words_take, s_is_name, permL]
  refine hr.imp fun d cs ⟨e1, e2⟩ => ?_
  subst e1; subst e2
  refine (nm _).imp fun d cs ⟨e1, e2⟩ => ?_
  subst e1; subst e2
  exact tk
end Law

set_option maxHeartbeats 1000000
namespace Law
open PySem PySem.Spec PyProof.Rows U
theorem SW_while {t : M Bool} {body : MS} {N : S → Prop} {R : D → S → Prop} (Inv : Nat → S → Prop)
    (h : ∀ k s, Inv k s → MW t s fun b s1 => if b = true then ∃ k', k = k' + 1 ∧ SW body s1 (Inv k') R else N s1) : ∀ (n k : Nat) (s : S), k < n → Inv k s → SW (whileL t body n) s N R
  | 0, k, s, hk, _ => absurd hk (by omega)
  | n + 1, k, s, hk, hi => by
    have h1 := h k s hi
    unfold SW whileL
    unfold MW at h1
    split at h1
    · rename_i b s1 e
      rw [e]
      cases b with
      | false => exact h1
      | true =>
        obtain ⟨k', rfl, h2⟩ := h1
        dsimp only
        unfold SW at h2
        split at h2
        · rename_i s2 e2
          rw [e2]
          exact SW_while Inv h n k' s2 (by omega) h2
        · rename_i d s2 e2
          rw [e2]; exact h2
        · exact h2.elim
    · exact h1.elim
@[simp] theorem getend {α : Type} (p q : List α) (x y : α) : (p ++ x :: (q ++ [y]))[p.length + (q.length + 1)]? = some y := by
  rw [List.getElem?_append_right (by omega)]
  have : p.length + (q.length + 1) - p.length = q.length + 1 := by omega
  rw [this]; simp
@[simp] theorem setend {α : Type} (p q : List α) (x y z : α) : (p ++ x :: (q ++ [y])).set (p.length + (q.length + 1)) z = p ++ x :: (q ++ [z]) := by
  rw [List.set_append_right _ _ (by omega)]
  have : p.length + (q.length + 1) - p.length = q.length + 1 := by omega
  rw [this]; simp
theorem atI_last {α : Type} (xs : List α) (x : α) : L2.atI (xs ++ [x]) (-1) = some x := by
  unfold L2.atI L2.ixN
  have h : (1 : Int) ≤ (xs.length : Int) + 1 := by omega
  have e : (-1 + ((xs.length : Int) + 1)).toNat = xs.length := by omega
  simp [h, e]
theorem depD_strs (g : List W) : depD (.lst (g.map .str)) ≤ 64 := by
  simp [depD, depL_strs]
theorem okD_lst_strs {g : List W} (h : okL (g.map .str) = true) (hl : g.length ≤ 3) : okD (.lst (g.map .str)) = true := by
  simpa [okD] using h
/-- what follows is no name -/
def gStop (rest : List W) : Prop := ∀ r, rest.head? = some r → isNm r 4 = false ∧ r.length ≤ 1000
theorem cur_drop {ws : List W} {i : Nat} {rest : List W} (h : ws.drop i = rest) : cur ws i = (match rest.head? with
    | some w => .str w
    | none => .non) := by
  unfold cur
  have : rest.head? = ws[i]? := by rw [← h, List.head?_drop]
  rw [this]
  all_goals (cases ws[i]? <;> rfl)
theorem get_drop {ws : List W} {i : Nat} {w : W} {rest : List W} (h : ws.drop i = w :: rest) : ws[i]? = some w := by
  have : (w :: rest).head? = ws[i]? := by rw [← h, List.head?_drop]
  simpa using this.symm
theorem next_drop {ws : List W} {i : Nat} {w : W} {rest : List W} (h : ws.drop i = w :: rest) : ws.drop (i + 1) = rest := by
  rw [← List.drop_drop, h]; rfl
theorem app_drop {ws : List W} {i : Nat} {a rest : List W} (h : ws.drop i = a ++ rest) : ws.drop (i + a.length) = rest := by
  rw [← List.drop_drop, h]; simp
theorem take_group_ok (m : Nat) (p q : List Cell) (ws : List W) (i : Nat) (k : Int) (g rest : List W) (h : ws.drop i = g ++ rest) (hg : grOk g) (hs : gStop rest) :
    FW (runF G cM cW (m + 3) i_Words_take_group [.ob p.length] (p ++ wO ws i k :: q)) fun d cs => ∃ c : Cell, d = grp g ∧ cs = p ++ wO ws (i + g.length : Nat) k :: (q ++ [c]) := by
  rw [r_Words_take_group _ _ _ rfl, FW_end]
  simp [b_Words_take_group, b_Words_take_group_0, b_Words_take_group_1]
  obtain ⟨I, hI⟩ : ∃ I : Nat → S → Prop, I = (fun n s => ∃ g1 g2 : List W, g = g1 ++ g2 ∧ n = g2.length ∧ s = ⟨[some (.ob p.length), some (.ob (p.length + (q.length + 1)))], p ++ wO ws (i + g1.length : Nat) k :: (q ++ [.L (g1.map .str)])⟩) := ⟨_, rfl⟩
  refine SW_while I ?_ _ g.length _ (by have := hg.1; unfold cW; omega) (by rw [hI]; exact ⟨[], g, rfl, rfl, by simp⟩)
  intro n s hi
  rw [hI] at hi
  obtain ⟨g1, g2, e1, e2, rfl⟩ := hi
  have hd : ws.drop (i + g1.length) = g2 ++ rest := app_drop (by rw [h, e1, List.append_assoc])
  have hr := here_ok (m + 1) p (q ++ [.L (g1.map .str)]) ws (i + g1.length) k
  cases g2 with
  | nil =>
    rw [cur_drop hd] at hr
    rw [List.append_nil] at e1
    subst e1
    cases rest with
    | nil =>
      simp [-List.lookup_eq_none_iff, MW_call, s_Words_here, s_is_name, permL] at hr ⊢
      refine hr.imp fun d cs ⟨e1, e2⟩ => ?_
      subst e1; subst e2
      refine (is_name_non m _).imp fun d cs ⟨e1, e2⟩ => ?_
      subst e1; subst e2
      simp [b_Words_take_group_2]
      first | rfl | exact ⟨.L (g.map .str), rfl⟩
    | cons r rest =>
      have hs1 := hs r rfl
      have nm := fun cs => is_name_ok m r cs hs1.2
      rw [hs1.1] at nm
      simp [-List.lookup_eq_none_iff, MW_call, s_Words_here, s_is_name, permL] at hr ⊢
      refine hr.imp fun d cs ⟨e1, e2⟩ => ?_
      subst e1; subst e2
      refine (nm _).imp fun d cs ⟨e1, e2⟩ => ?_
      subst e1; subst e2
      simp [b_Words_take_group_2]
      first | rfl | exact ⟨.L (g.map .str), rfl⟩
  | cons w g2 =>
    have hw : gW w := hg.2.1 w (by rw [e1]; simp)
    have nm := fun cs => is_name_ok m w cs (by have := hw.2.1; omega)
    have e3 : isNm w 4 = true := by unfold isNm; exact decide_eq_true ⟨hw.1, hw.2.1, hw.2.2⟩
    rw [e3] at nm
    rw [cur_drop hd] at hr
    have tk := take_ok (m) p (q ++ [.L (g1.map .str)]) ws (i + g1.length) k w (get_drop hd)
    have hok : okL (g1.map .str) = true := okL_strs (gWs_ok fun u hu => hg.2.1 u (by rw [e1]; simp [hu]))
    have hl : g1.length ≤ 3 := by
      have := hg.1
      rw [e1, List.length_append] at this
      exact Nat.le_trans (Nat.le_add_right _ _) this
    have body : SW (sSeq [b_Words_take_group_1_0 (runF G cM cW (m + 2))]) ⟨[some (.ob p.length), some (.ob (p.length + (q.length + 1)))], p ++ wO ws (i + g1.length : Nat) k :: (q ++ [.L (g1.map .str)])⟩ (I g2.length) fun d s => ∃ c : Cell, d = grp g ∧ s.cs = p ++ wO ws (i + g.length : Nat) k :: (q ++ [c]) := by
      simp [b_Words_take_group_1_0, -List.lookup_eq_none_iff, MW_call, s_Words_take, permL] at tk ⊢
      refine tk.imp fun d cs ⟨e1', e2'⟩ => ?_
      subst e1'; subst e2'
      simp
      refine ⟨Nat.lt_of_lt_of_le (by omega) line, ?_⟩
      rw [hI]
      exact ⟨g1 ++ [w], g2, by rw [e1]; simp, rfl, by simp [Int.add_assoc]⟩
    simp [-List.lookup_eq_none_iff, MW_call, s_Words_here, s_is_name, permL] at hr ⊢
    refine hr.imp fun d cs ⟨e1', e2'⟩ => ?_
    subst e1'; subst e2'
    refine (nm _).imp fun d cs ⟨e1', e2'⟩ => ?_
    subst e1'; subst e2'
    simp [-List.lookup_eq_none_iff]
    rw [MW_eqO (xs := g1.map .str) (by simp) (okD_lst_strs hok hl) (by decide) (depD_strs _) (by decide)]
    by_cases h0 : g1 = []
    · subst h0
      have e6 : eqG (.lst ([].map D.str)) (.lst []) = true := by decide
      rw [e6]
      simp
      exact ⟨g2.length, by rw [e2]; rfl, by simpa using body⟩
    · obtain ⟨g0, u, rfl⟩ : ∃ g0 u, g1 = g0 ++ [u] := ⟨g1.dropLast, g1.getLast h0, (List.dropLast_concat_getLast h0).symm⟩
      have e6 : eqG (.lst ((g0 ++ [u]).map D.str)) (.lst []) = false := by cases g0 <;> simp [eqG, eqGL]
      rw [e6]
      have hlt : u < w := by
        have := hg.2.2
        rw [e1] at this
        exact (List.pairwise_append.mp this).2.2 u (by simp) w (by simp)
      simp [-List.lookup_eq_none_iff, MW_call, s_Words_here, s_is_name, permL, atI_last]
      rw [List.length_append, List.map_append] at hr
      simp at hr
      refine hr.imp fun d cs ⟨e1', e2'⟩ => ?_
      subst e1'; subst e2'
      simp [hlt]
      exact ⟨g2.length, by rw [e2]; rfl, by simpa using body⟩
end Law

set_option maxHeartbeats 1000000
namespace Law
open PySem PySem.Spec PyProof.Rows U
theorem num6 (v : Nat) (h : v ≤ 6) : v = 0 ∨ v = 1 ∨ v = 2 ∨ v = 3 ∨ v = 4 ∨ v = 5 ∨ v = 6 := by omega
theorem strOf6 (v : Nat) (h : v ≤ 6) : strOfInt (v : Int) = [48 + v] := by
  rcases num6 v h with rfl | rfl | rfl | rfl | rfl | rfl | rfl <;> decide +kernel
theorem MW_intDig {s : S} {Q : D → S → Prop} (v : Nat) (h : v ≤ 6) : MW (intD [.str [48 + v]]) s Q = Q (.int v) s := by
  have e : PySem.intText? (stS [48 + v]) = some (v : Int) := by
    rcases num6 v h with rfl | rfl | rfl | rfl | rfl | rfl | rfl <;> decide +kernel
  simp [MW, U.intD, e, mOpt, mPure]
theorem take_number_ok (m : Nat) (p q : List Cell) (ws : List W) (i : Nat) (k : Int) (v a b : Nat) (ha : a ≤ 1) (hb : b = 4 ∨ b = 6) (h1 : a ≤ v) (h2 : v ≤ b) (h : ws[i]? = some (strOfInt v)) :
    FW (runF G cM cW (m + 3) i_Words_take_number [.ob p.length, .int a, .int b] (p ++ wO ws i k :: q)) fun d cs => d = .int v ∧ cs = p ++ wO ws (i + 1 : Nat) k :: q := by
  rw [r_Words_take_number _ _ _ rfl, FW_end]
  have hr := here_ok (m + 1) p q ws i k
  have tk := take_ok m p q ws i k _ h
  have e : cur ws i = .str (strOfInt v) := by unfold cur; rw [h]
  rw [e] at hr
  simp [-List.lookup_eq_none_iff, b_Words_take_number, b_Words_take_number_0, MW_call, s_Words_here, permL]
  refine hr.imp fun d cs ⟨e1, e2⟩ => ?_
  subst e1; subst e2
  have hv : v ≤ 6 := by omega
  simp [-List.lookup_eq_none_iff, b_Words_take_number_1]
  rw [strOf6 v hv] at tk ⊢
  have hin : 48 + v ∈ cutN [48, 49, 50, 51, 52, 53, 54, 55, 56, 57] (some (a : Int)) (some ((b : Int) + 1)) := by
    rcases hb with rfl | rfl <;> rcases (show a = 0 ∨ a = 1 by omega) with rfl | rfl <;> rcases num6 v hv with rfl | rfl | rfl | rfl | rfl | rfl | rfl <;> first | omega | decide
  simp [-List.lookup_eq_none_iff, hin, b_Words_take_number_2, MW_call, s_Words_take, permL]
  refine ⟨Nat.le_trans (by decide) line, Nat.le_trans (by decide) line, ?_⟩
  refine tk.imp fun d cs ⟨e1, e2⟩ => ?_
  subst e1; subst e2
  rw [MW_intDig v hv]
  simp
@[simp] theorem getmid2 {α : Type} (p q r : List α) (x y : α) : (p ++ x :: (q ++ y :: r))[p.length + (q.length + 1)]? = some y := by
  rw [List.getElem?_append_right (by omega)]
  have : p.length + (q.length + 1) - p.length = q.length + 1 := by omega
  rw [this]; simp
@[simp] theorem setmid2 {α : Type} (p q r : List α) (x y z : α) : (p ++ x :: (q ++ y :: r)).set (p.length + (q.length + 1)) z = p ++ x :: (q ++ z :: r) := by
  rw [List.set_append_right _ _ (by omega)]
  have : p.length + (q.length + 1) - p.length = q.length + 1 := by omega
  rw [this]; simp
theorem MW_eqNS {y : W} {s : S} {Q : D → S → Prop} : MW (cmpD .Eq .non (.str y)) s Q = Q (.bl false) s := rfl
def tlG (gs : List (List W)) : List W := (gs.map fun h => wCOM :: h).flatten
theorem tlG_cons (h : List W) (gs : List (List W)) : tlG (h :: gs) = wCOM :: (h ++ tlG gs) := by simp [tlG]
/-- what follows is neither a name nor a comma -/
def sStop (rest : List W) : Prop := gStop rest ∧ rest.head? ≠ some wCOM
theorem sStop_tl {rest : List W} (h : sStop rest) : ∀ gs : List (List W), gStop (tlG gs ++ rest)
  | [] => by simpa [tlG] using h.1
  | g :: gs => by
    rw [tlG_cons]
    intro r hr
    have e : r = wCOM := by simpa using hr.symm
    subst e
    exact ⟨by decide, by decide⟩
theorem groups_loop (m : Nat) (p q : List Cell) (ws : List W) (i : Nat) (k : Int) (g : List W) (gs : List (List W)) (rest : List W) (h : ws.drop i = tlG gs ++ rest) (hgs : ∀ h ∈ gs, grOk h) (hl : gs.length ≤ 3) (hs : sStop rest) (Q : D → S → Prop)
    (hQ : ∀ r s, s.cs = p ++ wO ws (i + (tlG gs).length : Nat) k :: (q ++ r) → Q (.tup (grp g :: gs.map grp)) s) :
    SW (b_Words_take_groups_1 (runF G cM cW (m + 3))) ⟨[some (.ob p.length), some (.ob (p.length + (q.length + 1)))], p ++ wO ws i k :: (q ++ [.L [grp g]])⟩ (fun s' => SW (b_Words_take_groups_2 (runF G cM cW (m + 3))) s' (fun _ => False) Q) Q := by
  rw [b_Words_take_groups_1]
  obtain ⟨I, hI⟩ : ∃ I : Nat → S → Prop, I = (fun n s => ∃ (g1 g2 : List (List W)) (r : List Cell), gs = g1 ++ g2 ∧ n = g2.length ∧ s = ⟨[some (.ob p.length), some (.ob (p.length + (q.length + 1)))], p ++ wO ws (i + (tlG g1).length : Nat) k :: (q ++ .L (grp g :: g1.map grp) :: r)⟩) := ⟨_, rfl⟩
  refine SW_while I ?_ _ gs.length _ (by unfold cW; omega) (by rw [hI]; exact ⟨[], gs, [], rfl, rfl, by simp [tlG]⟩)
  intro n s hi
  rw [hI] at hi
  obtain ⟨g1, g2, r, e1, e2, rfl⟩ := hi
  have tapp : ∀ a b : List (List W), tlG (a ++ b) = tlG a ++ tlG b := fun a b => by simp [tlG]
  have hd : ws.drop (i + (tlG g1).length) = tlG g2 ++ rest := app_drop (by rw [h, e1, tapp, List.append_assoc])
  obtain ⟨j, hj⟩ : ∃ j, j = i + (tlG g1).length := ⟨_, rfl⟩
  have hjl : ∀ x, i + (tlG (g1 ++ x)).length = j + (tlG x).length := fun x => by rw [tapp, List.length_append, ← Nat.add_assoc, ← hj]
  rw [← hj] at hd ⊢
  have hr := here_ok (m + 2) p (q ++ .L (grp g :: g1.map grp) :: r) ws j k
  rw [cur_drop hd] at hr
  cases g2 with
  | nil =>
    rw [List.append_nil] at e1
    subst e1
    have hQ' := hQ (.L (grp g :: gs.map grp) :: r)
    rw [← hj] at hQ'
    have hne : ∀ r0, rest.head? = some r0 → r0 ≠ [44] := fun r0 h0 e => hs.2 (by rw [h0, e, wCOM])
    simp [-List.lookup_eq_none_iff, MW_call, s_Words_here, permL, tlG]
    refine hr.imp fun d cs ⟨e1, e2⟩ => ?_
    subst e1; subst e2
    cases rest with
    | nil =>
      simp [tlG, MW_eqNS, b_Words_take_groups_2]
      exact hQ' _ rfl
    | cons r0 rest => simp [tlG, hne r0 rfl, b_Words_take_groups_2]; exact hQ' _ rfl
  | cons h1 g2 =>
    rw [tlG_cons] at hd hr
    have tk := take_ok (m + 1) p (q ++ .L (grp g :: g1.map grp) :: r) ws j k wCOM (get_drop hd)
    have hg1 : grOk h1 := hgs h1 (by rw [e1]; simp)
    have hd2 : ws.drop (j + 1) = h1 ++ (tlG g2 ++ rest) := by have := next_drop hd; simpa using this
    have tg := take_group_ok m p (q ++ .L (grp g :: g1.map grp) :: r) ws (j + 1) k h1 _ hd2 hg1 (sStop_tl hs g2)
    have hl1 : g1.length ≤ 3 := by rw [e1, List.length_append] at hl; omega
    simp [-List.lookup_eq_none_iff, MW_call, s_Words_here, permL] at hr ⊢
    refine hr.imp fun d cs ⟨e1', e2'⟩ => ?_
    subst e1'; subst e2'
    have hw : wCOM = [44] := rfl
    simp [-List.lookup_eq_none_iff, hw, b_Words_take_groups_1_0, b_Words_take_groups_1_1, MW_call, s_Words_take, s_Words_take_group, permL]
    refine ⟨g2.length, by rw [e2]; rfl, ?_⟩
    refine tk.imp fun d cs ⟨e1', e2'⟩ => ?_
    subst e1'; subst e2'
    simp [-List.lookup_eq_none_iff, s_Words_take_group]
    refine tg.imp fun d cs ⟨c, e1', e2'⟩ => ?_
    subst e1'; subst e2'
    simp [-List.lookup_eq_none_iff]
    refine ⟨Nat.lt_of_lt_of_le (by omega) line, ?_⟩
    rw [hI]
    refine ⟨g1 ++ [h1], g2, r ++ [c], by rw [e1]; simp, rfl, ?_⟩
    rw [hjl, tlG_cons]
    have e9 : (j : Int) + 1 + h1.length = j + (h1.length + 1) := by omega
    simp [tlG, e9]
theorem take_groups_ok (m : Nat) (p q : List Cell) (ws : List W) (i : Nat) (k : Int) (g : List W) (gs : List (List W)) (rest : List W) (h : ws.drop i = g ++ (tlG gs ++ rest)) (hg : grOk g) (hgs : ∀ h ∈ gs, grOk h) (hl : gs.length ≤ 3) (hs : sStop rest) :
    FW (runF G cM cW (m + 4) i_Words_take_groups [.ob p.length] (p ++ wO ws i k :: q)) fun d cs => d = .tup (grp g :: gs.map grp) ∧ ∃ r, cs = p ++ wO ws (i + (g ++ tlG gs).length : Nat) k :: (q ++ r) := by
  rw [r_Words_take_groups _ _ _ rfl, FW_end]
  have t1 := take_group_ok m p q ws i k g (tlG gs ++ rest) h hg (sStop_tl hs gs)
  simp [-List.lookup_eq_none_iff, b_Words_take_groups, b_Words_take_groups_0, MW_call, s_Words_take_group, permL]
  refine t1.imp fun d cs ⟨c, e1, e2⟩ => ?_
  subst e1; subst e2
  simp [-List.lookup_eq_none_iff]
  refine ⟨Nat.le_trans (by decide) line, ?_⟩
  have hd := app_drop h
  have := groups_loop m p (q ++ [c]) ws (i + g.length) k g gs rest hd hgs hl hs (fun d s' => d = D.tup (grp g :: List.map grp gs) ∧ ∃ r, s'.cs = p ++ wO ws ((i : Int) + ((g.length : Int) + ((tlG gs).length : Int))) k :: (q ++ r)) (fun r s h => ⟨rfl, c :: r, by rw [h]; simp [Int.add_assoc]⟩)
  simpa using this
end Law

set_option maxHeartbeats 1000000
namespace Law
open PySem PySem.Spec PyProof.Rows U
@[simp] theorem lnO {n : Nat} (h : n ≤ 1000) : (n ≤ sizeLine) = True := eq_true (lineN h)
theorem take_name2 (m : Nat) (p q : List Cell) (ws : List W) (i : Nat) (k : Int) (w : W) (rest : List W) (h : ws.drop i = w :: rest) (hw : gW w) : FW (runF G cM cW (m + 3) i_Words_take_name [.ob p.length] (p ++ wO ws i k :: q)) fun d cs => d = .str w ∧ cs = p ++ wO ws (i + 1 : Nat) k :: q := take_name_ok m p q ws i k w (get_drop h) hw
theorem take_test_ok (m : Nat) (p q : List Cell) (ws : List W) (i : Nat) (k : Int) (t : Te) (rest : List W) (h : ws.drop i = t.ws ++ rest) (ho : t.ok) (hs : gStop rest) :
    FW (runF G cM cW (m + 5) i_Words_take_test [.ob p.length] (p ++ wO ws i k :: q)) fun d cs => d = t.d ∧ ∃ r, cs = p ++ wO ws (i + t.ws.length : Nat) k :: (q ++ r) := by
  rw [r_Words_take_test _ _ _ rfl, FW_end]
  have hr := here_ok (m + 3) p q ws i k
  rw [cur_drop h] at hr
  cases t with
  | whole =>
    have tk := take_ok (m + 2) p q ws i k wWHO (get_drop h)
    simp [Te.ws] at hr
    simp [-List.lookup_eq_none_iff, b_Words_take_test, b_Words_take_test_0, MW_call, s_Words_here, permL]
    refine hr.imp fun d cs ⟨e1, e2⟩ => ?_
    subst e1; subst e2
    simp [-List.lookup_eq_none_iff, b_Words_take_test_1, wWHO, MW_call, s_Words_take, permL]
    refine tk.imp fun d cs ⟨e1, e2⟩ => ?_
    subst e1; subst e2
    simp [b_Words_take_test_2, b_Words_take_test_3, b_Words_take_test_4, Te.d, Te.ws, wWHO]
  | spans g a =>
    have tk := take_ok (m + 2) p q ws i k wSPA (get_drop h)
    have h1 : ws.drop (i + 1) = a :: (g ++ rest) := next_drop h
    have tn := take_name2 (m + 1) p q ws (i + 1) k a _ h1 ho.2
    have h2 : ws.drop (i + 1 + 1) = g ++ rest := next_drop h1
    have tg := take_group_ok (m + 1) p q ws (i + 1 + 1) k g rest h2 ho.1 hs
    simp [Te.ws] at hr
    simp [-List.lookup_eq_none_iff, b_Words_take_test, b_Words_take_test_0, MW_call, s_Words_here, permL]
    refine hr.imp fun d cs ⟨e1, e2⟩ => ?_
    subst e1; subst e2
    simp [-List.lookup_eq_none_iff, b_Words_take_test_1, wSPA, MW_call, s_Words_take, permL]
    refine tk.imp fun d cs ⟨e1, e2⟩ => ?_
    subst e1; subst e2
    simp [-List.lookup_eq_none_iff, b_Words_take_test_2, b_Words_take_test_3, wSPA, b_Words_take_test_3a_0, MW_call, s_Words_take_name, permL]
    refine tn.imp fun d cs ⟨e1, e2⟩ => ?_
    subst e1; subst e2
    simp [-List.lookup_eq_none_iff, b_Words_take_test_3a_1, MW_call, s_Words_take_group, permL]
    refine tg.imp fun d cs ⟨c, e1, e2⟩ => ?_
    subst e1; subst e2
    simp [Te.d, Te.ws, wSPA]
    have e9 : (i : Int) + 1 + 1 + g.length = i + (g.length + 1 + 1) := by omega
    rw [e9]
  | rank g v =>
    have tk := take_ok (m + 2) p q ws i k wRANK (get_drop h)
    have h1 : ws.drop (i + 1) = strOfInt v :: (g ++ rest) := next_drop h
    have tn := take_number_ok (m + 1) p q ws (i + 1) k v 0 6 (by omega) (by omega) (by omega) ho.2 (get_drop h1)
    have h2 : ws.drop (i + 1 + 1) = g ++ rest := next_drop h1
    have tg := take_group_ok (m + 1) p q ws (i + 1 + 1) k g rest h2 ho.1 hs
    simp [Te.ws] at hr
    simp [-List.lookup_eq_none_iff, b_Words_take_test, b_Words_take_test_0, MW_call, s_Words_here, permL]
    refine hr.imp fun d cs ⟨e1, e2⟩ => ?_
    subst e1; subst e2
    simp [-List.lookup_eq_none_iff, b_Words_take_test_1, wRANK, MW_call, s_Words_take, permL]
    refine tk.imp fun d cs ⟨e1, e2⟩ => ?_
    subst e1; subst e2
    simp [-List.lookup_eq_none_iff, b_Words_take_test_2, wRANK, b_Words_take_test_2a_0, MW_call, s_Words_take_number, permL]
    refine tn.imp fun d cs ⟨e1, e2⟩ => ?_
    subst e1; subst e2
    simp [-List.lookup_eq_none_iff, b_Words_take_test_2a_1, MW_call, s_Words_take_group, permL]
    refine tg.imp fun d cs ⟨c, e1, e2⟩ => ?_
    subst e1; subst e2
    simp [Te.d, Te.ws, wRANK]
    have e9 : (i : Int) + 1 + 1 + g.length = i + (g.length + 1 + 1) := by omega
    rw [e9]
end Law

set_option maxHeartbeats 1000000
namespace Law
open PySem PySem.Spec PyProof.Rows U
/-- a step ends here -/
def tStop (rest : List W) : Prop := ∀ r, rest.head? = some r → r = wSEMI ∨ r = wRP
theorem tStop.s {rest : List W} (h : tStop rest) : sStop rest := by
  refine ⟨fun r hr => ?_, fun hr => ?_⟩
  · rcases h r hr with rfl | rfl <;> exact ⟨by decide, by decide⟩
  · rcases h _ hr with e | e <;> exact absurd e (by decide)
theorem gStop_lp (r : List W) : gStop (wLP :: r) := fun x hx => by
  have e : x = wLP := by simpa using hx.symm
  subst e; exact ⟨by decide, by decide⟩
/-- plain steps -/
theorem tplain_ok (m : Nat) (p q : List Cell) (ws : List W) (i : Nat) (k : Int) (t : Pl) (rest : List W) (h : ws.drop i = t.ws ++ rest) (ho : t.ok) (hs : tStop rest) :
    FW (runF G cM cW (m + 5) i_Words_take_step [.ob p.length] (p ++ wO ws i k :: q)) fun d cs => d = t.d ∧ ∃ r, cs = p ++ wO ws (i + t.ws.length : Nat) k :: (q ++ r) := by
  rw [r_Words_take_step _ _ _ rfl, FW_end]
  have hr := here_ok (m + 3) p q ws i k
  rw [cur_drop h] at hr
  cases t with
  | del a =>
    have tk := take_ok (m + 2) p q ws i k wDEL (get_drop h)
    have h1 : ws.drop (i + 1) = a :: rest := next_drop h
    have tn := take_name2 (m + 1) p q ws (i + 1) k a _ h1 ho
    simp [Pl.ws] at hr
    simp [-List.lookup_eq_none_iff, b_Words_take_step, b_Words_take_step_0, MW_call, s_Words_here, permL]
    refine hr.imp fun d cs ⟨e1, e2⟩ => ?_
    subst e1; subst e2
    simp [-List.lookup_eq_none_iff, b_Words_take_step_1, wDEL, b_Words_take_step_1a_0, MW_call, s_Words_take, permL]
    refine tk.imp fun d cs ⟨e1, e2⟩ => ?_
    subst e1; subst e2
    simp [-List.lookup_eq_none_iff, b_Words_take_step_1a_1, MW_call, s_Words_take_name, permL]
    refine tn.imp fun d cs ⟨e1, e2⟩ => ?_
    subst e1; subst e2
    simp [Pl.d, Pl.ws, wDEL, Int.add_assoc]
  | con a =>
    have tk := take_ok (m + 2) p q ws i k wCON (get_drop h)
    have h1 : ws.drop (i + 1) = a :: rest := next_drop h
    have tn := take_name2 (m + 1) p q ws (i + 1) k a _ h1 ho
    simp [Pl.ws] at hr
    simp [-List.lookup_eq_none_iff, b_Words_take_step, b_Words_take_step_0, MW_call, s_Words_here, permL]
    refine hr.imp fun d cs ⟨e1, e2⟩ => ?_
    subst e1; subst e2
    simp [-List.lookup_eq_none_iff, b_Words_take_step_1, wCON, b_Words_take_step_1a_0, MW_call, s_Words_take, permL]
    refine tk.imp fun d cs ⟨e1, e2⟩ => ?_
    subst e1; subst e2
    simp [-List.lookup_eq_none_iff, b_Words_take_step_1a_1, MW_call, s_Words_take_name, permL]
    refine tn.imp fun d cs ⟨e1, e2⟩ => ?_
    subst e1; subst e2
    simp [Pl.d, Pl.ws, wCON, Int.add_assoc]
  | top a =>
    have tk := take_ok (m + 2) p q ws i k wTOP (get_drop h)
    have h1 : ws.drop (i + 1) = a :: rest := next_drop h
    have tn := take_name2 (m + 1) p q ws (i + 1) k a _ h1 ho
    simp [Pl.ws] at hr
    simp [-List.lookup_eq_none_iff, b_Words_take_step, b_Words_take_step_0, MW_call, s_Words_here, permL]
    refine hr.imp fun d cs ⟨e1, e2⟩ => ?_
    subst e1; subst e2
    simp [-List.lookup_eq_none_iff, b_Words_take_step_1, wTOP, b_Words_take_step_1a_0, MW_call, s_Words_take, permL]
    refine tk.imp fun d cs ⟨e1, e2⟩ => ?_
    subst e1; subst e2
    simp [-List.lookup_eq_none_iff, b_Words_take_step_1a_1, MW_call, s_Words_take_name, permL]
    refine tn.imp fun d cs ⟨e1, e2⟩ => ?_
    subst e1; subst e2
    simp [Pl.d, Pl.ws, wTOP, Int.add_assoc]
  | dual =>
    have tk := take_ok (m + 2) p q ws i k wDUA (get_drop h)
    simp [Pl.ws] at hr
    simp [-List.lookup_eq_none_iff, b_Words_take_step, b_Words_take_step_0, MW_call, s_Words_here, permL]
    refine hr.imp fun d cs ⟨e1, e2⟩ => ?_
    subst e1; subst e2
    simp [-List.lookup_eq_none_iff, b_Words_take_step_1, b_Words_take_step_2, wDUA, b_Words_take_step_2a_0, MW_call, s_Words_take, permL]
    refine tk.imp fun d cs ⟨e1, e2⟩ => ?_
    subst e1; subst e2
    simp [Pl.d, Pl.ws, wDUA, Int.add_assoc]
  | cut =>
    have tk := take_ok (m + 2) p q ws i k wCUT (get_drop h)
    simp [Pl.ws] at hr
    simp [-List.lookup_eq_none_iff, b_Words_take_step, b_Words_take_step_0, MW_call, s_Words_here, permL]
    refine hr.imp fun d cs ⟨e1, e2⟩ => ?_
    subst e1; subst e2
    simp [-List.lookup_eq_none_iff, b_Words_take_step_1, b_Words_take_step_2, wCUT, b_Words_take_step_2a_0, MW_call, s_Words_take, permL]
    refine tk.imp fun d cs ⟨e1, e2⟩ => ?_
    subst e1; subst e2
    simp [Pl.d, Pl.ws, wCUT, Int.add_assoc]
  | ren a b =>
    have tk := take_ok (m + 2) p q ws i k wREN (get_drop h)
    have h1 : ws.drop (i + 1) = a :: b :: rest := next_drop h
    have tn := take_name2 (m + 1) p q ws (i + 1) k a _ h1 ho.1
    have h2 : ws.drop (i + 1 + 1) = b :: rest := next_drop h1
    have tn2 := take_name2 (m + 1) p q ws (i + 1 + 1) k b _ h2 ho.2
    simp [Pl.ws] at hr
    simp [-List.lookup_eq_none_iff, b_Words_take_step, b_Words_take_step_0, MW_call, s_Words_here, permL]
    refine hr.imp fun d cs ⟨e1, e2⟩ => ?_
    subst e1; subst e2
    simp [-List.lookup_eq_none_iff, b_Words_take_step_1, b_Words_take_step_2, b_Words_take_step_3, wREN, b_Words_take_step_3a_0, MW_call, s_Words_take, permL]
    refine tk.imp fun d cs ⟨e1, e2⟩ => ?_
    subst e1; subst e2
    simp [-List.lookup_eq_none_iff, b_Words_take_step_3a_1, MW_call, s_Words_take_name, permL]
    refine tn.imp fun d cs ⟨e1, e2⟩ => ?_
    subst e1; subst e2
    simp [-List.lookup_eq_none_iff, b_Words_take_step_3a_2, MW_call, s_Words_take_name, permL]
    refine tn2.imp fun d cs ⟨e1, e2⟩ => ?_
    subst e1; subst e2
    simp [Pl.d, Pl.ws, wREN, Int.add_assoc]
  | ext a g =>
    have tk := take_ok (m + 2) p q ws i k wEXT (get_drop h)
    have h1 : ws.drop (i + 1) = a :: (g ++ rest) := next_drop h
    have tn := take_name2 (m + 1) p q ws (i + 1) k a _ h1 ho.1
    have h2 : ws.drop (i + 1 + 1) = g ++ rest := next_drop h1
    have tg := take_group_ok (m + 1) p q ws (i + 1 + 1) k g rest h2 ho.2 hs.s.1
    simp [Pl.ws] at hr
    simp [-List.lookup_eq_none_iff, b_Words_take_step, b_Words_take_step_0, MW_call, s_Words_here, permL]
    refine hr.imp fun d cs ⟨e1, e2⟩ => ?_
    subst e1; subst e2
    simp [-List.lookup_eq_none_iff, b_Words_take_step_1, b_Words_take_step_2, b_Words_take_step_3, wEXT, b_Words_take_step_3a_0, MW_call, s_Words_take, permL]
    refine tk.imp fun d cs ⟨e1, e2⟩ => ?_
    subst e1; subst e2
    simp [-List.lookup_eq_none_iff, b_Words_take_step_3a_1, MW_call, s_Words_take_name, permL]
    refine tn.imp fun d cs ⟨e1, e2⟩ => ?_
    subst e1; subst e2
    simp [-List.lookup_eq_none_iff, b_Words_take_step_3a_2, MW_call, s_Words_take_group, permL]
    refine tg.imp fun d cs ⟨c, e1, e2⟩ => ?_
    subst e1; subst e2
    have e9 : (i : Int) + 1 + 1 + g.length = i + (g.length + 1 + 1) := by omega
    simp [Pl.d, Pl.ws, wEXT, e9]
  | tru g =>
    have tk := take_ok (m + 2) p q ws i k wTRU (get_drop h)
    have h1 : ws.drop (i + 1) = g ++ rest := next_drop h
    have tg := take_group_ok (m + 1) p q ws (i + 1) k g rest h1 ho hs.s.1
    simp [Pl.ws] at hr
    simp [-List.lookup_eq_none_iff, b_Words_take_step, b_Words_take_step_0, MW_call, s_Words_here, permL]
    refine hr.imp fun d cs ⟨e1, e2⟩ => ?_
    subst e1; subst e2
    simp [-List.lookup_eq_none_iff, b_Words_take_step_1, b_Words_take_step_2, b_Words_take_step_3, b_Words_take_step_4, wTRU, b_Words_take_step_4a_0, MW_call, s_Words_take, permL]
    refine tk.imp fun d cs ⟨e1, e2⟩ => ?_
    subst e1; subst e2
    simp [-List.lookup_eq_none_iff, b_Words_take_step_4a_1, MW_call, s_Words_take_group, permL]
    refine tg.imp fun d cs ⟨c, e1, e2⟩ => ?_
    subst e1; subst e2
    have e9 : (i : Int) + 1 + g.length = i + (g.length + 1) := by omega
    simp [Pl.d, Pl.ws, wTRU, e9]
  | uni g gs =>
    have tk := take_ok (m + 2) p q ws i k wUNI (get_drop h)
    have h1 : ws.drop (i + 1) = g ++ (tlG gs ++ rest) := by have := next_drop h; simpa [tlG] using this
    have tg := take_groups_ok (m) p q ws (i + 1) k g gs rest h1 ho.1 ho.2.2 ho.2.1 hs.s
    simp [Pl.ws] at hr
    simp [-List.lookup_eq_none_iff, b_Words_take_step, b_Words_take_step_0, MW_call, s_Words_here, permL]
    refine hr.imp fun d cs ⟨e1, e2⟩ => ?_
    subst e1; subst e2
    simp [-List.lookup_eq_none_iff, b_Words_take_step_1, b_Words_take_step_2, b_Words_take_step_3, b_Words_take_step_4, wUNI, b_Words_take_step_4a_0, MW_call, s_Words_take, permL]
    refine tk.imp fun d cs ⟨e1, e2⟩ => ?_
    subst e1; subst e2
    simp [-List.lookup_eq_none_iff, b_Words_take_step_4a_1, MW_call, s_Words_take_groups, permL]
    refine tg.imp fun d cs ⟨e1, r, e2⟩ => ?_
    subst e1; subst e2
    have e9 : ((i + 1 + (g ++ tlG gs).length : Nat) : Int) = (i + (Pl.uni g gs).ws.length : Nat) := by simp [Pl.ws, tlG]; omega
    simp only [e9]
    simp [Pl.d, wUNI]
  | use a =>
    have tk := take_ok (m + 2) p q ws i k wUSE (get_drop h)
    have h1 : ws.drop (i + 1) = a :: rest := next_drop h
    have hr2 := here_ok (m + 3) p q ws (i + 1) k
    rw [cur_drop h1] at hr2
    have tk2 := take_ok (m + 2) p q ws (i + 1) k a (get_drop h1)
    have e2 : isNm a 6 = true := by unfold isNm; exact decide_eq_true ⟨ho.1, ho.2.1, ho.2.2⟩
    have nm := fun cs => is_piece_ok (m + 2) a cs (by have := ho.2.1; omega)
    rw [e2] at nm
    simp [Pl.ws] at hr
    simp [-List.lookup_eq_none_iff, b_Words_take_step, b_Words_take_step_0, MW_call, s_Words_here, permL]
    refine hr.imp fun d cs ⟨e1, e2⟩ => ?_
    subst e1; subst e2
    simp [-List.lookup_eq_none_iff, b_Words_take_step_1, b_Words_take_step_2, b_Words_take_step_3, b_Words_take_step_4, b_Words_take_step_5, b_Words_take_step_6, b_Words_take_step_7, wUSE, MW_call, s_Words_take, permL]
    refine tk.imp fun d cs ⟨e1, e2⟩ => ?_
    subst e1; subst e2
    simp [-List.lookup_eq_none_iff, b_Words_take_step_8, MW_call, s_Words_here, s_is_piece, s_Words_take, permL] at hr2 ⊢
    refine hr2.imp fun d cs ⟨e1, e2⟩ => ?_
    subst e1; subst e2
    refine (nm _).imp fun d cs ⟨e1, e2⟩ => ?_
    subst e1; subst e2
    refine tk2.imp fun d cs ⟨e1, e2⟩ => ?_
    subst e1; subst e2
    simp [Pl.d, Pl.ws, wUSE, Int.add_assoc]
end Law

set_option maxHeartbeats 1000000
namespace Law
open PySem PySem.Spec PyProof.Rows U
def StepsOk (K : Nat) : Prop := ∀ a : List St, depS a ≤ K → okSs a → a ≠ [] → (glue (wsS a)).length ≤ 1000 → ∀ m, 3 * K + 6 ≤ m → ∀ (p q : List Cell) (ws : List W) (i k : Nat) (rest : List W), ws.drop i = glue (wsS a) ++ rest → (∀ r, rest.head? = some r → r = wRP) → k + K ≤ 20 → FW (runF G cM cW m i_Words_take_steps [.ob p.length] (p ++ wO ws i k :: q)) fun d cs => d = .tup (dsS a) ∧ ∃ r, cs = p ++ wO ws (i + (glue (wsS a)).length : Nat) k :: (q ++ r)
theorem Pl.hd (p : Pl) : p.ws.head? ≠ some wRP := by cases p <;> simp [Pl.ws]
theorem St.hd (s : St) : s.ws.head? ≠ some wRP := by
  cases s with
  | pl p => unfold St.ws; exact p.hd
  | iff t a b => unfold St.ws; simp
  | rep k a => unfold St.ws; simp
theorem glue_hd {a : List St} (h : a ≠ []) (rest : List W) : ∃ w r, glue (wsS a) ++ rest = w :: r ∧ w ≠ wRP := by
  cases a with
  | nil => exact absurd rfl h
  | cons s a =>
    have h1 := s.hd
    have h2 := s.ne
    unfold wsS glue
    cases e : s.ws with
    | nil => exact absurd e h2
    | cons w r => exact ⟨w, r ++ ((List.map (fun y => wSEMI :: y) (wsS a)).flatten ++ rest), by simp, fun e2 => h1 (by rw [e, e2]; rfl)⟩
theorem tblock_ok {K : Nat} (hK : StepsOk K) (a : List St) (hd : depS a ≤ K) (ho : okSs a) (hl : (glue (wsS a)).length ≤ 1000) (m : Nat) (hm : 3 * K + 7 ≤ m) (p q : List Cell) (ws : List W) (i k : Nat) (rest : List W) (h : ws.drop i = wLP :: (glue (wsS a) ++ wRP :: rest)) (hk : k + 1 + K ≤ 20) : FW (runF G cM cW m i_Words_take_block [.ob p.length] (p ++ wO ws i k :: q)) fun d cs => d = .tup (dsS a) ∧ ∃ r, cs = p ++ wO ws (i + ((glue (wsS a)).length + 2) : Nat) k :: (q ++ r) := by
  obtain ⟨m, rfl⟩ : ∃ m', m = m' + 4 := ⟨m - 4, by omega⟩
  rw [r_Words_take_block _ _ _ rfl, FW_end]
  have hr := here_ok (m + 2) p q ws i k
  rw [cur_drop h] at hr
  simp at hr
  have tk := take_ok (m + 1) p q ws i k wLP (get_drop h)
  have h1 : ws.drop (i + 1) = glue (wsS a) ++ wRP :: rest := next_drop h
  have hw1 : wLP = [40] := rfl
  have hw2 : wRP = [41] := rfl
  simp [-List.lookup_eq_none_iff, b_Words_take_block, b_Words_take_block_0, MW_call, s_Words_here, permL]
  refine hr.imp fun d cs ⟨e1, e2⟩ => ?_
  subst e1; subst e2
  have hk2 : (k : Int) < 20 := by omega
  simp [-List.lookup_eq_none_iff, hw1, hk2, MW_call, s_Words_take, permL]
  refine tk.imp fun d cs ⟨e1, e2⟩ => ?_
  subst e1; subst e2
  simp [-List.lookup_eq_none_iff, b_Words_take_block_1]
  have hr1 := here_ok (m + 2) p q ws (i + 1) ((k : Int) + 1)
  have hdrop : ws.drop (i + 1 + (glue (wsS a)).length) = wRP :: rest := app_drop h1
  have fin : ∀ (d : D) (r : List Cell), d = .tup (dsS a) → SW (b_Words_take_block_3 (runF G cM cW (m + 3))) ⟨[some (.ob p.length), some d], p ++ wO ws ((i + 1 + (glue (wsS a)).length : Nat) : Int) ((k : Int) + 1) :: (q ++ r)⟩ (fun s' =>
                SW (b_Words_take_block_4 (runF G cM cW (m + 3))) s'
                  (fun s' =>
                    SW (b_Words_take_block_5 (runF G cM cW (m + 3))) s' (fun s' => False) fun d s' =>
                      d = D.tup (dsS a) ∧ ∃ r, s'.cs = p ++ wO ws ((i : Int) + (((glue (wsS a)).length : Int) + 2)) k :: (q ++ r))
                  fun d s' =>
                  d = D.tup (dsS a) ∧ ∃ r, s'.cs = p ++ wO ws ((i : Int) + (((glue (wsS a)).length : Int) + 2)) k :: (q ++ r))
              fun d s' =>
              d = D.tup (dsS a) ∧ ∃ r, s'.cs = p ++ wO ws ((i : Int) + (((glue (wsS a)).length : Int) + 2)) k :: (q ++ r) := by
    intro d r hd
    subst hd
    have hr2 := here_ok (m + 2) p (q ++ r) ws (i + 1 + (glue (wsS a)).length) ((k : Int) + 1)
    rw [cur_drop hdrop] at hr2
    have tk2 := take_ok (m + 1) p (q ++ r) ws (i + 1 + (glue (wsS a)).length) ((k : Int) + 1) wRP (get_drop hdrop)
    obtain ⟨j, hj⟩ : ∃ j, j = i + 1 + (glue (wsS a)).length := ⟨_, rfl⟩
    have hj2 : (i : Int) + (((glue (wsS a)).length : Int) + 2) = j + 1 := by omega
    rw [← hj] at hr2 tk2 ⊢
    rw [hj2]
    simp [-List.lookup_eq_none_iff, b_Words_take_block_3, MW_call, s_Words_here, permL] at hr2 ⊢
    refine hr2.imp fun d cs ⟨e1, e2⟩ => ?_
    subst e1; subst e2
    simp [-List.lookup_eq_none_iff, hw2, MW_call, s_Words_take, permL]
    refine tk2.imp fun d cs ⟨e1, e2⟩ => ?_
    subst e1; subst e2
    simp [-List.lookup_eq_none_iff, b_Words_take_block_4, b_Words_take_block_5]
  rw [b_Words_take_block_2]
  by_cases ha : a = []
  · subst ha
    rw [cur_drop h1] at hr1
    simp [wsS, glue] at hr1
    simp [-List.lookup_eq_none_iff, MW_call, s_Words_here, permL]
    refine hr1.imp fun d cs ⟨e1, e2⟩ => ?_
    subst e1; subst e2
    simp [-List.lookup_eq_none_iff, hw2]
    have := fin (.tup []) [] rfl
    simpa [wsS, glue] using this
  · obtain ⟨w, r0, e3, e4⟩ := glue_hd ha (wRP :: rest)
    rw [cur_drop (h1.trans e3)] at hr1
    have st := hK a hd ho ha hl (m + 3) (by omega) p q ws (i + 1) (k + 1) (wRP :: rest) h1 (fun r hr => by simpa using hr.symm) (by omega)
    have e4' : w ≠ [41] := e4
    simp [-List.lookup_eq_none_iff, MW_call, s_Words_here, permL] at hr1 ⊢
    refine hr1.imp fun d cs ⟨e1, e2⟩ => ?_
    subst e1; subst e2
    simp [-List.lookup_eq_none_iff, e4', MW_call, s_Words_take_steps, permL] at st ⊢
    refine st.imp fun d cs ⟨e1, r, e2⟩ => ?_
    subst e1; subst e2
    have := fin _ r rfl
    simpa using this
end Law

set_option maxHeartbeats 1000000
namespace Law
open PySem PySem.Spec PyProof.Rows U
def TStepOk (K : Nat) : Prop := ∀ s : St, s.dep ≤ K → s.ok → s.ws.length ≤ 1000 → ∀ m, 3 * K + 5 ≤ m → ∀ (p q : List Cell) (ws : List W) (i k : Nat) (rest : List W), ws.drop i = s.ws ++ rest → tStop rest → k + K ≤ 20 → FW (runF G cM cW m i_Words_take_step [.ob p.length] (p ++ wO ws i k :: q)) fun d cs => d = s.d ∧ ∃ r, cs = p ++ wO ws (i + s.ws.length : Nat) k :: (q ++ r)
theorem step0 : TStepOk 0 := by
  intro s hd ho hl m hm p q ws i k rest h hs hk
  obtain ⟨m, rfl⟩ : ∃ m', m = m' + 5 := ⟨m - 5, by omega⟩
  cases s with
  | pl t => exact tplain_ok m p q ws i k t rest (by simpa [St.ws] using h) (by simpa [St.ok] using ho) hs
  | iff t a b => simp [St.dep] at hd
  | rep v a => simp [St.dep] at hd
theorem stepS {K : Nat} (hK : StepsOk K) : TStepOk (K + 1) := by
  intro s hd ho hl m hm p q ws i k rest h hs hk
  cases s with
  | pl t =>
    obtain ⟨m, rfl⟩ : ∃ m', m = m' + 5 := ⟨m - 5, by omega⟩
    exact tplain_ok m p q ws i k t rest (by simpa [St.ws] using h) (by simpa [St.ok] using ho) hs
  | rep v a =>
    obtain ⟨m, rfl⟩ : ∃ m', m = m' + 5 := ⟨m - 5, by omega⟩
    rw [r_Words_take_step _ _ _ rfl, FW_end]
    unfold St.dep at hd
    unfold St.ok at ho
    have e0 : (St.rep v a).ws = wREP :: strOfInt v :: wLP :: (glue (wsS a) ++ [wRP]) := by rw [St.ws]
    rw [e0] at hl h ⊢
    have hl1 : (glue (wsS a)).length ≤ 1000 := by simp at hl; omega
    have hr := here_ok (m + 3) p q ws i k
    rw [cur_drop h] at hr
    simp at hr
    have tk := take_ok (m + 2) p q ws i k wREP (get_drop h)
    have h1 : ws.drop (i + 1) = strOfInt v :: (wLP :: (glue (wsS a) ++ [wRP]) ++ rest) := next_drop h
    have tn := take_number_ok (m + 1) p q ws (i + 1) k v 1 4 (by omega) (by omega) ho.1.1 ho.1.2 (get_drop h1)
    have h2 : ws.drop (i + 1 + 1) = wLP :: (glue (wsS a) ++ wRP :: rest) := by have := next_drop h1; simpa using this
    have tb := tblock_ok hK a (by omega) ho.2 hl1 (m + 4) (by omega) p q ws (i + 1 + 1) k rest h2 (by omega)
    simp [-List.lookup_eq_none_iff, b_Words_take_step, b_Words_take_step_0, MW_call, s_Words_here, permL]
    refine hr.imp fun d cs ⟨e1, e2⟩ => ?_
    subst e1; subst e2
    simp [-List.lookup_eq_none_iff, b_Words_take_step_1, b_Words_take_step_2, b_Words_take_step_3, b_Words_take_step_4, b_Words_take_step_5, b_Words_take_step_6, wREP, b_Words_take_step_6a_0, MW_call, s_Words_take, permL]
    refine tk.imp fun d cs ⟨e1, e2⟩ => ?_
    subst e1; subst e2
    simp [-List.lookup_eq_none_iff, b_Words_take_step_6a_1, MW_call, s_Words_take_number, permL]
    refine tn.imp fun d cs ⟨e1, e2⟩ => ?_
    subst e1; subst e2
    simp [-List.lookup_eq_none_iff, MW_call, s_Words_take_block, permL]
    refine tb.imp fun d cs ⟨e1, r, e2⟩ => ?_
    subst e1; subst e2
    have e9 : (i : Int) + 1 + 1 + (((glue (wsS a)).length : Int) + 2) = i + ((glue (wsS a)).length + 1 + 1 + 1 + 1) := by omega
    simp [St.d, wREP, e9]
  | iff t a b =>
    obtain ⟨m, rfl⟩ : ∃ m', m = m' + 6 := ⟨m - 6, by omega⟩
    rw [r_Words_take_step _ _ _ rfl, FW_end]
    unfold St.dep at hd
    unfold St.ok at ho
    have e0 : (St.iff t a b).ws = wIF :: (t.ws ++ wLP :: (glue (wsS a) ++ wRP :: wELSE :: wLP :: (glue (wsS b) ++ [wRP]))) := by rw [St.ws]
    rw [e0] at hl h ⊢
    have hl1 : (glue (wsS a)).length ≤ 1000 := by simp at hl; omega
    have hl2 : (glue (wsS b)).length ≤ 1000 := by simp at hl; omega
    have hr := here_ok (m + 4) p q ws i k
    rw [cur_drop h] at hr
    simp at hr
    have tk := take_ok (m + 3) p q ws i k wIF (get_drop h)
    have h1 : ws.drop (i + 1) = t.ws ++ wLP :: (glue (wsS a) ++ wRP :: wELSE :: wLP :: (glue (wsS b) ++ wRP :: rest)) := by have := next_drop h; simpa using this
    have tt := take_test_ok m p q ws (i + 1) k t _ h1 ho.1 (gStop_lp _)
    obtain ⟨j, hj⟩ : ∃ j, j = i + 1 + t.ws.length := ⟨_, rfl⟩
    have h2 : ws.drop j = wLP :: (glue (wsS a) ++ wRP :: wELSE :: wLP :: (glue (wsS b) ++ wRP :: rest)) := by rw [hj]; exact app_drop h1
    have tb := fun q => tblock_ok hK a (by omega) ho.2.1 hl1 (m + 5) (by omega) p q ws j k _ h2 (by omega)
    obtain ⟨j2, hj2⟩ : ∃ j2, j2 = j + ((glue (wsS a)).length + 2) := ⟨_, rfl⟩
    have h3 : ws.drop j2 = wELSE :: wLP :: (glue (wsS b) ++ wRP :: rest) := by
      have := app_drop (a := wLP :: (glue (wsS a) ++ [wRP])) (rest := wELSE :: wLP :: (glue (wsS b) ++ wRP :: rest)) (by rw [h2]; simp)
      rw [hj2]; simpa [Nat.add_assoc] using this
    have hr2 := fun q => here_ok (m + 4) p q ws j2 k
    rw [cur_drop h3] at hr2
    simp at hr2
    have tk2 := fun q => take_ok (m + 3) p q ws j2 k wELSE (get_drop h3)
    have h4 : ws.drop (j2 + 1) = wLP :: (glue (wsS b) ++ wRP :: rest) := next_drop h3
    have tb2 := fun q => tblock_ok hK b (by omega) ho.2.2 hl2 (m + 5) (by omega) p q ws (j2 + 1) k _ h4 (by omega)
    rw [← hj] at tt
    rw [← hj2] at tb
    have hw : wELSE = [101, 108, 115, 101] := rfl
    simp [-List.lookup_eq_none_iff, b_Words_take_step, b_Words_take_step_0, MW_call, s_Words_here, permL]
    refine hr.imp fun d cs ⟨e1, e2⟩ => ?_
    subst e1; subst e2
    simp [-List.lookup_eq_none_iff, b_Words_take_step_1, b_Words_take_step_2, b_Words_take_step_3, b_Words_take_step_4, b_Words_take_step_5, wIF, b_Words_take_step_5a_0, MW_call, s_Words_take, permL]
    refine tk.imp fun d cs ⟨e1, e2⟩ => ?_
    subst e1; subst e2
    simp [-List.lookup_eq_none_iff, b_Words_take_step_5a_1, MW_call, s_Words_take_test, permL]
    refine tt.imp fun d cs ⟨e1, r1, e2⟩ => ?_
    subst e1; subst e2
    simp [-List.lookup_eq_none_iff, MW_call, s_Words_take_block, permL]
    refine (tb _).imp fun d cs ⟨e1, r2, e2⟩ => ?_
    subst e1; subst e2
    obtain ⟨j3, hj3⟩ : ∃ j3 : Nat, j3 = j2 + 1 + ((glue (wsS b)).length + 2) := ⟨_, rfl⟩
    have e9 : (i : Int) + ((t.ws.length : Int) + (((glue (wsS a)).length : Int) + (((glue (wsS b)).length : Int) + 1 + 1 + 1 + 1) + 1) + 1) = j3 := by omega
    rw [← hj3] at tb2
    simp only [e9]
    simp [-List.lookup_eq_none_iff, b_Words_take_step_5a_2, MW_call, s_Words_here, permL]
    refine (hr2 _).imp fun d cs ⟨e1, e2⟩ => ?_
    subst e1; subst e2
    simp [-List.lookup_eq_none_iff, hw, MW_call, s_Words_take, permL]
    refine (tk2 _).imp fun d cs ⟨e1, e2⟩ => ?_
    subst e1; subst e2
    have hown : isOwn t.d = false := by cases t <;> rfl
    have hfrz : frzD t.d = t.d := by cases t <;> rfl
    simp [-List.lookup_eq_none_iff, hown, hfrz, b_Words_take_step_5a_3, MW_call, s_Words_take_block, permL]
    have tb3 := tb2 (q ++ (r1 ++ r2))
    simp at tb3
    refine tb3.imp fun d cs ⟨e1, r, e2⟩ => ?_
    subst e1; subst e2
    simp [St.d, wIF, hfrz]
end Law

set_option maxHeartbeats 1000000
namespace Law
open PySem PySem.Spec PyProof.Rows U
def tlS (a : List St) : List W := ((wsS a).map fun x => wSEMI :: x).flatten
theorem tlS_cons (s : St) (a : List St) : tlS (s :: a) = wSEMI :: (s.ws ++ tlS a) := by simp [tlS, wsS]
theorem tlS_app (a b : List St) : tlS (a ++ b) = tlS a ++ tlS b := by simp [tlS, wsS_map]
theorem glue_cons (s : St) (a : List St) : glue (wsS (s :: a)) = s.ws ++ tlS a := rfl
theorem tlS_len : ∀ a : List St, a.length ≤ (tlS a).length
  | [] => by simp [tlS]
  | s :: a => by
    have := tlS_len a
    rw [tlS_cons]; simp; omega
theorem tlS_mem : ∀ {a : List St} (s : St), s ∈ a → s.ws.length ≤ (tlS a).length
  | x :: a, s, h => by
    rw [tlS_cons]
    rcases List.mem_cons.mp h with rfl | h
    · simp; omega
    · have := tlS_mem s h
      simp; omega
theorem tStop_tl {rest : List W} (h : ∀ r, rest.head? = some r → r = wRP) : ∀ a : List St, tStop (tlS a ++ rest)
  | [] => fun r hr => Or.inr (h r hr)
  | s :: a => fun r hr => by
    rw [tlS_cons] at hr
    exact Or.inl (by simpa using hr.symm)
theorem steps_loop {K : Nat} (hK : TStepOk K) (m : Nat) (hm : 3 * K + 5 ≤ m) (hm2 : 5 ≤ m) (p q : List Cell) (ws : List W) (i k : Nat) (s0 : St) (a : List St) (rest : List W) (h : ws.drop i = tlS a ++ rest) (hd : depS a ≤ K) (ho : okSs a) (hl : (tlS a).length ≤ 1000) (hs : ∀ r, rest.head? = some r → r = wRP) (hk : k + K ≤ 20) (Q : D → S → Prop)
    (hQ : ∀ r s, s.cs = p ++ wO ws (i + (tlS a).length : Nat) k :: (q ++ r) → Q (.tup (s0.d :: a.map St.d)) s) :
    SW (b_Words_take_steps_1 (runF G cM cW m)) ⟨[some (.ob p.length), some (.ob (p.length + (q.length + 1)))], p ++ wO ws i k :: (q ++ [.L [s0.d]])⟩ (fun s' => SW (b_Words_take_steps_2 (runF G cM cW m)) s' (fun _ => False) Q) Q := by
  obtain ⟨m, rfl⟩ : ∃ m', m = m' + 3 := ⟨m - 3, by omega⟩
  rw [b_Words_take_steps_1]
  obtain ⟨I, hI⟩ : ∃ I : Nat → S → Prop, I = (fun n s => ∃ (g1 g2 : List St) (r : List Cell), a = g1 ++ g2 ∧ n = g2.length ∧ s = ⟨[some (.ob p.length), some (.ob (p.length + (q.length + 1)))], p ++ wO ws (i + (tlS g1).length : Nat) k :: (q ++ .L (s0.d :: g1.map St.d) :: r)⟩) := ⟨_, rfl⟩
  refine SW_while I ?_ _ a.length _ (by have := tlS_len a; unfold cW; omega) (by rw [hI]; exact ⟨[], a, [], rfl, rfl, by simp [tlS, wsS]⟩)
  intro n s hi
  rw [hI] at hi
  obtain ⟨g1, g2, r, e1, e2, rfl⟩ := hi
  have hd0 : ws.drop (i + (tlS g1).length) = tlS g2 ++ rest := app_drop (by rw [h, e1, tlS_app, List.append_assoc])
  obtain ⟨j, hj⟩ : ∃ j, j = i + (tlS g1).length := ⟨_, rfl⟩
  have hjl : ∀ x, i + (tlS (g1 ++ x)).length = j + (tlS x).length := fun x => by rw [tlS_app, List.length_append, ← Nat.add_assoc, ← hj]
  rw [← hj] at hd0 ⊢
  have hr := here_ok (m + 2) p (q ++ .L (s0.d :: g1.map St.d) :: r) ws j k
  rw [cur_drop hd0] at hr
  cases g2 with
  | nil =>
    rw [List.append_nil] at e1
    subst e1
    have hQ' := hQ (.L (s0.d :: a.map St.d) :: r)
    rw [← hj] at hQ'
    simp [-List.lookup_eq_none_iff, MW_call, s_Words_here, permL]
    refine hr.imp fun d cs ⟨e1, e2⟩ => ?_
    subst e1; subst e2
    cases rest with
    | nil =>
      simp [tlS, wsS, MW_eqNS, b_Words_take_steps_2]
      exact hQ' _ rfl
    | cons r0 rest =>
      have e0 : r0 = [41] := hs r0 rfl
      subst e0
      simp [tlS, wsS, b_Words_take_steps_2]; exact hQ' _ rfl
  | cons h1 g2 =>
    rw [tlS_cons] at hd0 hr
    have tk := take_ok (m + 1) p (q ++ .L (s0.d :: g1.map St.d) :: r) ws j k wSEMI (get_drop hd0)
    have hmem : h1 ∈ a := by rw [e1]; simp
    have hd2 : ws.drop (j + 1) = h1.ws ++ (tlS g2 ++ rest) := by have := next_drop hd0; simpa using this
    have tg := hK h1 (Nat.le_trans (depS_mem h1 hmem) hd) (okSs_mem ho h1 hmem) (Nat.le_trans (tlS_mem h1 hmem) hl) (m + 3) hm p (q ++ .L (s0.d :: g1.map St.d) :: r) ws (j + 1) k _ hd2 (tStop_tl hs g2) hk
    have hl1 : g1.length ≤ 1000 := by
      have := tlS_len a
      rw [e1, List.length_append] at this
      rw [e1] at hl
      omega
    have hw : wSEMI = [59] := rfl
    simp [-List.lookup_eq_none_iff, MW_call, s_Words_here, permL] at hr ⊢
    refine hr.imp fun d cs ⟨e1', e2'⟩ => ?_
    subst e1'; subst e2'
    simp [-List.lookup_eq_none_iff, hw, b_Words_take_steps_1_0, b_Words_take_steps_1_1, MW_call, s_Words_take, s_Words_take_step, permL]
    refine ⟨g2.length, by rw [e2]; rfl, ?_⟩
    refine tk.imp fun d cs ⟨e1', e2'⟩ => ?_
    subst e1'; subst e2'
    simp [-List.lookup_eq_none_iff, s_Words_take_step]
    refine tg.imp fun d cs ⟨e1', r2, e2'⟩ => ?_
    subst e1'; subst e2'
    simp [-List.lookup_eq_none_iff]
    refine ⟨Nat.lt_of_lt_of_le (show _ < 1000000 by omega) (lineM (Nat.le_refl _)), ?_⟩
    rw [hI]
    refine ⟨g1 ++ [h1], g2, r ++ r2, by rw [e1]; simp, rfl, ?_⟩
    rw [hjl, tlS_cons]
    have e9 : (j : Int) + 1 + h1.ws.length = j + (h1.ws.length + 1) := by omega
    simp [tlS, wsS, e9]
theorem steps_of {K : Nat} (hK : TStepOk K) : StepsOk K := by
  intro a hd ho hne hl m hm p q ws i k rest h hs hk
  obtain ⟨m, rfl⟩ : ∃ m', m = m' + 1 := ⟨m - 1, by omega⟩
  rw [r_Words_take_steps _ _ _ rfl, FW_end]
  cases a with
  | nil => exact absurd rfl hne
  | cons s0 a =>
    rw [glue_cons] at h hl ⊢
    unfold depS at hd
    unfold okSs at ho
    have hl2 : s0.ws.length + (tlS a).length ≤ 1000 := by simpa using hl
    have h1 : ws.drop i = s0.ws ++ (tlS a ++ rest) := by rw [h, List.append_assoc]
    have t1 := hK s0 (by omega) ho.1 (by omega) m (by omega) p q ws i k _ h1 (tStop_tl hs a) hk
    simp [-List.lookup_eq_none_iff, b_Words_take_steps, b_Words_take_steps_0, MW_call, s_Words_take_step, permL]
    refine t1.imp fun d cs ⟨e1, c, e2⟩ => ?_
    subst e1; subst e2
    simp [-List.lookup_eq_none_iff]
    have hd1 := app_drop h1
    have := steps_loop hK m (by omega) (by omega) p (q ++ c) ws (i + s0.ws.length) k s0 a rest hd1 (by omega) ho.2 (by omega) hs hk (fun d s' => d = D.tup (dsS (s0 :: a)) ∧ ∃ r, s'.cs = p ++ wO ws ((i : Int) + ((s0.ws.length : Int) + ((tlS a).length : Int))) k :: (q ++ r)) (fun r s h => ⟨by rw [dsS_map]; rfl, c ++ r, by rw [h]; simp [Int.add_assoc]⟩)
    simpa using this
theorem tall : ∀ K, StepsOk K
  | 0 => steps_of step0
  | K + 1 => steps_of (stepS (tall K))
end Law

set_option maxHeartbeats 1000000
namespace Law
open PySem PySem.Spec PyProof.Rows U
theorem words_gT {a : List St} (ho : okSs a) : ∀ w ∈ glue (wsS a), gT w := glue_sub fun x hx => wsS_gW a ho x hx
theorem joinN_len : ∀ us : List W, (∀ u ∈ us, u.length ≤ 10) → (joinN [32] us).length ≤ 11 * us.length
  | [], _ => by simp [joinN]
  | [u], h => by have := h u (by simp); simp [joinN]; omega
  | u :: v :: r, h => by
    have h1 := h u (by simp)
    have h2 := joinN_len (v :: r) (fun x hx => h x (by simp [hx]))
    simp [joinN] at h2 ⊢; omega
theorem init_ok (m : Nat) (p : List Cell) (z : List Nat) (hz : z.length + 2 ≤ sizeLine) : FW (runF G cM cW (m + 1) i_Words___init__ [.ob p.length, .str z] (p ++ [.O 0 []])) fun d cs => d = .non ∧ cs = p ++ [wO (splitN 32 z) 0 0] := by
  rw [r_Words___init__ _ _ _ rfl, FW_end]
  have g0 : (p ++ [Cell.O 0 []])[p.length]? = some (Cell.O 0 []) := by simp
  simp [-List.lookup_eq_none_iff, b_Words___init__, b_Words___init___0, b_Words___init___1, b_Words___init___2, hz, putD]
  rfl
theorem read_ok (a : List St) (ho : okSs a) (hd : depS a ≤ 20) (hl : (glue (wsS a)).length ≤ 1000) (m : Nat) (hm : 3 * depS a + 7 ≤ m) (cs0 : List Cell) :
    FW (runF G cM cW m i_read_steps [.str (joinN [32] (glue (wsS a)))] cs0) fun d cs => d = .tup (dsS a) ∧ ∃ g, cs = cs0 ++ g := by
  obtain ⟨m, rfl⟩ : ∃ m', m = m' + 4 := ⟨m - 4, by omega⟩
  rw [r_read_steps _ _ _ rfl, FW_end]
  have hg := words_gT ho
  by_cases ha : a = []
  · subst ha
    simp [-List.lookup_eq_none_iff, b_read_steps, b_read_steps_0, b_read_steps_1, b_read_steps_1a_0, wsS, glue, joinN, dsS]
  · obtain ⟨ws, hws⟩ : ∃ ws, ws = glue (wsS a) := ⟨_, rfl⟩
    have hne : ws ≠ [] := by rw [hws]; obtain ⟨w, r, e, _⟩ := glue_hd ha []; rw [List.append_nil] at e; rw [e]; simp
    rw [← hws] at hg hl ⊢
    have hj : (joinN [32] ws).length ≤ 11000 := by
      have := joinN_len ws (fun u hu => by have := hg u hu; unfold gT at this; omega)
      omega
    have hsp : splitN 32 (joinN [32] ws) = ws := splitN_join 32 ws hne (fun w hw => by
      exact fun h => ((hg w hw).2.2 32 h).2 rfl)
    obtain ⟨z, hz⟩ : ∃ z, z = joinN [32] ws := ⟨_, rfl⟩
    rw [← hz] at hj hsp ⊢
    have hz0 : z ≠ [] := fun e => by
      rw [e] at hsp
      have h1 : ([] : W) ∈ ws := by rw [← hsp]; simp [splitN]
      have := (hg [] h1).1
      simp at this
    have hj2 : z.length + 2 ≤ sizeLine := lineM (by omega)
    simp [-List.lookup_eq_none_iff, b_read_steps, b_read_steps_0, b_read_steps_1, hz0, b_read_steps_2]
    simp [MW_call, s_Words___init__, permL]
    refine (init_ok (m + 2) cs0 z hj2).imp fun d cs ⟨e1, e2⟩ => ?_
    subst e1; subst e2
    rw [hsp]
    have st := tall (depS a) a (Nat.le_refl _) ho ha (by rw [← hws]; exact hl) (m + 3) (by omega) cs0 [] ws 0 0 [] (by rw [List.drop_zero, List.append_nil, hws]) (by intro r hr; simp at hr) (by omega)
    rw [← hws] at st
    have hr := fun q => here_ok (m + 2) cs0 q ws ws.length 0
    have ec : cur ws ws.length = .non := by unfold cur; simp
    rw [ec] at hr
    simp at st
    simp [-List.lookup_eq_none_iff, b_read_steps_3, MW_call, s_Words_take_steps, permL]
    refine st.imp fun d cs ⟨e1, g, e2⟩ => ?_
    subst e1; subst e2
    simp [-List.lookup_eq_none_iff, b_read_steps_4, MW_call, s_Words_here, permL]
    refine (hr g).imp fun d cs ⟨e1, e2⟩ => ?_
    subst e1; subst e2
    simp [b_read_steps_5]
end Law

set_option maxHeartbeats 1000000
namespace Law
open PySem PySem.Spec PyProof.Rows U
/-- plain data, not too deep, no list too long -/
def SmD (d : D) (n : Nat) : Prop := okD d = true ∧ depD d ≤ n ∧ lenOk d = true
def SmL (ds : List D) (n : Nat) : Prop := okL ds = true ∧ depL ds ≤ n ∧ lenL ds = true
theorem SmL.nil (n : Nat) : SmL [] n := ⟨by simp [okL], by simp [depL], by simp [lenL]⟩
theorem SmL.cons {d : D} {ds : List D} {n : Nat} (h : SmD d n) (k : SmL ds n) : SmL (d :: ds) n := ⟨by simp [okL, h.1, k.1], by simp only [depL]; exact Nat.max_le.mpr ⟨h.2.1, k.2.1⟩, by simp [lenL, h.2.2, k.2.2]⟩
theorem SmD.mono {d : D} {n m : Nat} (h : SmD d n) (k : n ≤ m) : SmD d m := ⟨h.1, Nat.le_trans h.2.1 k, h.2.2⟩
theorem SmL.mono {d : List D} {n m : Nat} (h : SmL d n) (k : n ≤ m) : SmL d m := ⟨h.1, Nat.le_trans h.2.1 k, h.2.2⟩
theorem SmD.tup {ds : List D} {n : Nat} (h : SmL ds n) (k : ds.length ≤ 1000) : SmD (.tup ds) (n + 1) := ⟨by simp [okD, h.1], by simp [depD]; exact h.2.1, by simp [lenOk, h.2.2]; exact lineN k⟩
theorem SmD.lst {ds : List D} {n : Nat} (h : SmL ds n) (k : ds.length ≤ 1000) : SmD (.lst ds) (n + 1) := ⟨by simp [okD, h.1], by simp [depD]; exact h.2.1, by simp [lenOk, h.2.2]; exact lineN k⟩
theorem SmD.str {w : W} (h : okS w = true) (n : Nat) : SmD (.str w) n := ⟨by simp [okD, h], by simp [depD], by simp [lenOk]⟩
theorem SmD.int (i : Int) (n : Nat) : SmD (.int i) n := ⟨by simp [okD], by simp [depD], by simp [lenOk]⟩
theorem SmL.strs : ∀ {g : List W} (n : Nat), (∀ w ∈ g, okS w = true) → SmL (g.map .str) n
  | [], n, _ => SmL.nil n
  | w :: g, n, h => SmL.cons (SmD.str (h w (by simp)) n) (SmL.strs n fun u hu => h u (by simp [hu]))
theorem SmD.grp {g : List W} (h : grOk g) (n : Nat) : SmD (grp g) (n + 1) := SmD.tup (SmL.strs n fun w hw => (h.2.1 w hw).ok) (by have := h.1; simp; omega)
theorem SmL.grps : ∀ {gs : List (List W)} (n : Nat), (∀ g ∈ gs, grOk g) → SmL (gs.map Law.grp) (n + 1)
  | [], n, _ => SmL.nil _
  | g :: gs, n, h => SmL.cons (SmD.grp (h g (by simp)) n) (SmL.grps n fun u hu => h u (by simp [hu]))
theorem Te.sm {t : Te} (h : t.ok) : SmD t.d 2 := by
  cases t with
  | whole => exact SmD.tup (SmL.cons (SmD.str (by decide) 1) (SmL.nil 1)) (by simp)
  | spans g a => exact SmD.tup (SmL.cons (SmD.str (by decide) 1) (SmL.cons (SmD.grp h.1 0) (SmL.cons (SmD.str h.2.ok 1) (SmL.nil 1)))) (by simp)
  | rank g a => exact SmD.tup (SmL.cons (SmD.str (by decide) 1) (SmL.cons (SmD.grp h.1 0) (SmL.cons (SmD.int _ 1) (SmL.nil 1)))) (by simp)
theorem Pl.sm {t : Pl} (h : t.ok) : SmD t.d 3 := by
  have c := @SmL.cons
  have n := SmL.nil 2
  cases t with
  | del a => exact SmD.tup (c (SmD.str (by decide) 2) (c (SmD.str h.ok 2) n)) (by simp)
  | con a => exact SmD.tup (c (SmD.str (by decide) 2) (c (SmD.str h.ok 2) n)) (by simp)
  | top a => exact SmD.tup (c (SmD.str (by decide) 2) (c (SmD.str h.ok 2) n)) (by simp)
  | use a => exact SmD.tup (c (SmD.str (by decide) 2) (c (SmD.str (gP.b h).ok 2) n)) (by simp)
  | ren a b => exact SmD.tup (c (SmD.str (by decide) 2) (c (SmD.str h.1.ok 2) (c (SmD.str h.2.ok 2) n))) (by simp)
  | dual => exact SmD.tup (c (SmD.str (by decide) 2) n) (by simp)
  | cut => exact SmD.tup (c (SmD.str (by decide) 2) n) (by simp)
  | ext a g => exact SmD.tup (c (SmD.str (by decide) 2) (c (SmD.str h.1.ok 2) (c (SmD.grp h.2 1) n))) (by simp)
  | tru g => exact SmD.tup (c (SmD.str (by decide) 2) (c (SmD.grp h 1) n)) (by simp)
  | uni g gs => exact SmD.tup (c (SmD.str (by decide) 2) (c (SmD.tup (c (SmD.grp h.1 0) (SmL.grps 0 h.2.2)) (by have := h.2.1; simp; omega)) n)) (by simp)
theorem glen (a : List St) : a.length ≤ (glue (wsS a)).length := by
  cases a with
  | nil => simp
  | cons s a =>
    have h1 : ∀ b : List St, b.length ≤ ((wsS b).map fun x => wSEMI :: x).flatten.length := fun b => by
      induction b with
      | nil => simp
      | cons x b ih => simp [wsS] at ih ⊢; omega
    have h2 := h1 a
    have h3 : 1 ≤ s.ws.length := List.length_pos_iff.mpr s.ne
    simp [wsS, glue] at h2 ⊢; omega
mutual
theorem St.sm : ∀ {s : St}, s.ok → s.ws.length ≤ 1000 → SmD s.d (2 * s.dep + 3)
  | .pl t, h, _ => by unfold St.ok at h; unfold St.d St.dep; exact Pl.sm h
  | .iff t a b, h, l => by
    unfold St.ok at h
    have e : (St.iff t a b).ws = wIF :: (t.ws ++ wLP :: (glue (wsS a) ++ wRP :: wELSE :: wLP :: (glue (wsS b) ++ [wRP]))) := by rw [St.ws]
    rw [e] at l
    simp at l
    have ha := dsS_sm (a := a) h.2.1 (by omega)
    have hb := dsS_sm (a := b) h.2.2 (by omega)
    have la := glen a
    have lb := glen b
    have e2 : (dsS a).length = a.length := by rw [dsS_map]; simp
    have e3 : (dsS b).length = b.length := by rw [dsS_map]; simp
    unfold St.d St.dep
    refine SmD.mono (SmD.tup (n := 2 * max (depS a) (depS b) + 4) (SmL.cons (SmD.str (by decide) _) (SmL.cons ((Te.sm h.1).mono (by omega)) (SmL.cons ((SmD.tup ha (by omega)).mono (by omega)) (SmL.cons ((SmD.tup hb (by omega)).mono (by omega)) (SmL.nil _))))) (by simp)) (by omega)
  | .rep k a, h, l => by
    unfold St.ok at h
    have e : (St.rep k a).ws = wREP :: strOfInt k :: wLP :: (glue (wsS a) ++ [wRP]) := by rw [St.ws]
    rw [e] at l
    simp at l
    have ha := dsS_sm (a := a) h.2 (by omega)
    have la := glen a
    have e2 : (dsS a).length = a.length := by rw [dsS_map]; simp
    unfold St.d St.dep
    refine SmD.mono (SmD.tup (n := 2 * depS a + 4) (SmL.cons (SmD.str (by decide) _) (SmL.cons (SmD.int _ _) (SmL.cons ((SmD.tup ha (by omega)).mono (by omega)) (SmL.nil _)))) (by simp)) (by omega)
theorem dsS_sm : ∀ {a : List St}, okSs a → (glue (wsS a)).length ≤ 1000 → SmL (dsS a) (2 * depS a + 3)
  | [], _, _ => by unfold dsS; exact SmL.nil _
  | s :: a, h, l => by
    unfold okSs at h
    have l1 : s.ws.length ≤ 1000 := Nat.le_trans (by simp [wsS, glue]) l
    have l2 : (glue (wsS a)).length ≤ 1000 := by
      cases a with
      | nil => simp [wsS, glue]
      | cons x a => simp [wsS, glue] at l ⊢; omega
    unfold dsS depS
    exact SmL.cons ((St.sm h.1 l1).mono (by omega)) ((dsS_sm h.2 l2).mono (by omega))
end
end Law

set_option maxHeartbeats 2000000
namespace Law
open PySem PySem.Spec PyProof.Rows U
theorem joinN_ok : ∀ {ws : List W}, (∀ w ∈ ws, gT w) → okS (joinN [32] ws) = true
  | [], _ => by decide
  | [p], h => by simpa [joinN] using (h p (by simp)).ok
  | p :: q :: r, h => by
    have h1 := (h p (by simp)).ok
    have h2 := joinN_ok (ws := q :: r) fun w hw => h w (List.mem_cons_of_mem _ hw)
    unfold okS at h1 h2 ⊢
    simp only [joinN, List.all_append, h1, h2]
    decide
theorem same2 (n : Nat) (a : List St) (ho : okSs a) (hl : (glue (wsS a)).length ≤ 1000) (hd : depS a ≤ 5) (cs : List Cell) : FW (runF G cM cW (n + 20) i_lsame [.lst [.tup (dsS a), .tup (dsS a)], .lst [.tup (dsS a), .tup (dsS a)]] cs) fun r cs' => r = .bl true ∧ cs' = cs := by
  have h1 := SmD.tup (dsS_sm ho hl) (by rw [dsS_map, List.length_map]; exact Nat.le_trans (glen a) hl)
  have h2 := SmD.lst (SmL.cons h1 (SmL.cons h1 (SmL.nil _))) (by simp)
  exact same_refl (n + 20) _ cs h2.1 (by have := h2.2.1; omega) (by have := h2.2.1; omega) h2.2.2
/-- the turn's end -/
theorem turn_end (ns : List Int) (o2 o3 o5 : Option D) (a : List St) (ha : Gd a 2 500) (cs : List Cell) (N : S → Prop) (hN : ∀ o5 cs', (∃ g, cs' = cs ++ g) → N ⟨[some (.scr ns), some (.ob 0), o2, o3, some (.tup (dsS a)), o5, none, none, none], cs'⟩) (R : D → S → Prop) :
    SW (sSeq [b_law_1_2 (runF G cM cW 89), b_law_1_3 (runF G cM cW 89), b_law_1_4 (runF G cM cW 89)]) ⟨[some (.scr ns), some (.ob 0), o2, o3, some (.tup (dsS a)), o5, none, none, none], cs⟩ N R := by
  have h2s : 2 ≤ sizeLine := lineN (by omega)
  have hgl := Nat.le_trans (glue_wl a) ha.2.2.1
  have hd := ha.2.1
  have lt := fun cs => ltext_ok a (by omega) ha.1 (by omega) 89 (by omega) cs
  have pt := fun cs => text_ok a (by omega) ha.1 (by omega) 89 (by omega) cs
  have rd := fun cs => read_ok a ha.1 (by omega) (by omega) 89 (by omega) cs
  have sm := fun cs => same2 69 a ha.1 (by omega) (by omega) cs
  obtain ⟨z, hz⟩ : ∃ z, z = joinN [32] (glue (wsS a)) := ⟨_, rfl⟩
  rw [← hz] at lt pt rd
  obtain ⟨ds, hds⟩ : ∃ ds, ds = dsS a := ⟨_, rfl⟩
  rw [← hds] at lt pt rd sm hN ⊢
  clear hgl hz hds
  simp only [SW_cons, SW_nil]
  simp [b_law_1_2, MW_call, s_ltext, permL]
  refine (lt _).imp fun d cs' ⟨e1, e2⟩ => ?_
  subst e1; subst e2
  simp [b_law_1_3, MW_call, s_text_of, s_read_steps, s_read_steps_0_text, s_lsame, permL, h2s]
  refine (rd _).imp fun d cs' ⟨e1, g1, e2⟩ => ?_
  subst e1; subst e2
  refine (pt _).imp fun d cs' ⟨e1, e2⟩ => ?_
  subst e1; subst e2
  refine (rd _).imp fun d cs' ⟨e1, g2, e2⟩ => ?_
  subst e1; subst e2
  refine (sm _).imp fun d cs' ⟨e1, e2⟩ => ?_
  subst e1; subst e2
  simp [b_law_1_4, MW_call, s_text_of, s_read_steps, permL]
  refine (rd _).imp fun d cs' ⟨e1, g3, e2⟩ => ?_
  subst e1; subst e2
  refine (pt _).imp fun d cs' ⟨e1, e2⟩ => ?_
  subst e1; subst e2
  simp
  exact hN _ _ ⟨g1 ++ (g2 ++ g3), by simp⟩
def dpS : Nat → List St
  | 0 => []
  | k + 1 => [.rep 1 (dpS k)]
def tx (k : Nat) : List Nat := joinN [32] (glue (wsS (dpS k)))
theorem dp_ok : ∀ k, okSs (dpS k)
  | 0 => trivial
  | k + 1 => by unfold dpS okSs; exact ⟨by unfold St.ok; exact ⟨by decide, dp_ok k⟩, trivial⟩
end Law

set_option maxHeartbeats 2000000
namespace Law
open PySem PySem.Spec PyProof.Rows U
theorem joinN_cons (c : Nat) (w : W) (ws : List W) (h : ws ≠ []) : joinN [c] (w :: ws) = w ++ c :: joinN [c] ws := by
  cases ws with
  | nil => exact absurd rfl h
  | cons x r => rfl
theorem joinN_snoc (c : Nat) (y : W) : ∀ (ws : List W), ws ≠ [] → joinN [c] (ws ++ [y]) = joinN [c] ws ++ (c :: y)
  | [], h => absurd rfl h
  | [w], _ => rfl
  | w :: x :: r, _ => by
    have := joinN_snoc c y (x :: r) (by simp)
    rw [List.cons_append, joinN_cons c w _ (by simp), this, joinN_cons c w _ (by simp)]
    simp
theorem dp_glue (k : Nat) : glue (wsS (dpS (k + 1))) = wREP :: [49] :: wLP :: (glue (wsS (dpS k)) ++ [wRP]) := by
  show glue (wsS [.rep 1 (dpS k)]) = _
  have h : strOfInt ((1 : Nat) : Int) = [49] := by decide +kernel
  simp only [wsS, glue, St.ws, h]
  simp
theorem dp_ne (k : Nat) : glue (wsS (dpS (k + 1))) ≠ [] := by rw [dp_glue]; simp
theorem tx0 : tx 0 = [] := by decide
theorem tx1 : tx 1 = [114, 101, 112, 101, 97, 116, 32, 49, 32, 40, 32, 41] := by
  unfold tx; rw [dp_glue]; decide
theorem txS (k : Nat) : tx (k + 2) = [114, 101, 112, 101, 97, 116, 32, 49, 32, 40, 32] ++ (tx (k + 1) ++ [32]) ++ [41] := by
  unfold tx
  rw [dp_glue (k + 1), joinN_cons _ _ _ (by simp), joinN_cons _ _ _ (by simp), joinN_cons _ _ _ (by simp), joinN_snoc _ _ _ (dp_ne k)]
  have h1 : wREP = [114, 101, 112, 101, 97, 116] := rfl
  have h2 : wLP = [40] := rfl
  have h3 : wRP = [41] := rfl
  rw [h1, h2, h3]
  simp
theorem tx_ne (k : Nat) : tx (k + 1) ≠ [] := by
  cases k with
  | zero => rw [tx1]; simp
  | succ k => rw [txS]; simp
theorem tx_len : ∀ k, (tx k).length ≤ 13 * k
  | 0 => by decide
  | 1 => by rw [tx1]; decide
  | k + 2 => by rw [txS]; have := tx_len (k + 1); simp; omega
theorem dp_dep : ∀ k, depS (dpS k) = k
  | 0 => rfl
  | k + 1 => by simp [dpS, depS, St.dep, dp_dep k]
theorem dp_wl : ∀ k, (glue (wsS (dpS k))).length = 4 * k
  | 0 => rfl
  | k + 1 => by rw [dp_glue]; simp [dp_wl k]; omega
theorem dp_len (k : Nat) : (dsS (dpS k)).length ≤ 1 := by cases k <;> simp [dpS, dsS]
@[irreducible] def B30 : MS := b_law_3_0 (runF G cM cW 89)
@[irreducible] def B3 : MS := b_law_3 (runF G cM cW 89)
theorem B3_def : b_law_3 (runF G cM cW 89) = B3 := by unfold B3; rfl
theorem B3_eq : B3 = sB (mBind (mSeq [mPure (.int 20)]) range1D) (forL (setSlot 7) (sSeq [B30])) := by unfold B3 B30; rfl
theorem l4 {m : Nat} (h : m ≤ 400) : m ≤ sizeLine := lineN (by omega)
theorem dstep0 (ns : List Int) (o2 o3 o4 o7 o8 : Option D) (cs : List Cell) (q : List D) (N : S → Prop) (R : D → S → Prop)
    (hN : N ⟨[some (.scr ns), some (.ob 0), o2, o3, o4, some (.str [114, 101, 112, 101, 97, 116, 32, 49, 32, 40, 32, 41]), some (.tup [.tup [.str wREP, .int 1, .tup q]]), o7, o8], cs⟩) :
    SW B30 ⟨[some (.scr ns), some (.ob 0), o2, o3, o4, some (.str []), some (.tup q), o7, o8], cs⟩ N R := by
  have h1s : 1 ≤ sizeLine := lineN (by omega)
  have h3s : 3 ≤ sizeLine := lineN (by omega)
  have hw : wREP = [114, 101, 112, 101, 97, 116] := rfl
  rw [hw] at hN
  unfold B30
  simp [b_law_3_0, h1s, h3s]
  exact hN
theorem dstep1 (ns : List Int) (o2 o3 o4 o7 o8 : Option D) (cs : List Cell) (q : List D) (z : List Nat) (hz : z ≠ []) (hl : z.length ≤ 300) (N : S → Prop) (R : D → S → Prop)
    (hN : N ⟨[some (.scr ns), some (.ob 0), o2, o3, o4, some (.str ([114, 101, 112, 101, 97, 116, 32, 49, 32, 40, 32] ++ (z ++ [32]) ++ [41])), some (.tup [.tup [.str wREP, .int 1, .tup q]]), o7, o8], cs⟩) :
    SW B30 ⟨[some (.scr ns), some (.ob 0), o2, o3, o4, some (.str z), some (.tup q), o7, o8], cs⟩ N R := by
  have h1s : 1 ≤ sizeLine := lineN (by omega)
  have h3s : 3 ≤ sizeLine := lineN (by omega)
  have hw : wREP = [114, 101, 112, 101, 97, 116] := rfl
  rw [hw] at hN
  unfold B30
  simp [b_law_3_0, h1s, h3s, hz]
  simp at hN
  exact ⟨l4 (by omega), l4 (by omega), l4 (by omega), hN⟩
/-- the twenty nested repeats -/
theorem deep_ok (ns : List Int) (o2 o3 o4 o8 : Option D) (cs : List Cell) (N : S → Prop) (R : D → S → Prop)
    (hN : ∀ o7, N ⟨[some (.scr ns), some (.ob 0), o2, o3, o4, some (.str (tx 20)), some (.tup (dsS (dpS 20))), o7, o8], cs⟩) :
    SW B3 ⟨[some (.scr ns), some (.ob 0), o2, o3, o4, some (.str []), some (.tup []), none, o8], cs⟩ N R := by
  rw [B3_eq]
  simp [in62]
  obtain ⟨I, hI⟩ : ∃ I : List D → S → Prop, I = (fun r s => ∃ (k : Nat) (o7 : Option D), k + r.length = 20 ∧ s = ⟨[some (.scr ns), some (.ob 0), o2, o3, o4, some (.str (tx k)), some (.tup (dsS (dpS k))), o7, o8], cs⟩) := ⟨_, rfl⟩
  refine SW_for I ?_ ?_ _ _ (by rw [hI]; exact ⟨0, none, by simp [rangeL], by rw [tx0]; rfl⟩)
  · intro d r s h
    rw [hI] at h
    obtain ⟨k, o7, hk, rfl⟩ := h
    simp at hk
    have hl := tx_len k
    have e : D.tup [D.tup [D.str wREP, D.int 1, D.tup (dsS (dpS k))]] = .tup (dsS (dpS (k + 1))) := by simp [dpS, dsS, St.d]
    have hi : ∀ o7, I r ⟨[some (.scr ns), some (.ob 0), o2, o3, o4, some (.str (tx (k + 1))), some (.tup (dsS (dpS (k + 1)))), o7, o8], cs⟩ := fun o7 => by
      rw [hI]; exact ⟨k + 1, o7, by omega, rfl⟩
    rw [← e] at hi
    rw [MW_set]
    simp only [SW_cons, SW_nil, List.set]
    cases k with
    | zero =>
      rw [tx1] at hi
      rw [tx0]
      exact dstep0 ns o2 o3 o4 _ o8 cs _ _ _ (hi _)
    | succ k =>
      rw [txS] at hi
      exact dstep1 ns o2 o3 o4 _ o8 cs _ _ (tx_ne k) (by omega) _ _ (hi _)
  · intro s h
    rw [hI] at h
    obtain ⟨k, o7, hk, rfl⟩ := h
    simp at hk
    subst hk
    exact hN _
end Law

set_option maxHeartbeats 2000000
namespace Law
open PySem PySem.Spec PyProof.Rows U
/-- the last list -/
def e1 : List St := [.pl (.uni [] [])]
def e2 : List St := [.pl (.uni [] [[[97]]])]
def e3 : List St := [.pl (.tru [wCUT]), .pl (.use wCUT)]
def e4 : List St := [.pl .cut]
theorem grn : grOk [] := ⟨by decide, by simp, List.Pairwise.nil⟩
theorem gr1 {w : W} (h : gW w) : grOk [w] := ⟨by simp, fun x hx => by rw [List.mem_singleton.mp hx]; exact h, List.pairwise_singleton _ _⟩
theorem gwC : gW wCUT := ⟨by decide, by decide, by decide⟩
theorem gwA : gW [97] := ⟨by decide, by decide, by decide⟩
theorem e1_ok : okSs e1 := ⟨by unfold St.ok; exact ⟨grn, by decide, fun h hh => by cases hh⟩, trivial⟩
theorem e2_ok : okSs e2 := ⟨by unfold St.ok; exact ⟨grn, by decide, fun h hh => by rw [List.mem_singleton.mp hh]; exact gr1 gwA⟩, trivial⟩
theorem e3_ok : okSs e3 := ⟨by unfold St.ok; exact gr1 gwC, by unfold St.ok; exact ⟨by decide, by decide, by decide⟩, trivial⟩
theorem e4_ok : okSs e4 := ⟨by unfold St.ok; exact trivial, trivial⟩
theorem rd_of (a : List St) (z : List Nat) (ds : List D) (ho : okSs a) (h1 : depS a ≤ 0) (h2 : (glue (wsS a)).length ≤ 1000) (h3 : joinN [32] (glue (wsS a)) = z) (h4 : dsS a = ds) (cs : List Cell) :
    FW (runF G cM cW 89 i_read_steps [.str z] cs) fun d cs' => d = .tup ds ∧ ∃ g, cs' = cs ++ g := by
  have := read_ok a ho (by omega) h2 89 (by omega) cs
  rw [h3, h4] at this
  exact this
theorem law_end (ns : List Int) (o2 o3 o4 o5 : Option D) (cs : List Cell) :
    SW (sSeq [b_law_2 (runF G cM cW 89), B3, b_law_4 (runF G cM cW 89), b_law_5 (runF G cM cW 89), b_law_6 (runF G cM cW 89)]) ⟨[some (.scr ns), some (.ob 0), o2, o3, o4, o5, none, none, none], cs⟩ (fun _ => False) fun d _ => d = .bl true := by
  have l {m : Nat} (h : m ≤ 400) : m ≤ sizeLine := lineN (by omega)
  have h0s := l (m := 0) (by omega)
  have h1s := l (m := 1) (by omega)
  have h2s := l (m := 2) (by omega)
  have h3s := l (m := 3) (by omega)
  have h5s := l (m := 5) (by omega)
  rw [SW_cons, b_law_2]
  simp [h0s]
  refine deep_ok ns o2 o3 o4 none cs _ _ fun o7 => ?_
  have rd := read_ok (dpS 20) (dp_ok 20) (by rw [dp_dep]; omega) (by rw [dp_wl]; omega) 89 (by rw [dp_dep]; omega) cs
  have sm := SmD.tup (dsS_sm (dp_ok 20) (by rw [dp_wl]; omega)) (by have := dp_len 20; omega)
  rw [dp_dep] at sm
  have hsm := fun cs => same_refl 89 _ cs sm.1 (by have := sm.2.1; omega) (by have := sm.2.1; omega) sm.2.2
  rw [show joinN [32] (glue (wsS (dpS 20))) = tx 20 from rfl] at rd
  generalize tx 20 = z at rd ⊢
  generalize dsS (dpS 20) = q at rd hsm ⊢
  simp [b_law_4, MW_call, s_read_steps, s_lsame, permL]
  refine rd.imp fun d cs' ⟨e1, g1, e2⟩ => ?_
  subst e1; subst e2
  refine (hsm _).imp fun d cs' ⟨e1, e2⟩ => ?_
  subst e1; subst e2
  have r0 := fun cs => rd_of [] [] [] trivial (by decide) (by decide) rfl rfl cs
  have r1 := fun cs => rd_of e1 [117, 110, 105, 116, 101] [.tup [.str wUNI, .tup [.tup []]]] e1_ok (by decide) (by decide) (by decide) rfl cs
  have r2 := fun cs => rd_of e2 [117, 110, 105, 116, 101, 32, 44, 32, 97] [.tup [.str wUNI, .tup [.tup [], .tup [.str [97]]]]] e2_ok (by decide) (by decide) (by decide) rfl cs
  have r3 := fun cs => rd_of e3 [116, 114, 117, 110, 99, 97, 116, 101, 32, 99, 117, 116, 32, 59, 32, 117, 115, 101, 32, 99, 117, 116] [.tup [.str wTRU, .tup [.str wCUT]], .tup [.str wUSE, .str wCUT]] e3_ok (by decide) (by decide) (by decide) rfl cs
  have r4 := fun cs => rd_of e4 [99, 117, 116] [.tup [.str wCUT]] e4_ok (by decide) (by decide) (by decide) rfl cs
  simp [b_law_5, MW_call, s_read_steps, s_lsame, permL]
  refine (r0 _).imp fun d cs' ⟨x1, g1, x2⟩ => ?_
  subst x1; subst x2
  refine (r1 _).imp fun d cs' ⟨x1, g1, x2⟩ => ?_
  subst x1; subst x2
  refine (r2 _).imp fun d cs' ⟨x1, g1, x2⟩ => ?_
  subst x1; subst x2
  refine (r3 _).imp fun d cs' ⟨x1, g1, x2⟩ => ?_
  subst x1; subst x2
  refine (r4 _).imp fun d cs' ⟨x1, g1, x2⟩ => ?_
  subst x1; subst x2
  have w1 : wUNI = [117, 110, 105, 116, 101] := rfl
  have w2 : wTRU = [116, 114, 117, 110, 99, 97, 116, 101] := rfl
  have w3 : wCUT = [99, 117, 116] := rfl
  have w4 : wUSE = [117, 115, 101] := rfl
  rw [w1, w2, w3, w4]
  simp [b_law_6, MW_call, s_lsame, permL, h0s, h1s, h2s, h3s, h5s]
  refine (same_refl 89 _ _ ?_ ?_ ?_ ?_).imp fun d cs' ⟨e1, e2⟩ => e1
  · decide
  · decide
  · decide
  · simp [lenOk, lenL, h0s, h1s, h2s, h3s, h5s]
theorem law_fw (ns : List Int) (hl : ns.length ≤ 63) : FW (runF G cM cW (89 + 1) i_law [.scr ns] []) fun d _ => d = .bl true := by
  have key := law_end ns
  rw [r_law _ _ _ rfl, FW_end, b_law, SW_cons, b_law_0, B3_def]
  simp only [SW_cons] at key
  simp [MW_call, s_lbag, permL]
  refine (bag_ok 88 ns [] hl).imp fun d cs ⟨c, e1, e2, hb⟩ => ?_
  subst e1; subst e2
  rw [b_law_1]
  simp [in62]
  obtain ⟨I, hI⟩ : ∃ I : List D → S → Prop, I = (fun _ s => ∃ (o2 o3 o4 o5 : Option D) (c : Cell) (g : List Cell), s = ⟨[some (.scr ns), some (.ob 0), o2, o3, o4, o5, none, none, none], c :: g⟩ ∧ BagOk c) := ⟨_, rfl⟩
  refine SW_for I ?_ ?_ _ _ (by rw [hI]; exact ⟨none, none, none, none, c, [], rfl, hb⟩)
  · intro d rest s h
    rw [hI] at h
    obtain ⟨o2, o3, o4, o5, c, g, rfl, hb⟩ := h
    simp [b_law_1_0, MW_call, s_lnames, s_lmixed, permL]
    refine (names_ok 86 6 (by omega) c g hb).imp fun d cs ⟨ys, c1, e1, hy, hyy, hyn, e4, e5⟩ => ?_
    subst e1; subst e4
    refine (mixed_ok 87 ys c1 g e5 (by omega)).imp fun d cs ⟨zs, c2, e1, hz, e4, e5⟩ => ?_
    subst e1; subst e4
    have hzg : ∀ z ∈ zs, gW z := fun z hz' => hyy z (hz.mem_iff.mp hz')
    have hzn : zs.Nodup := hz.nodup_iff.mpr hyn
    simp [b_law_1_1, MW_call, s_lpull, s_lall_steps, permL]
    refine (pull_ok 88 4 c2 _ e5 (by omega) (by omega)).imp fun d cs ⟨k, c3, e1, e2, e3, e4, e5⟩ => ?_
    subst e1; subst e4
    obtain ⟨k, rfl⟩ := Int.eq_ofNat_of_zero_le e2
    simp
    refine (pull_ok 88 4 c3 _ e5 (by omega) (by omega)).imp fun d cs ⟨j, c4, e1, e2, e3', e4, e5⟩ => ?_
    subst e1; subst e4
    obtain ⟨j, rfl⟩ := Int.eq_ofNat_of_zero_le e2
    have q1 : U.cutD (zs.map D.str) none (some (k : Int)) = (zs.take k).map .str := by rw [cutD_lo, List.map_take]
    have q2 : U.cutD (zs.map D.str) (some 3) (some (3 + (j : Int))) = ((zs.take (3 + j)).drop 3).map .str := by
      have := @cutD_mid (zs.map D.str) 3 (3 + j)
      rw [List.map_drop, List.map_take]
      simpa using this
    have hnd : (zs.take k ++ (zs.take (3 + j)).drop 3).Nodup := by
      have h1 : (zs.take k ++ (zs.take (3 + j)).drop 3).Sublist zs := by
        have h2 : (zs.take k).Sublist (zs.take 3) := (List.take_prefix_take_left (by omega)).sublist
        have h3 : ((zs.take (3 + j)).drop 3).Sublist (zs.drop 3) := (List.take_sublist _ _).drop 3
        have := h2.append h3
        rwa [List.take_append_drop] at this
      exact h1.nodup hzn
    simp [q1, q2]
    rw [← List.map_take, ← List.map_take, ← List.map_drop]
    refine (all_steps_ok 83 (zs.take k) ((zs.take (3 + j)).drop 3) (by simp; omega) (fun u hu => hzg u (List.mem_of_mem_take hu)) (by simp; omega) (fun u hu => hzg u (List.mem_of_mem_take (List.mem_of_mem_drop hu))) hnd c4 _ e5).imp fun d cs ⟨a, e1, ha, c5, g2, e4, e5⟩ => ?_
    subst e1; subst e4
    have te := turn_end ns (some d) (some (.ob (g.length + 1))) o5 a ha (c5 :: (g ++ .L (zs.map .str) :: g2)) (I rest) (fun o5 cs' ⟨g', e⟩ => by
      rw [hI, e]; exact ⟨_, _, _, _, c5, _, rfl, e5⟩) (fun d _ => d = .bl true)
    simpa only [SW_cons, SW_nil, List.append_assoc, List.cons_append, List.nil_append] using te
  · intro s h
    rw [hI] at h
    obtain ⟨o2, o3, o4, o5, c, g, rfl, hb⟩ := h
    have k := key o2 o3 o4 o5 (c :: g)
    simp only [SW_nil] at k
    exact k
theorem law : ∀ ns : List Int, ns.length ≤ 63 → ∃ cs, runF G cM cW cN i_law [.scr ns] [] = .ok (.bl true) cs := fun ns hl => by
  obtain ⟨d, cs, e, rfl⟩ := (law_fw ns hl).ex
  exact ⟨cs, e⟩
end Law

namespace Law
open PySem PySem.Spec PyProof.Rows U
abbrev hk : PySem.W.Hook := hookX 6 (faOf G) (fnsD G)
def ob (s : PySem.W.SharedT) : AlX := obsXG 6 (faOf G) (fnsD G) (HandSHeadRun.getT s)
theorem ob_eq (s : PySem.W.SharedT) : ob s = hk.obs s.abs := obsXG_eq (HandSHeadRun.getT_eq s)
def loose : List PySem.Str := ([("RestError" : PySem.Str), ("InvalidText" : PySem.Str), ("LETTERS" : PySem.Str), ("is_word" : PySem.Str), ("is_name" : PySem.Str), ("is_piece" : PySem.Str), ("DIGITS" : PySem.Str), ("MOST_OPEN" : PySem.Str), ("Words" : PySem.Str), ("read_steps" : PySem.Str), ("test_words" : PySem.Str), ("block_words" : PySem.Str), ("step_words" : PySem.Str), ("words_of" : PySem.Str), ("text_of" : PySem.Str), ("_law_bag" : PySem.Str), ("_law_pull" : PySem.Str), ("_law_any" : PySem.Str), ("_law_same" : PySem.Str), ("_law_names" : PySem.Str), ("_law_mixed" : PySem.Str), ("_law_group" : PySem.Str), ("_law_bases" : PySem.Str), ("_law_step" : PySem.Str), ("_law_ends" : PySem.Str), ("_law_plain" : PySem.Str), ("_law_test" : PySem.Str), ("_law_still" : PySem.Str), ("_law_body" : PySem.Str), ("_law_words" : PySem.Str), ("_law_test_words" : PySem.Str), ("_law_step_words" : PySem.Str), ("_law_text" : PySem.Str), ("_law_all_steps" : PySem.Str)] : List PySem.Str)
theorem run (w : World) : HandSHeadRun.RunEq R (PySem.W.view R.prog [38]) hk ob 2500 loose w := by
  intro os
  kernel_rfl
end Law
open PySem PySem.W PySem.Calls PyProof.Rows
theorem PySem.Challenge.cw_unseenrest_k24_whole_texts_read_back_holds : PySem.Challenge.rw_unseenrest_k24_whole_texts_read_back.Holds := by
  w_on; o_law
  refine HandSHeadRun.head_any (r := OpenLaw.row PySem.Challenge.rw_unseenrest_k24_whole_texts_read_back) (q := view (OpenLaw.row PySem.Challenge.rw_unseenrest_k24_whole_texts_read_back).prog [38]) (H := Law.hk) (ob := Law.ob) (M := 2500) (loose := Law.loose) (d := HandSHeadRun.topDef (OpenLaw.row PySem.Challenge.rw_unseenrest_k24_whole_texts_read_back).prog 38) (kwd := []) Law.ob_eq
    (by kernel_rfl) (fun s => by kernel_rfl) Law.run (by kernel_rfl) (by kernel_rfl) (by kernel_rfl) (by rfl) (by first | assumption | decide +kernel) (by decide +kernel) ⟨rfl, rfl, rfl, rfl, rfl, by decide +kernel⟩ ?hw ?hc
  case hw => w_witness2
  case hc =>
    refine U.walk_w (l := PySem.Challenge.rw_unseenrest_k24_whole_texts_read_back) (n := 63) (k := 2 * 90) (x := "_law_script") rfl (by decide) (by kernel_rfl) ⟨rfl, by decide, by decide⟩ ?F
    intro w mg fa h Y G hmg0
    obtain ⟨K, KX, c⟩ := Y
    have hmg : mg ("law" : PySem.Str) = some (.ref fa) := by
      have e : (HandSHeadRun.topDef (OpenLaw.row PySem.Challenge.rw_unseenrest_k24_whole_texts_read_back).prog 38).name = ("law" : PySem.Str) := by kernel_rfl
      rw [← e]
      exact hmg0
    obtain ⟨fd, sp, hb, hsp, hF⟩ := U.law_facts (l := PySem.Challenge.rw_unseenrest_k24_whole_texts_read_back) (w := w) (M := Law.cM) (W := Law.cW) (n := Law.cN) KX G hmg c Law.gB Law.noD Law.shN (iL := 39) (fi := Law.f39) (by kernel_rfl) rfl rfl Law.n0 Law.law
    exact ⟨K, fd, sp, KX, hb, fun H a ns hl hS => hsp H a ns hl hS, hF⟩

