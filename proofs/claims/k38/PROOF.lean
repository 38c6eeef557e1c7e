import PyProof.Rows.All
import Wide.All
import OpenK.AllK
import Wide.FinOn
import HandS.ForMost
import HandS.ForExc
import KE.DataEq
import KE.DataCmp
import KE.SortData
import HandS.Flow
import HandS.Wide
import HandS.TupAny
import HandS.TupMul
import HandS.IsInst
import HandS.Star
import HandS.Defaults
import HandS.SortInts
import HandS.Conv
import HandS.CallSlots
import HandS.Zip
import HandS.Style
import HandS.SetFor
import KE.KStateDown
import Lean
import HandS.Base
import HandS.Call
import HandS.Ends
import HandS.More
import HandS.Words
import HandS.WordsExc
import HandS.Head0
import HandS.Head1
import HandS.Head2
import HandS.HeadEnd
import HandS.HeadHook1
import HandS.HeadHook2
import PySem.Challenge.RW_surelyposted_k38_what_is_learned_of_shar
set_option Elab.async false
set_option linter.all false
set_option maxRecDepth 100000
section
set_option Elab.async false
set_option linter.all false
set_option maxRecDepth 100000
/-! Pv1: pure Python data, what a heap value stands for, and how a piece of code computes a Lean function. -/
namespace Pv
open PySem L2

inductive D where
  | non | bl (b : Bool) | int (i : Int) | str (x : Str) | lst (xs : List D) | tup (xs : List D)
  | dct (kvs : List (D × D)) | set (xs : List D) | exc (c : String) (fs : List D) | box (n : Nat) | scr (ns : List Int)
  deriving Inhabited

/-- the lists that are held by reference -/
abbrev Mu := List (List D)

/-- how an expression ends -/
inductive R (α : Type) where
  | ok (a : α) (m : Mu) | exc (c : String) (fs : List D) (m : Mu) | bad

@[reducible] def R.bind {α β : Type} (r : R α) (f : α → Mu → R β) : R β := match r with
  | .ok a m => f a m
  | .exc c fs m => .exc c fs m
  | .bad => .bad

abbrev Gam := List D
abbrev EC := Gam → Mu → R D

/-- a slot: not assigned | a value | a list or dict of its own that may be changed -/
inductive Md where
  | un | sh | ow
  deriving DecidableEq

mutual
inductive Rep (K : PySem.W.Frag) (ρ : List Addr) (H : Hp) : V → D → Prop
  | non : Rep K ρ H .non .non
  | bl (b : Bool) : Rep K ρ H (.bl b) (.bl b)
  | int (i : Int) : Rep K ρ H (.int i) (.int i)
  | str (x : Str) : Rep K ρ H (.str x) (.str x)
  | lst {a : Addr} {vs : List V} {ds : List D} : H a = some (.lst vs) → RepAll K ρ H vs ds → Rep K ρ H (.ref a) (.lst ds)
  | scr {a : Addr} {ns : List Int} : SqL K H a (ns.map V.int) → Rep K ρ H (.ref a) (.scr ns)
  | tup {a : Addr} {vs : List V} {ds : List D} : SqT K H a vs → RepAll K ρ H vs ds → Rep K ρ H (.ref a) (.tup ds)
  | box {a : Addr} {n : Nat} : ρ[n]? = some a → Rep K ρ H (.ref a) (.box n)
inductive RepAll (K : PySem.W.Frag) (ρ : List Addr) (H : Hp) : List V → List D → Prop
  | nil : RepAll K ρ H [] []
  | cons {v : V} {vs : List V} {d : D} {ds : List D} : Rep K ρ H v d → RepAll K ρ H vs ds → RepAll K ρ H (v :: vs) (d :: ds)
end

def Sub (H H' : Hp) : Prop := ∀ a o, H a = some o → H' a = some o
theorem Sub.refl (H : Hp) : Sub H H := fun _ _ h => h
theorem Sub.trans {H H1 H2 : Hp} (a : Sub H H1) (b : Sub H1 H2) : Sub H H2 := fun x o h => b x o (a x o h)
theorem Sub.rd {H H' : Hp} {a : Addr} {u : HO} (e : Sub H H') (h : Rd H a u) : Rd H' a u := by
  rcases h with h | ⟨o, h⟩
  · exact .inl (e a _ h)
  · exact .inr ⟨o, e a _ h⟩
theorem Sub.l {K : PySem.W.Frag} {H H' : Hp} {a : Addr} {xs : List V} (e : Sub H H') (h : SqL K H a xs) : SqL K H' a xs := by
  rcases h with h | h
  · exact .inl (e.rd h)
  · exact .inr h
theorem Sub.t {K : PySem.W.Frag} {H H' : Hp} {a : Addr} {xs : List V} (e : Sub H H') (h : SqT K H a xs) : SqT K H' a xs := by
  rcases h with h | h
  · exact .inl (e.rd h)
  · exact .inr h
theorem Sub.new {H : Hp} {p : Addr} {o : HO} (h : H p = none) : Sub H (upd H p o) := fun a u e => by
  rw [upd_ne (ne_of_none e h)]
  exact e
theorem Sub.free {H H' : Hp} (e : Sub H H') {l : Addr} (h : H' l = none) : H l = none := by
  cases q : H l with
  | none => rfl
  | some o => rw [e l o q] at h; cases h

/-- one list begins with the other -/
def Pre (ρ ρ' : List Addr) : Prop := ∀ (n : Nat) (a : Addr), ρ[n]? = some a → ρ'[n]? = some a
theorem Pre.refl (ρ : List Addr) : Pre ρ ρ := fun _ _ h => h
theorem Pre.trans {a b c : List Addr} (x : Pre a b) (y : Pre b c) : Pre a c := fun n q h => y n q (x n q h)

section
variable {K : PySem.W.Frag} {ρ ρ' : List Addr} {H H' : Hp}
mutual
theorem Rep.mono (p : Pre ρ ρ') (e : Sub H H') : ∀ {v : V} {d : D}, Rep K ρ H v d → Rep K ρ' H' v d
  | _, _, .non => .non
  | _, _, .bl b => .bl b
  | _, _, .int i => .int i
  | _, _, .str x => .str x
  | _, _, .lst h r => .lst (e _ _ h) (RepAll.mono p e r)
  | _, _, .scr h => .scr (e.l h)
  | _, _, .tup h r => .tup (e.t h) (RepAll.mono p e r)
  | _, _, .box h => .box (p _ _ h)
theorem RepAll.mono (p : Pre ρ ρ') (e : Sub H H') : ∀ {vs : List V} {ds : List D}, RepAll K ρ H vs ds → RepAll K ρ' H' vs ds
  | _, _, .nil => .nil
  | _, _, .cons h r => .cons (Rep.mono p e h) (RepAll.mono p e r)
end
theorem RepAll.length : ∀ {vs : List V} {ds : List D}, RepAll K ρ H vs ds → vs.length = ds.length
  | _, _, .nil => rfl
  | _, _, .cons _ r => by simp [RepAll.length r]
theorem RepAll.append : ∀ {vs ws : List V} {ds es : List D}, RepAll K ρ H vs ds → RepAll K ρ H ws es → RepAll K ρ H (vs ++ ws) (ds ++ es)
  | _, _, _, _, .nil, h => h
  | _, _, _, _, .cons a r, h => .cons a (r.append h)
theorem RepAll.get : ∀ {vs : List V} {ds : List D} {i : Nat} {v : V}, RepAll K ρ H vs ds → vs[i]? = some v → ∃ d, ds[i]? = some d ∧ Rep K ρ H v d
  | _, _, _, _, .nil, h => by simp at h
  | _, _, 0, _, .cons a _, h => by simp at h; subst h; exact ⟨_, rfl, a⟩
  | _, _, i + 1, _, .cons _ r, h => by
    obtain ⟨d, h1, h2⟩ := RepAll.get (i := i) r (by simpa using h)
    exact ⟨d, by simpa using h1, h2⟩
theorem RepAll.get' : ∀ {vs : List V} {ds : List D} {i : Nat} {d : D}, RepAll K ρ H vs ds → ds[i]? = some d → ∃ v, vs[i]? = some v ∧ Rep K ρ H v d
  | _, _, _, _, .nil, h => by simp at h
  | _, _, 0, _, .cons a _, h => by simp at h; subst h; exact ⟨_, rfl, a⟩
  | _, _, i + 1, _, .cons _ r, h => by
    obtain ⟨d, h1, h2⟩ := RepAll.get' (i := i) r (by simpa using h)
    exact ⟨d, by simpa using h1, h2⟩
theorem RepAll.take : ∀ {vs : List V} {ds : List D} (n : Nat), RepAll K ρ H vs ds → RepAll K ρ H (vs.take n) (ds.take n)
  | _, _, 0, _ => .nil
  | _, _, _ + 1, .nil => .nil
  | _, _, n + 1, .cons a r => .cons a (RepAll.take n r)
theorem RepAll.drop : ∀ {vs : List V} {ds : List D} (n : Nat), RepAll K ρ H vs ds → RepAll K ρ H (vs.drop n) (ds.drop n)
  | _, _, 0, r => r
  | _, _, _ + 1, .nil => .nil
  | _, _, n + 1, .cons _ r => RepAll.drop n r
theorem RepAll.set {v : V} {d : D} (h : Rep K ρ H v d) : ∀ {vs : List V} {ds : List D} (i : Nat), RepAll K ρ H vs ds → RepAll K ρ H (vs.set i v) (ds.set i d)
  | _, _, _, .nil => .nil
  | _, _, 0, .cons _ r => .cons h r
  | _, _, i + 1, .cons a r => .cons a (RepAll.set h i r)
theorem RepAll.one {v : V} {d : D} (h : Rep K ρ H v d) : RepAll K ρ H [v] [d] := .cons h .nil
theorem RepAll.ints : ∀ ns : List Int, RepAll K ρ H (ns.map V.int) (ns.map D.int)
  | [] => .nil
  | n :: ns => .cons (.int n) (RepAll.ints ns)
end

/-- the boxes stand as m says; Hs: the part of the heap that never changes -/
structure Bs (K : PySem.W.Frag) (ρ : List Addr) (m : Mu) (Hs H : Hp) : Prop where
  sub : Sub Hs H
  bx : ∀ (n : Nat) (ds : List D), m[n]? = some ds → ∃ a vs, ρ[n]? = some a ∧ Hs a = none ∧ H a = some (.lst vs) ∧ RepAll K ρ Hs vs ds
  nd : ∀ (i j : Nat) (a : Addr), ρ[i]? = some a → ρ[j]? = some a → i = j
  len : ρ.length = m.length

/-- from one state to a later one -/
structure Tr (ρ : List Addr) (Hs H : Hp) (ρ' : List Addr) (Hs' H' : Hp) : Prop where
  sub : Sub Hs Hs'
  new : ∀ a o, Hs' a = some o → Hs a = some o ∨ H a = none
  pre : Pre ρ ρ'
  bnew : ∀ a, a ∈ ρ' → a ∈ ρ ∨ H a = none
  dom : ∀ a, H' a = none → H a = none
  same : ∀ a o, a ∉ ρ → H a = some o → H' a = some o
theorem Tr.refl (ρ : List Addr) (Hs H : Hp) : Tr ρ Hs H ρ Hs H := ⟨.refl _, fun _ _ h => .inl h, .refl _, fun _ h => .inl h, fun _ h => h, fun _ _ _ h => h⟩
theorem Tr.trans {ρ ρ1 ρ2 : List Addr} {Hs H Hs1 H1 Hs2 H2 : Hp} (a : Tr ρ Hs H ρ1 Hs1 H1) (b : Tr ρ1 Hs1 H1 ρ2 Hs2 H2) : Tr ρ Hs H ρ2 Hs2 H2 where
  sub := a.sub.trans b.sub
  new x o h := by
    rcases b.new x o h with q | q
    · exact a.new x o q
    · exact .inr (a.dom x q)
  pre := a.pre.trans b.pre
  bnew x h := by
    rcases b.bnew x h with q | q
    · exact a.bnew x q
    · exact .inr (a.dom x q)
  dom x h := a.dom x (b.dom x h)
  same x o n h := by
    refine b.same x o (fun q => ?_) (a.same x o n h)
    rcases a.bnew x q with z | z
    · exact n z
    · rw [h] at z; cases z

/-- a list or dict of its own -/
inductive Own (K : PySem.W.Frag) (ρ : List Addr) (Hs H : Hp) (a : Addr) : D → Prop
  | lst {vs : List V} {ds : List D} : H a = some (.lst vs) → RepAll K ρ Hs vs ds → Own K ρ Hs H a (.lst ds)

/-- what the slots hold; H0: the heap at the def's entry -/
structure En (K : PySem.W.Frag) (H0 : Hp) (ω : List Md) (Γ : Gam) (ρ : List Addr) (Hs H : Hp) (σ : St) : Prop where
  ln : Γ.length = σ.length
  wl : ω.length = σ.length
  sh : ∀ i, ω[i]? = some .sh → ∃ v, σ[i]? = some (some v) ∧ Rep K ρ Hs v (Γ.getD i .non)
  ow : ∀ i, ω[i]? = some .ow → ∃ a, σ[i]? = some (some (.ref a)) ∧ Own K ρ Hs H a (Γ.getD i .non) ∧ Hs a = none ∧ a ∉ ρ ∧ H0 a = none ∧ H a ≠ none
  nd : ∀ (i j : Nat) a, ω[i]? = some .ow → ω[j]? = some .ow → σ[i]? = some (some (.ref a)) → σ[j]? = some (some (.ref a)) → i = j

section
variable {K : PySem.W.Frag} {H0 : Hp} {ω : List Md} {Γ : Gam} {ρ ρ' : List Addr} {Hs H Hs' H' : Hp} {σ : St}
theorem Own.mono {a : Addr} {d : D} (t : Tr ρ Hs H ρ' Hs' H') (hr : a ∉ ρ) (h : Own K ρ Hs H a d) : Own K ρ' Hs' H' a d := by
  cases h with
  | lst h r => exact .lst (t.same _ _ hr h) (r.mono t.pre t.sub)
theorem En.mono (t : Tr ρ Hs H ρ' Hs' H') (e : En K H0 ω Γ ρ Hs H σ) : En K H0 ω Γ ρ' Hs' H' σ where
  ln := e.ln
  wl := e.wl
  sh i h := by
    obtain ⟨v, h1, h2⟩ := e.sh i h
    exact ⟨v, h1, h2.mono t.pre t.sub⟩
  ow i h := by
    obtain ⟨a, h1, h2, h3, h4, h5, h6⟩ := e.ow i h
    refine ⟨a, h1, h2.mono t h4, ?_, ?_, h5, fun z => h6 (t.dom a z)⟩
    · cases q : Hs' a with
      | none => rfl
      | some o =>
        rcases t.new a o q with z | z
        · rw [h3] at z; cases z
        · exact absurd z h6
    · intro q
      rcases t.bnew a q with z | z
      · exact h4 z
      · exact h6 z
  nd := e.nd
end

/-- an error of the program's own: its class, its fields (none here yet) -/
def EOk (K : PySem.W.Frag) (mg : Str → Option Value) (ρ : List Addr) (Hs : Hp) (cls : Value) (dx : Option Addr) (c : String) (fs : List D) : Prop := False

/-- what is wanted behind an expression that ends as r -/
def Out {α β : Type} (K : PySem.W.Frag) (mg : Str → Option Value) (Rp : List Addr → Hp → β → α → Prop) (W : Value → Option Addr → Hp → Prop) (r : R α) (ρ : List Addr) (Hs H : Hp) (Q : β → Hp → Prop) : Prop := match r with
  | .ok a m => ∀ v ρ' Hs' H', Tr ρ Hs H ρ' Hs' H' → Bs K ρ' m Hs' H' → Rp ρ' Hs' v a → Q v H'
  | .exc c fs m => ∀ cls dx ρ' Hs' H', Tr ρ Hs H ρ' Hs' H' → Bs K ρ' m Hs' H' → EOk K mg ρ' Hs' cls dx c fs → W cls dx H'
  | .bad => False

section
variable {α β γ δ : Type} {K : PySem.W.Frag} {mg : Str → Option Value} {Rp : List Addr → Hp → β → α → Prop} {Rq : List Addr → Hp → δ → γ → Prop} {W : Value → Option Addr → Hp → Prop} {ρ ρ1 : List Addr} {Hs H Hs1 H1 : Hp}
theorem Out.tr {r : R α} {Q : β → Hp → Prop} (t : Tr ρ Hs H ρ1 Hs1 H1) (h : Out K mg Rp W r ρ Hs H Q) : Out K mg Rp W r ρ1 Hs1 H1 Q := by
  cases r with
  | ok a m => exact fun v ρ' Hs' H' t' b rp => h v ρ' Hs' H' (t.trans t') b rp
  | exc c fs m => exact fun cls dx ρ' Hs' H' t' b e => h cls dx ρ' Hs' H' (t.trans t') b e
  | bad => exact h
theorem Out.mono {r : R α} {Q Q' : β → Hp → Prop} (h : Out K mg Rp W r ρ Hs H Q) (q : ∀ v H', Q v H' → Q' v H') : Out K mg Rp W r ρ Hs H Q' := by
  cases r with
  | ok a m => exact fun v ρ' Hs' H' t' b rp => q _ _ (h v ρ' Hs' H' t' b rp)
  | exc c fs m => exact h
  | bad => exact h
/-- the state behind a first part, what is wanted of the second -/
def Aft (K : PySem.W.Frag) (Rp : List Addr → Hp → β → α → Prop) (ρ : List Addr) (Hs H : Hp) (G : α → Mu → List Addr → Hp → Hp → Prop) : β → Hp → Prop := fun v H1 =>
  ∃ a m ρ1 Hs1, Tr ρ Hs H ρ1 Hs1 H1 ∧ Bs K ρ1 m Hs1 H1 ∧ Rp ρ1 Hs1 v a ∧ G a m ρ1 Hs1 H1
theorem Out.bind {r : R α} {f : α → Mu → R γ} {Q : δ → Hp → Prop} (h : Out K mg Rq W (r.bind f) ρ Hs H Q) :
    Out K mg Rp W r ρ Hs H (Aft K Rp ρ Hs H fun a m ρ1 Hs1 H1 => Out K mg Rq W (f a m) ρ1 Hs1 H1 Q) := by
  cases r with
  | ok a m => exact fun v ρ' Hs' H' t b rp => ⟨a, m, ρ', Hs', t, b, rp, Out.tr t h⟩
  | exc c fs m => exact h
  | bad => exact h
end

/-- the reading of an expression that computes c -/
def cE (X : Cx) (H0 : Hp) (W : WX) (ω : List Md) (c : EC) : TE := fun σ H Q => ∃ Γ m ρ Hs, Bs X.K ρ m Hs H ∧ En X.K H0 ω Γ ρ Hs H σ ∧ Out X.K X.mg (Rep X.K) (fun cls dx H' => W cls dx σ H') (c Γ m) ρ Hs H Q
abbrev EV (X : Cx) (H0 : Hp) (W : WX) (ω : List Md) (e : Expr) (c : EC) : Prop := PE X e (cE X H0 W ω c)
/-- arguments -/
def cA (X : Cx) (H0 : Hp) (W : WX) (ω : List Md) (c : Gam → Mu → R (List D)) : TA := fun σ H Q => ∃ Γ m ρ Hs, Bs X.K ρ m Hs H ∧ En X.K H0 ω Γ ρ Hs H σ ∧ Out X.K X.mg (RepAll X.K) (fun cls dx H' => W cls dx σ H') (c Γ m) ρ Hs H Q
abbrev AV (X : Cx) (H0 : Hp) (W : WX) (ω : List Md) (es : List Expr) (c : Gam → Mu → R (List D)) : Prop := PA X es (cA X H0 W ω c)
/-- tests -/
def cT (X : Cx) (H0 : Hp) (W : WX) (ω : List Md) (c : Gam → Mu → R Bool) : TT := fun σ H Q => ∃ Γ m ρ Hs, Bs X.K ρ m Hs H ∧ En X.K H0 ω Γ ρ Hs H σ ∧ Out X.K X.mg (fun _ _ b a => b = a) (fun cls dx H' => W cls dx σ H') (c Γ m) ρ Hs H Q
abbrev TV (X : Cx) (H0 : Hp) (W : WX) (ω : List Md) (e : Expr) (c : Gam → Mu → R Bool) : Prop := PT X e (cT X H0 W ω c)

theorem PE.imp {X : Cx} {e : Expr} {t t' : TE} (h : PE X e t) (q : ∀ σ H Q, t' σ H Q → t σ H Q) : PE X e t' := ⟨fun pins s σ H Q I z => h.run pins s σ H Q I (q _ _ _ z)⟩
theorem PT.imp {X : Cx} {e : Expr} {t t' : TT} (h : PT X e t) (q : ∀ σ H Q, t' σ H Q → t σ H Q) : PT X e t' := ⟨fun pins s σ H Q I z => h.run pins s σ H Q I (q _ _ _ z)⟩
theorem PA.imp {X : Cx} {e : List Expr} {t t' : TA} (h : PA X e t) (q : ∀ σ H Q, t' σ H Q → t σ H Q) : PA X e t' := ⟨fun pos pins s σ H Q I z => h.run pos pins s σ H Q I (q _ _ _ z)⟩
theorem PS.imp {X : Cx} {e : Stmt} {t t' : TS} (h : PS X e t) (q : ∀ D σ H, t' D σ H → t D σ H) : PS X e t' := ⟨fun pins s σ H D I z => h.run pins s σ H D I (q _ _ _ z)⟩
theorem PSs.imp {X : Cx} {e : List Stmt} {t t' : TS} (h : PSs X e t) (q : ∀ D σ H, t' D σ H → t D σ H) : PSs X e t' := ⟨fun pins s σ H D I z => h.run pins s σ H D I (q _ _ _ z)⟩
end Pv

end

section
set_option Elab.async false
set_option linter.all false
set_option maxRecDepth 100000
/-! Pv2: Python's == and < of data, and the library's rules for them. -/
namespace Pv
open PySem L2 PySem.W PyProof.Rows

def szOk (n : Nat) : Bool := Nat.ble n 16777216
theorem szOk_le {n : Nat} (h : szOk n = true) : n ≤ sizeLine := by rw [sizeLine_eq]; exact Nat.le_of_ble_eq_true h

mutual
/-- plain data of depth at most n -/
def D.pl : Nat → D → Bool
  | _, .non | _, .bl _ | _, .int _ | _, .str _ => true
  | n + 1, .lst xs => plAll n xs
  | n + 1, .tup xs => plAll n xs
  | _, _ => false
def plAll : Nat → List D → Bool
  | _, [] => true
  | n, x :: xs => x.pl n && plAll n xs
end
mutual
def D.toPy : D → PyData
  | .non => .none
  | .bl b => .bool b
  | .int i => .int i
  | .str x => .str x
  | .lst xs => .list (toPyAll xs)
  | .tup xs => .tuple (toPyAll xs)
  | _ => .none
def toPyAll : List D → List PyData
  | [] => []
  | x :: xs => x.toPy :: toPyAll xs
end
mutual
/-- Python's == of plain data -/
def D.eqv : D → D → Bool
  | .non, .non => true
  | .bl a, .bl b => a == b
  | .bl a, .int j => (if a then 1 else 0) == j
  | .int i, .bl b => i == (if b then 1 else 0)
  | .int i, .int j => i == j
  | .str x, .str y => x == y
  | .lst xs, .lst ys => eqvAll xs ys
  | .tup xs, .tup ys => eqvAll xs ys
  | _, _ => false
def eqvAll : List D → List D → Bool
  | [], [] => true
  | x :: xs, y :: ys => x.eqv y && eqvAll xs ys
  | _, _ => false
end
mutual
/-- they can be compared by < -/
def D.alk : D → D → Bool
  | .non, .non => true
  | .bl _, .bl _ => true
  | .int _, .int _ => true
  | .str _, .str _ => true
  | .lst xs, .lst ys => alkAll xs ys
  | .tup xs, .tup ys => alkAll xs ys
  | _, _ => false
def alkAll : List D → List D → Bool
  | x :: xs, y :: ys => x.alk y && alkAll xs ys
  | _, _ => true
end
mutual
def D.lt : D → D → Bool
  | .bl a, .bl b => !a && b
  | .int i, .int j => decide (i < j)
  | .str x, .str y => decide (x.cps.toList < y.cps.toList)
  | .lst xs, .lst ys => ltAll xs ys
  | .tup xs, .tup ys => ltAll xs ys
  | _, _ => false
def ltAll : List D → List D → Bool
  | [], _ :: _ => true
  | x :: xs, y :: ys => if x.eqv y then ltAll xs ys else x.lt y
  | _, _ => false
end

theorem toPyAll_map : ∀ xs : List D, toPyAll xs = xs.map D.toPy
  | [] => by simp [toPyAll]
  | x :: xs => by simp [toPyAll, toPyAll_map xs]
theorem plAll_mem {n : Nat} : ∀ {xs : List D}, plAll n xs = true → ∀ x ∈ xs, x.pl n = true
  | [], _, _, h => by cases h
  | y :: ys, h, x, hx => by
    simp only [plAll, Bool.and_eq_true] at h
    rcases List.mem_cons.mp hx with e | e
    · subst e; exact h.1
    · exact plAll_mem h.2 x e
theorem plAll_of {n : Nat} : ∀ {xs : List D}, (∀ x ∈ xs, x.pl n = true) → plAll n xs = true
  | [], _ => by simp [plAll]
  | y :: ys, h => by
    simp only [plAll, Bool.and_eq_true]
    exact ⟨h y (List.mem_cons_self ..), plAll_of fun x hx => h x (List.mem_cons_of_mem _ hx)⟩

mutual
theorem plain_of {n : Nat} : ∀ {d : D}, d.pl n = true → d.toPy.plain = true
  | .non, _ => by simp [D.toPy, PyData.plain]
  | .bl _, _ => by simp [D.toPy, PyData.plain]
  | .int _, _ => by simp [D.toPy, PyData.plain]
  | .str _, _ => by simp [D.toPy, PyData.plain]
  | .lst xs, h => by
    cases n with
    | zero => simp [D.pl] at h
    | succ n => simp only [D.pl] at h; simp only [D.toPy, PyData.plain]; exact plainAll_of h
  | .tup xs, h => by
    cases n with
    | zero => simp [D.pl] at h
    | succ n => simp only [D.pl] at h; simp only [D.toPy, PyData.plain]; exact plainAll_of h
  | .dct _, h => by cases n <;> simp [D.pl] at h
  | .set _, h => by cases n <;> simp [D.pl] at h
  | .exc _ _, h => by cases n <;> simp [D.pl] at h
  | .box _, h => by cases n <;> simp [D.pl] at h
  | .scr _, h => by cases n <;> simp [D.pl] at h
theorem plainAll_of {n : Nat} : ∀ {xs : List D}, plAll n xs = true → PyData.plainAll (toPyAll xs) = true
  | [], _ => by simp [toPyAll, PyData.plainAll]
  | x :: xs, h => by
    simp only [plAll, Bool.and_eq_true] at h
    simp only [toPyAll, PyData.plainAll, Bool.and_eq_true]
    exact ⟨plain_of h.1, plainAll_of h.2⟩
end
mutual
theorem depth_of : ∀ {n : Nat} {d : D}, d.pl n = true → d.toPy.depth ≤ n
  | _, .non, _ => by simp [D.toPy, PyData.depth]
  | _, .bl _, _ => by simp [D.toPy, PyData.depth]
  | _, .int _, _ => by simp [D.toPy, PyData.depth]
  | _, .str _, _ => by simp [D.toPy, PyData.depth]
  | 0, .lst xs, h => by simp [D.pl] at h
  | n + 1, .lst xs, h => by
    simp only [D.pl] at h; simp only [D.toPy, PyData.depth]
    have := depthAll_of h; omega
  | 0, .tup xs, h => by simp [D.pl] at h
  | n + 1, .tup xs, h => by
    simp only [D.pl] at h; simp only [D.toPy, PyData.depth]
    have := depthAll_of h; omega
  | n, .dct _, h => by cases n <;> simp [D.pl] at h
  | n, .set _, h => by cases n <;> simp [D.pl] at h
  | n, .exc _ _, h => by cases n <;> simp [D.pl] at h
  | n, .box _, h => by cases n <;> simp [D.pl] at h
  | n, .scr _, h => by cases n <;> simp [D.pl] at h
theorem depthAll_of : ∀ {n : Nat} {xs : List D}, plAll n xs = true → PyData.depthAll (toPyAll xs) ≤ n
  | _, [], _ => by simp [toPyAll, PyData.depthAll]
  | n, x :: xs, h => by
    simp only [plAll, Bool.and_eq_true] at h
    simp only [toPyAll, PyData.depthAll]
    have a := depth_of h.1
    have b := depthAll_of h.2
    omega
end
mutual
theorem eqv_py {n m : Nat} : ∀ {d e : D}, d.pl n = true → e.pl m = true → PyData.eqv d.toPy e.toPy = d.eqv e
  | .lst xs, .lst ys, hd, he => by
    cases n with
    | zero => simp [D.pl] at hd
    | succ n => cases m with
      | zero => simp [D.pl] at he
      | succ m =>
        simp only [D.pl] at hd he
        simp only [D.toPy, PyData.eqv, D.eqv]
        exact eqvAll_py hd he
  | .tup xs, .tup ys, hd, he => by
    cases n with
    | zero => simp [D.pl] at hd
    | succ n => cases m with
      | zero => simp [D.pl] at he
      | succ m =>
        simp only [D.pl] at hd he
        simp only [D.toPy, PyData.eqv, D.eqv]
        exact eqvAll_py hd he
  | .non, e, hd, he => by cases e <;> first | (exfalso; cases m <;> simp [D.pl] at he; done) | simp [D.toPy, PyData.eqv, D.eqv]
  | .bl _, e, hd, he => by cases e <;> first | simp [D.toPy, PyData.eqv, D.eqv] | (cases m <;> simp [D.pl] at he)
  | .int _, e, hd, he => by cases e <;> first | simp [D.toPy, PyData.eqv, D.eqv] | (cases m <;> simp [D.pl] at he)
  | .str _, e, hd, he => by cases e <;> first | simp [D.toPy, PyData.eqv, D.eqv] | (cases m <;> simp [D.pl] at he)
  | .lst _, .non, hd, he | .lst _, .bl _, hd, he | .lst _, .int _, hd, he | .lst _, .str _, hd, he | .lst _, .tup _, hd, he => by simp [D.toPy, PyData.eqv, D.eqv]
  | .tup _, .non, hd, he | .tup _, .bl _, hd, he | .tup _, .int _, hd, he | .tup _, .str _, hd, he | .tup _, .lst _, hd, he => by simp [D.toPy, PyData.eqv, D.eqv]
  | .lst _, .dct _, hd, he | .lst _, .set _, hd, he | .lst _, .exc _ _, hd, he | .lst _, .box _, hd, he | .lst _, .scr _, hd, he => by cases m <;> simp [D.pl] at he
  | .tup _, .dct _, hd, he | .tup _, .set _, hd, he | .tup _, .exc _ _, hd, he | .tup _, .box _, hd, he | .tup _, .scr _, hd, he => by cases m <;> simp [D.pl] at he
  | .dct _, _, hd, _ | .set _, _, hd, _ | .exc _ _, _, hd, _ | .box _, _, hd, _ | .scr _, _, hd, _ => by cases n <;> simp [D.pl] at hd
theorem eqvAll_py {n m : Nat} : ∀ {xs ys : List D}, plAll n xs = true → plAll m ys = true → PyData.eqvAll (toPyAll xs) (toPyAll ys) = eqvAll xs ys
  | [], [], _, _ => by simp [toPyAll, PyData.eqvAll, eqvAll]
  | [], _ :: _, _, _ => by simp [toPyAll, PyData.eqvAll, eqvAll]
  | _ :: _, [], _, _ => by simp [toPyAll, PyData.eqvAll, eqvAll]
  | x :: xs, y :: ys, h, k => by
    simp only [plAll, Bool.and_eq_true] at h k
    simp only [toPyAll, PyData.eqvAll, eqvAll]
    rw [eqv_py h.1 k.1, eqvAll_py h.2 k.2]
end

mutual
theorem alk_py {n m : Nat} : ∀ {d e : D}, d.pl n = true → e.pl m = true → alike d.toPy e.toPy = d.alk e
  | .lst xs, .lst ys, hd, he => by
    cases n with
    | zero => simp [D.pl] at hd
    | succ n => cases m with
      | zero => simp [D.pl] at he
      | succ m =>
        simp only [D.pl] at hd he
        simp only [D.toPy, alike, D.alk]
        exact alkAll_py hd he
  | .tup xs, .tup ys, hd, he => by
    cases n with
    | zero => simp [D.pl] at hd
    | succ n => cases m with
      | zero => simp [D.pl] at he
      | succ m =>
        simp only [D.pl] at hd he
        simp only [D.toPy, alike, D.alk]
        exact alkAll_py hd he
  | .non, e, hd, he => by cases e <;> first | (exfalso; cases m <;> simp [D.pl] at he; done) | simp [D.toPy, alike, D.alk]
  | .bl _, e, hd, he => by cases e <;> first | (exfalso; cases m <;> simp [D.pl] at he; done) | simp [D.toPy, alike, D.alk]
  | .int _, e, hd, he => by cases e <;> first | (exfalso; cases m <;> simp [D.pl] at he; done) | simp [D.toPy, alike, D.alk]
  | .str _, e, hd, he => by cases e <;> first | (exfalso; cases m <;> simp [D.pl] at he; done) | simp [D.toPy, alike, D.alk]
  | .lst _, .non, hd, he | .lst _, .bl _, hd, he | .lst _, .int _, hd, he | .lst _, .str _, hd, he | .lst _, .tup _, hd, he => by simp [D.toPy, alike, D.alk]
  | .tup _, .non, hd, he | .tup _, .bl _, hd, he | .tup _, .int _, hd, he | .tup _, .str _, hd, he | .tup _, .lst _, hd, he => by simp [D.toPy, alike, D.alk]
  | .lst _, .dct _, hd, he | .lst _, .set _, hd, he | .lst _, .exc _ _, hd, he | .lst _, .box _, hd, he | .lst _, .scr _, hd, he => by cases m <;> simp [D.pl] at he
  | .tup _, .dct _, hd, he | .tup _, .set _, hd, he | .tup _, .exc _ _, hd, he | .tup _, .box _, hd, he | .tup _, .scr _, hd, he => by cases m <;> simp [D.pl] at he
  | .dct _, _, hd, _ | .set _, _, hd, _ | .exc _ _, _, hd, _ | .box _, _, hd, _ | .scr _, _, hd, _ => by cases n <;> simp [D.pl] at hd
theorem alkAll_py {n m : Nat} : ∀ {xs ys : List D}, plAll n xs = true → plAll m ys = true → alikeAll (toPyAll xs) (toPyAll ys) = alkAll xs ys
  | [], [], _, _ => by simp [toPyAll, alikeAll, alkAll]
  | [], _ :: _, _, _ => by simp [toPyAll, alikeAll, alkAll]
  | _ :: _, [], _, _ => by simp [toPyAll, alikeAll, alkAll]
  | x :: xs, y :: ys, h, k => by
    simp only [plAll, Bool.and_eq_true] at h k
    simp only [toPyAll, alikeAll, alkAll]
    rw [alk_py h.1 k.1, alkAll_py h.2 k.2]
end
mutual
theorem alk_comm : ∀ {d e : D}, d.alk e = true → e.alk d = true
  | .lst xs, .lst ys, h => by simp only [D.alk] at h ⊢; exact alkAll_comm h
  | .tup xs, .tup ys, h => by simp only [D.alk] at h ⊢; exact alkAll_comm h
  | .non, e, h => by cases e <;> simp [D.alk] at h ⊢
  | .bl _, e, h => by cases e <;> simp [D.alk] at h ⊢
  | .int _, e, h => by cases e <;> simp [D.alk] at h ⊢
  | .str _, e, h => by cases e <;> simp [D.alk] at h ⊢
  | .lst _, .non, h | .lst _, .bl _, h | .lst _, .int _, h | .lst _, .str _, h | .lst _, .tup _, h | .lst _, .dct _, h | .lst _, .set _, h | .lst _, .exc _ _, h | .lst _, .box _, h | .lst _, .scr _, h => by simp [D.alk] at h
  | .tup _, .non, h | .tup _, .bl _, h | .tup _, .int _, h | .tup _, .str _, h | .tup _, .lst _, h | .tup _, .dct _, h | .tup _, .set _, h | .tup _, .exc _ _, h | .tup _, .box _, h | .tup _, .scr _, h => by simp [D.alk] at h
  | .dct _, _, h | .set _, _, h | .exc _ _, _, h | .box _, _, h | .scr _, _, h => by simp [D.alk] at h
theorem alkAll_comm : ∀ {xs ys : List D}, alkAll xs ys = true → alkAll ys xs = true
  | [], [], _ => by simp [alkAll]
  | [], _ :: _, _ => by simp [alkAll]
  | _ :: _, [], _ => by simp [alkAll]
  | x :: xs, y :: ys, h => by
    simp only [alkAll, Bool.and_eq_true] at h ⊢
    exact ⟨alk_comm h.1, alkAll_comm h.2⟩
end
theorem rowLt_nil_cons (y : PyData) (ys : List PyData) : PyProof.Rows.lexLt itemOrd (keyToksAll []) (keyToksAll (y :: ys)) = true := by
  simp [keyToksAll, PyProof.Rows.lexLt, itemOrd, itemLt]
theorem rowLt_cons_nil (y : PyData) (ys : List PyData) : PyProof.Rows.lexLt itemOrd (keyToksAll (y :: ys)) (keyToksAll []) = false := by
  simp [keyToksAll, PyProof.Rows.lexLt, itemOrd, itemLt]
theorem rowLt_nil_nil : PyProof.Rows.lexLt itemOrd (keyToksAll []) (keyToksAll []) = false := by
  simp [keyToksAll, PyProof.Rows.lexLt, itemOrd, itemLt]
mutual
theorem lt_py {n m : Nat} : ∀ {d e : D}, d.pl n = true → e.pl m = true → d.alk e = true → dataLt d.toPy e.toPy = d.lt e
  | .lst xs, .lst ys, hd, he, ha => by
    cases n with
    | zero => simp [D.pl] at hd
    | succ n => cases m with
      | zero => simp [D.pl] at he
      | succ m =>
        simp only [D.pl] at hd he
        simp only [D.alk] at ha
        simp only [D.toPy, D.lt]
        rw [dataLt_list]
        exact ltAll_py hd he ha
  | .tup xs, .tup ys, hd, he, ha => by
    cases n with
    | zero => simp [D.pl] at hd
    | succ n => cases m with
      | zero => simp [D.pl] at he
      | succ m =>
        simp only [D.pl] at hd he
        simp only [D.alk] at ha
        simp only [D.toPy, D.lt]
        rw [dataLt_tuple]
        exact ltAll_py hd he ha
  | .bl a, .bl b, _, _, _ => by simp only [D.toPy, D.lt]; rw [dataLt_bool]; cases a <;> cases b <;> rfl
  | .int i, .int j, _, _, _ => by simp only [D.toPy, D.lt]; rw [dataLt_int]
  | .str x, .str y, _, _, _ => by simp only [D.toPy, D.lt]; rw [dataLt_str]
  | .non, .non, _, _, _ => by simp [D.toPy, D.lt, dataLt, keyToks, PyProof.Rows.lexLt, itemOrd, itemLt]
  | .non, .bl _, _, _, ha | .non, .int _, _, _, ha | .non, .str _, _, _, ha | .non, .lst _, _, _, ha | .non, .tup _, _, _, ha | .non, .dct _, _, _, ha | .non, .set _, _, _, ha | .non, .exc _ _, _, _, ha | .non, .box _, _, _, ha | .non, .scr _, _, _, ha => by simp [D.alk] at ha
  | .bl _, .non, _, _, ha | .bl _, .int _, _, _, ha | .bl _, .str _, _, _, ha | .bl _, .lst _, _, _, ha | .bl _, .tup _, _, _, ha | .bl _, .dct _, _, _, ha | .bl _, .set _, _, _, ha | .bl _, .exc _ _, _, _, ha | .bl _, .box _, _, _, ha | .bl _, .scr _, _, _, ha => by simp [D.alk] at ha
  | .int _, .non, _, _, ha | .int _, .bl _, _, _, ha | .int _, .str _, _, _, ha | .int _, .lst _, _, _, ha | .int _, .tup _, _, _, ha | .int _, .dct _, _, _, ha | .int _, .set _, _, _, ha | .int _, .exc _ _, _, _, ha | .int _, .box _, _, _, ha | .int _, .scr _, _, _, ha => by simp [D.alk] at ha
  | .str _, .non, _, _, ha | .str _, .bl _, _, _, ha | .str _, .int _, _, _, ha | .str _, .lst _, _, _, ha | .str _, .tup _, _, _, ha | .str _, .dct _, _, _, ha | .str _, .set _, _, _, ha | .str _, .exc _ _, _, _, ha | .str _, .box _, _, _, ha | .str _, .scr _, _, _, ha => by simp [D.alk] at ha
  | .lst _, .non, _, _, ha | .lst _, .bl _, _, _, ha | .lst _, .int _, _, _, ha | .lst _, .str _, _, _, ha | .lst _, .tup _, _, _, ha | .lst _, .dct _, _, _, ha | .lst _, .set _, _, _, ha | .lst _, .exc _ _, _, _, ha | .lst _, .box _, _, _, ha | .lst _, .scr _, _, _, ha => by simp [D.alk] at ha
  | .tup _, .non, _, _, ha | .tup _, .bl _, _, _, ha | .tup _, .int _, _, _, ha | .tup _, .str _, _, _, ha | .tup _, .lst _, _, _, ha | .tup _, .dct _, _, _, ha | .tup _, .set _, _, _, ha | .tup _, .exc _ _, _, _, ha | .tup _, .box _, _, _, ha | .tup _, .scr _, _, _, ha => by simp [D.alk] at ha
  | .dct _, _, hd, _, _ | .set _, _, hd, _, _ | .exc _ _, _, hd, _, _ | .box _, _, hd, _, _ | .scr _, _, hd, _, _ => by cases n <;> simp [D.pl] at hd
theorem ltAll_py {n m : Nat} : ∀ {xs ys : List D}, plAll n xs = true → plAll m ys = true → alkAll xs ys = true → PyProof.Rows.lexLt itemOrd (keyToksAll (toPyAll xs)) (keyToksAll (toPyAll ys)) = ltAll xs ys
  | [], [], _, _, _ => by simp only [toPyAll, ltAll]; exact rowLt_nil_nil
  | [], _ :: _, _, _, _ => by simp only [toPyAll, ltAll]; exact rowLt_nil_cons _ _
  | _ :: _, [], _, _, _ => by simp only [toPyAll, ltAll]; exact rowLt_cons_nil _ _
  | x :: xs, y :: ys, h, k, ha => by
    simp only [plAll, Bool.and_eq_true] at h k
    simp only [alkAll, Bool.and_eq_true] at ha
    simp only [toPyAll, ltAll]
    rw [dataLt_cons (by rw [alk_py h.1 k.1]; exact ha.1), eqv_py h.1 k.1, ltAll_py h.2 k.2 ha.2, lt_py h.1 k.1 ha.1]
end

/-! ### a value reads as its data -/
section
variable {X : Cx} {pins : List (Addr × Obj)} {σ : L2.St} {H : Hp} {s : Shared} {ρ : List Addr}
mutual
theorem Rep.dp {K : PySem.W.Frag} {n : Nat} : ∀ {d : D} {v : V}, d.pl n = true → Rep K ρ H v d → Dp K H v d.toPy
  | .non, _, _, h => by cases h; exact .non
  | .bl _, _, _, h => by cases h; exact .bl _
  | .int _, _, _, h => by cases h; exact .int _
  | .str _, _, _, h => by cases h; exact .str _
  | .lst xs, _, p, h => by
    cases n with
    | zero => simp [D.pl] at p
    | succ n =>
      cases h with
      | lst h r => simp only [D.pl] at p; simp only [D.toPy]; exact .lst (.inl (.inl h)) (RepAll.dp p r)
  | .tup xs, _, p, h => by
    cases n with
    | zero => simp [D.pl] at p
    | succ n =>
      cases h with
      | tup h r => simp only [D.pl] at p; simp only [D.toPy]; exact .tup h (RepAll.dp p r)
  | .dct _, _, p, _ | .set _, _, p, _ | .exc _ _, _, p, _ | .box _, _, p, _ | .scr _, _, p, _ => by cases n <;> simp [D.pl] at p
theorem RepAll.dp {K : PySem.W.Frag} {n : Nat} : ∀ {ds : List D} {vs : List V}, plAll n ds = true → RepAll K ρ H vs ds → DpAll K H vs (toPyAll ds)
  | [], _, _, h => by cases h; simp only [toPyAll]; exact .nil
  | d :: ds, _, p, h => by
    cases h with
    | cons h r => simp only [plAll, Bool.and_eq_true] at p; simp only [toPyAll]; exact .cons (Rep.dp p.1 h) (RepAll.dp p.2 r)
end
theorem Rep.reads {d : D} {v : V} {u : Value} {n : Nat} (I : Inv X pins σ H s) (p : d.pl n = true) (h : Rep X.K ρ H v d) (r : RelV v u) : ∃ as, Reads s.heap u d.toPy as := Dp.reads I _ _ _ (h.dp p) r
theorem RepAll.reads {ds : List D} {vs : List V} {us : List Value} {n : Nat} (I : Inv X pins σ H s) (p : plAll n ds = true) (h : RepAll X.K ρ H vs ds) (r : Vals vs us) : ∃ as, ReadsAll s.heap us (toPyAll ds) as := Dp.readsAll I _ _ _ (h.dp p) r
end
end Pv

end

section
set_option Elab.async false
set_option linter.all false
set_option maxRecDepth 100000
/-! Pv3: expressions. -/
namespace Pv
open PySem L2 PySem.W PyProof.Rows PySem.SeqAt

/-! ### ends of expressions; f: the value is a new list (or dict) of its own -/
def OutB (f : Bool) (K : PySem.W.Frag) (mg : Str → Option Value) (W : Value → Option Addr → Hp → Prop) (r : R D) (ρ : List Addr) (Hs H : Hp) (Q : VK) : Prop := match r with
  | .ok d m => match f with
    | false => ∀ v ρ' Hs' H', Tr ρ Hs H ρ' Hs' H' → Bs K ρ' m Hs' H' → Rep K ρ' Hs' v d → Q v H'
    | true => ∀ a ρ' Hs' H', Tr ρ Hs H ρ' Hs' H' → Bs K ρ' m Hs' H' → Own K ρ' Hs' H' a d → Hs' a = none → a ∉ ρ' → H a = none → H' a ≠ none → Q (.ref a) H'
  | .exc c fs m => ∀ cls dx ρ' Hs' H', Tr ρ Hs H ρ' Hs' H' → Bs K ρ' m Hs' H' → EOk K mg ρ' Hs' cls dx c fs → W cls dx H'
  | .bad => False
def cEB (f : Bool) (X : Cx) (H0 : Hp) (W : WX) (ω : List Md) (c : EC) : TE := fun σ H Q => ∃ Γ m ρ Hs, Bs X.K ρ m Hs H ∧ En X.K H0 ω Γ ρ Hs H σ ∧ OutB f X.K X.mg (fun cls dx H' => W cls dx σ H') (c Γ m) ρ Hs H Q
abbrev EB (f : Bool) (X : Cx) (H0 : Hp) (W : WX) (ω : List Md) (e : Expr) (c : EC) : Prop := PE X e (cEB f X H0 W ω c)

section
variable {γ δ : Type} {f : Bool} {K : PySem.W.Frag} {mg : Str → Option Value} {W : Value → Option Addr → Hp → Prop} {ρ ρ1 : List Addr} {Hs H Hs1 H1 : Hp}
theorem OutB.out {r : R D} {Q : VK} : OutB false K mg W r ρ Hs H Q = Out K mg (Rep K) W r ρ Hs H Q := by cases r <;> rfl
theorem OutB.tr {r : R D} {Q : VK} (t : Tr ρ Hs H ρ1 Hs1 H1) (h : OutB f K mg W r ρ Hs H Q) : OutB f K mg W r ρ1 Hs1 H1 Q := by
  cases r with
  | ok d m =>
    cases f with
    | false => exact fun v ρ' Hs' H' t' b rp => h v ρ' Hs' H' (t.trans t') b rp
    | true => exact fun a ρ' Hs' H' t' b o1 o2 o3 o4 o5 => h a ρ' Hs' H' (t.trans t') b o1 o2 o3 (t.dom a o4) o5
  | exc c fs m => exact fun cls dx ρ' Hs' H' t' b e => h cls dx ρ' Hs' H' (t.trans t') b e
  | bad => exact h
theorem OutB.bind {α β : Type} {Rp : List Addr → Hp → β → α → Prop} {r : R α} {g : α → Mu → R D} {Q : VK} (h : OutB f K mg W (r.bind g) ρ Hs H Q) :
    Out K mg Rp W r ρ Hs H (Aft K Rp ρ Hs H fun a m ρ1 Hs1 H1 => OutB f K mg W (g a m) ρ1 Hs1 H1 Q) := by
  cases r with
  | ok a m => exact fun v ρ' Hs' H' t b rp => ⟨a, m, ρ', Hs', t, b, rp, OutB.tr t h⟩
  | exc c fs m => exact h
  | bad => exact h

theorem hs_none (sb : Sub Hs H) {p : Addr} (hp : H p = none) : Hs p = none := sb.free hp
/-- a new address in the part that never changes -/
theorem tr_new {p : Addr} {o : HO} (sb : Sub Hs H) (hp : H p = none) : Tr ρ Hs H ρ (upd Hs p o) (upd H p o) where
  sub := Sub.new (hs_none sb hp)
  new a u e := by
    by_cases z : a = p
    · subst z; exact .inr hp
    · rw [upd_ne z] at e; exact .inl e
  pre := .refl _
  bnew := fun a h => .inl h
  dom a h := by
    by_cases z : a = p
    · subst z; exact hp
    · rw [upd_ne z] at h; exact h
  same a u _ h := Sub.new hp a u h
/-- a new address that may change later -/
theorem tr_newF {p : Addr} {o : HO} (hp : H p = none) : Tr ρ Hs H ρ Hs (upd H p o) where
  sub := .refl _
  new a u e := .inl e
  pre := .refl _
  bnew := fun a h => .inl h
  dom a h := by
    by_cases z : a = p
    · subst z; exact hp
    · rw [upd_ne z] at h; exact h
  same a u _ h := Sub.new hp a u h
theorem Bs.new {m : Mu} {p : Addr} {o : HO} (b : Bs K ρ m Hs H) (hp : H p = none) : Bs K ρ m (upd Hs p o) (upd H p o) where
  sub a u e := by
    by_cases z : a = p
    · subst z; rw [upd_same] at e ⊢; exact e
    · rw [upd_ne z] at e ⊢; exact b.sub a u e
  bx n ds h := by
    obtain ⟨a, vs, h1, h2, h3, h4⟩ := b.bx n ds h
    have z : a ≠ p := ne_of_none h3 hp
    exact ⟨a, vs, h1, by rw [upd_ne z]; exact h2, by rw [upd_ne z]; exact h3, h4.mono (.refl _) (Sub.new (hs_none b.sub hp))⟩
  nd := b.nd
  len := b.len
theorem Bs.newF {m : Mu} {p : Addr} {o : HO} (b : Bs K ρ m Hs H) (hp : H p = none) : Bs K ρ m Hs (upd H p o) where
  sub := b.sub.trans (Sub.new hp)
  bx n ds h := by
    obtain ⟨a, vs, h1, h2, h3, h4⟩ := b.bx n ds h
    have z : a ≠ p := ne_of_none h3 hp
    exact ⟨a, vs, h1, h2, by rw [upd_ne z]; exact h3, h4⟩
  nd := b.nd
  len := b.len
theorem Bs.out {m : Mu} {p : Addr} (b : Bs K ρ m Hs H) (hp : H p = none) : p ∉ ρ := fun q => by
  obtain ⟨n, hn⟩ := List.getElem?_of_mem q
  have hl : n < m.length := by rw [← b.len]; exact (List.getElem?_eq_some_iff.mp hn).1
  obtain ⟨a, vs, h1, _, h3, _⟩ := b.bx n _ (List.getElem?_eq_getElem hl)
  rw [hn] at h1
  cases h1
  rw [hp] at h3
  cases h3
/-- a new list ends an expression -/
theorem OutB.newL {m : Mu} {vs : List V} {ds : List D} {Q : VK} {p : Addr} (b : Bs K ρ m Hs H) (r : RepAll K ρ Hs vs ds) (h : OutB f K mg W (.ok (.lst ds) m) ρ Hs H Q) (hp : H p = none) : Q (.ref p) (upd H p (.lst vs)) := by
  cases f with
  | false => exact h _ ρ _ _ (tr_new b.sub hp) (b.new hp) (.lst upd_same (r.mono (.refl _) (Sub.new (hs_none b.sub hp))))
  | true => exact h p ρ Hs _ (tr_newF hp) (b.newF hp) (.lst upd_same r) (hs_none b.sub hp) (b.out hp) hp (by rw [upd_same]; exact fun z => nomatch z)
theorem OutB.newT {m : Mu} {vs : List V} {ds : List D} {Q : VK} {p : Addr} (b : Bs K ρ m Hs H) (r : RepAll K ρ Hs vs ds) (h : OutB false K mg W (.ok (.tup ds) m) ρ Hs H Q) (hp : H p = none) : Q (.ref p) (upd H p (.tup vs)) :=
  h _ ρ _ _ (tr_new b.sub hp) (b.new hp) (.tup (.inl (.inl upd_same)) (r.mono (.refl _) (Sub.new (hs_none b.sub hp))))
theorem OutB.val {m : Mu} {v : V} {d : D} {Q : VK} (b : Bs K ρ m Hs H) (r : Rep K ρ Hs v d) (h : OutB false K mg W (.ok d m) ρ Hs H Q) : Q v H := h v ρ Hs H (.refl ..) b r
/-- a new list may be held as a value -/
theorem own_val {a : Addr} {d : D} {m : Mu} (b : Bs K ρ m Hs H) (o : Own K ρ Hs H a d) (h1 : Hs a = none) (h2 : a ∉ ρ) : ∃ u, H a = some u ∧ Rep K ρ (upd Hs a u) (.ref a) d ∧ Bs K ρ m (upd Hs a u) H := by
  cases o with
  | lst h r =>
    refine ⟨_, h, .lst upd_same (r.mono (.refl _) (Sub.new h1)), ⟨fun c u e => ?_, fun n ds e => ?_, b.nd, b.len⟩⟩
    · by_cases z : c = a
      · subst z; rw [upd_same] at e; cases e; exact h
      · rw [upd_ne z] at e; exact b.sub c u e
    · obtain ⟨c, vs, q1, q2, q3, q4⟩ := b.bx n ds e
      have z : c ≠ a := fun z => h2 (by subst z; exact List.mem_of_getElem? q1)
      exact ⟨c, vs, q1, by rw [upd_ne z]; exact q2, q3, q4.mono (.refl _) (Sub.new h1)⟩
end

section
variable {X : Cx} {H0 : Hp} {W : WX} {ω : List Md} {e a b : Expr} {c ca cb : EC} {f : Bool} {pos : Pos}
theorem EB.ev (h : EB false X H0 W ω e c) : EV X H0 W ω e c := PE.imp h fun σ H Q ⟨Γ, m, ρ, Hs, b, en, o⟩ => ⟨Γ, m, ρ, Hs, b, en, by rw [OutB.out]; exact o⟩
theorem EV.eb (h : EV X H0 W ω e c) : EB false X H0 W ω e c := PE.imp h fun σ H Q ⟨Γ, m, ρ, Hs, b, en, o⟩ => ⟨Γ, m, ρ, Hs, b, en, by rw [← OutB.out]; exact o⟩
/-- a new list, held as a value -/
theorem EB.frz (h : EB true X H0 W ω e c) : EV X H0 W ω e c := PE.imp h fun σ H Q ⟨Γ, m, ρ, Hs, b, en, o⟩ => ⟨Γ, m, ρ, Hs, b, en, by
  cases hc : c Γ m with
  | ok d m' =>
    rw [hc] at o
    intro a ρ' Hs' H' t b' o1 o2 o3 o4 o5
    obtain ⟨u, hu, rp, b2⟩ := own_val b' o1 o2 o3
    refine o (.ref a) ρ' (upd Hs' a u) H' ⟨t.sub.trans (Sub.new o2), fun x v q => ?_, t.pre, t.bnew, t.dom, t.same⟩ b2 rp
    by_cases z : x = a
    · subst z; exact .inr o4
    · rw [upd_ne z] at q; exact t.new x v q
  | exc c fs m' => rw [hc] at o; exact o
  | bad => rw [hc] at o; exact o⟩

/-! ### names and constants -/
def cVar (i : Nat) : EC := fun Γ m => .ok (Γ.getD i .non) m
def cC (d : D) : EC := fun _ m => .ok d m
theorem ev_var (i : Nat) {x : Str} {p : Pos} (hw : ω[i]? = some .sh := by rfl) (hN : X.N[i]? = some x := by rfl) (hv : Vis X.env.scope x := by first | exact Or.inl rfl | exact Or.inr (Or.inl rfl) | exact Or.inr (Or.inr rfl)) (hd : (x == ("__debug__" : Str)) = false := by decide)
    (hcd : (x == ("__classdict__" : Str)) = false := by decide) : EV X H0 W ω (.Name x p) (cVar i) := PE.imp (pe_var hN hv hd hcd) fun σ H Q ⟨Γ, m, ρ, Hs, b, en, o⟩ => by
  obtain ⟨v, h1, h2⟩ := en.sh i hw
  exact ⟨v, h1, o v ρ Hs H (.refl ..) b h2⟩
theorem ev_int {i j} : EV X H0 W ω (.Constant (.int i) j pos) (cC (.int i)) := PE.imp pe_int fun σ H Q ⟨Γ, m, ρ, Hs, b, en, o⟩ => o _ ρ Hs H (.refl ..) b (.int _)
theorem ev_bl {i j} : EV X H0 W ω (.Constant (.bool i) j pos) (cC (.bl i)) := PE.imp pe_bl fun σ H Q ⟨Γ, m, ρ, Hs, b, en, o⟩ => o _ ρ Hs H (.refl ..) b (.bl _)
theorem ev_non {j} : EV X H0 W ω (.Constant .none j pos) (cC .non) := PE.imp pe_non fun σ H Q ⟨Γ, m, ρ, Hs, b, en, o⟩ => o _ ρ Hs H (.refl ..) b .non
theorem ev_str {i j} : EV X H0 W ω (.Constant (.str i) j pos) (cC (.str i)) := PE.imp pe_str fun σ H Q ⟨Γ, m, ρ, Hs, b, en, o⟩ => o _ ρ Hs H (.refl ..) b (.str _)
/-- a module's constant number -/
theorem ev_globI {x : Str} {i : Int} {t : Tok} {p : Pos} (hm : X.mg x = some (.int i t)) (hg : Gl X x := by rfl) (hd : (x == ("__debug__" : Str)) = false := by decide) : EV X H0 W ω (.Name x p) (cC (.int i)) :=
  PE.imp (pe_glob (v := .int i) hg hm ⟨_, rfl⟩ hd) fun σ H Q ⟨Γ, m, ρ, Hs, b, en, o⟩ => o _ ρ Hs H (.refl ..) b (.int _)

/-! ### operators -/
def R.of {α : Type} (o : Option α) (m : Mu) : R α := match o with
  | some d => .ok d m
  | none => .bad
/-- a two-place operator computes g -/
def OpD (f : Bool) (X : Cx) (op : Value → Value → Sem Value) (g : Mu → D → D → Option D) : Prop :=
  OpR X op fun x y H Q => ∃ W d e m ρ Hs, Bs X.K ρ m Hs H ∧ Rep X.K ρ Hs x d ∧ Rep X.K ρ Hs y e ∧ OutB f X.K X.mg W (R.of (g m d e) m) ρ Hs H Q
def c2 (g : Mu → D → D → Option D) (ca cb : EC) : EC := fun Γ m => (ca Γ m).bind fun d m1 => (cb Γ m1).bind fun e m2 => R.of (g m2 d e) m2
theorem c2_read {g : Mu → D → D → Option D} {σ : L2.St} {H : Hp} {Q : VK} (h : cEB f X H0 W ω (c2 g ca cb) σ H Q) :
    cE X H0 W ω ca σ H fun x H1 => cE X H0 W ω cb σ H1 fun y H2 => ∃ W d e m ρ Hs, Bs X.K ρ m Hs H2 ∧ Rep X.K ρ Hs x d ∧ Rep X.K ρ Hs y e ∧ OutB f X.K X.mg W (R.of (g m d e) m) ρ Hs H2 Q := by
  obtain ⟨Γ, m, ρ, Hs, b, en, o⟩ := h
  refine ⟨Γ, m, ρ, Hs, b, en, Out.mono (OutB.bind o) fun v H1 ⟨d, m1, ρ1, Hs1, t1, b1, r1, o1⟩ => ?_⟩
  exact ⟨Γ, m1, ρ1, Hs1, b1, en.mono t1, Out.mono (OutB.bind o1) fun w H2 ⟨d2, m2, ρ2, Hs2, t2, b2, r2, o2⟩ => ⟨_, d, d2, m2, ρ2, Hs2, b2, r1.mono t2.pre t2.sub, r2, o2⟩⟩
theorem ev_op {op : Operator} {g : Mu → D → D → Option D} (ho : OpD f X (binaryOp op) g) (ha : EV X H0 W ω a ca) (hb : EV X H0 W ω b cb) : EB f X H0 W ω (.BinOp a op b pos) (c2 g ca cb) :=
  PE.imp (pe_op ho ha hb) fun σ H Q h => c2_read h
theorem ev_cmp {op : CmpOp} {g : Mu → D → D → Option D} (ho : OpD false X (compareOp op) g) (ha : EV X H0 W ω a ca) (hb : EV X H0 W ω b cb) (hm : behindInMarks op b = false) : EV X H0 W ω (.Compare a [op] [b] pos) (c2 g ca cb) :=
  EB.ev (PE.imp (pe_cmpR ho ha hb hm) fun σ H Q h => c2_read h)
end

section
variable {X : Cx} {f : Bool}
def mulOk (i j : Int) : Bool := decide (-(18446744073709551616) < i ∧ i < 18446744073709551616) || decide (-(18446744073709551616) < j ∧ j < 18446744073709551616) || Nat.blt (i.natAbs.log2 + j.natAbs.log2) 1000000
def addD : Mu → D → D → Option D
  | _, .int i, .int j => some (.int (i + j))
  | _, .lst xs, .lst ys => if szOk (xs.length + ys.length) then some (.lst (xs ++ ys)) else none
  | _, .tup xs, .tup ys => if szOk (xs.length + ys.length) then some (.tup (xs ++ ys)) else none
  | _, .str x, .str y => if szOk (x.length + y.length) then some (.str (x ++ y)) else none
  | _, _, _ => none
def subD : Mu → D → D → Option D
  | _, .int i, .int j => some (.int (i - j))
  | _, _, _ => none
def mulD : Mu → D → D → Option D
  | _, .int i, .int j => if mulOk i j then some (.int (i * j)) else none
  | _, .lst xs, .int k => if Nat.ble k.toNat 1000000 && szOk (xs.length * k.toNat) && decide (-1000000 ≤ k) then some (.lst (List.replicate k.toNat xs).flatten) else none
  | _, .tup xs, .int k => if !xs.isEmpty && decide (2 ≤ k) && decide (k ≤ 1000) && Nat.ble xs.length 1000 then some (.tup (List.replicate k.toNat xs).flatten) else none
  | _, _, _ => none
def fdivD : Mu → D → D → Option D
  | _, .int i, .int j => if decide (0 < j) && Nat.blt j.natAbs.log2 9000 then some (.int (i / j)) else none
  | _, _, _ => none
def modD : Mu → D → D → Option D
  | _, .int i, .int j => if decide (0 < j) then some (.int (i % j)) else none
  | _, _, _ => none
def powD : Mu → D → D → Option D
  | _, .int i, .int j => if decide (0 ≤ j) && Nat.ble ((i.natAbs.log2 + 1) * j.toNat) 134217728 then some (.int (i ^ j.toNat)) else none
  | _, _, _ => none

theorem OutB.bad {K : PySem.W.Frag} {mg : Str → Option Value} {W : Value → Option Addr → Hp → Prop} {ρ : List Addr} {Hs H : Hp} {Q : VK} (h : OutB f K mg W .bad ρ Hs H Q) : False := h
theorem RepAll.rep {K : PySem.W.Frag} {ρ : List Addr} {H : Hp} {vs : List V} {ds : List D} (h : RepAll K ρ H vs ds) : ∀ n : Nat, RepAll K ρ H (List.replicate n vs).flatten (List.replicate n ds).flatten
  | 0 => .nil
  | n + 1 => by rw [List.replicate_succ, List.replicate_succ, List.flatten_cons, List.flatten_cons]; exact h.append (RepAll.rep h n)
/-- a guard in an operator's value -/
theorem of_if {α : Type} {c : Bool} {x r : α} (h : (if c = true then some x else none) = some r) : c = true ∧ x = r := by
  cases c with
  | true => exact ⟨rfl, Option.some.inj h⟩
  | false => cases h
theorem OutB.of {K : PySem.W.Frag} {mg : Str → Option Value} {W : Value → Option Addr → Hp → Prop} {ρ : List Addr} {Hs H : Hp} {Q : VK} {o : Option D} {m : Mu} (h : OutB f K mg W (R.of o m) ρ Hs H Q) : ∃ r, o = some r ∧ OutB f K mg W (.ok r m) ρ Hs H Q := by
  cases o with
  | none => exact h.elim
  | some r => exact ⟨r, rfl, h⟩
theorem opD_add : OpD false X (binaryOp .Add) addD := by
  intro pins s σ H x y v u Q I rx ry h
  obtain ⟨W, d, e, m, ρ, Hs, b, hx, hy, o⟩ := h
  obtain ⟨r, hg, o⟩ := OutB.of o
  cases hx <;> cases hy <;> simp only [addD] at hg <;> try (cases hg; done)
  case int.int i j => cases hg; exact op_add pins s σ H _ _ v u Q I rx ry ⟨i, j, rfl, rfl, o.val b (.int _)⟩
  case str.str i j =>
    obtain ⟨hz, rfl⟩ := of_if hg
    exact op_add_str pins s σ H _ _ v u Q I rx ry ⟨i, j, rfl, rfl, szOk_le hz, o.val b (.str _)⟩
  case lst.lst a vs ds r1 h1 a' vs' ds' r2 h2 =>
    obtain ⟨hz, rfl⟩ := of_if hg
    refine op_cat pins s σ H _ _ v u Q I rx ry ⟨_, _, _, _, rfl, rfl, b.sub _ _ r1, b.sub _ _ r2, ?_, fun p hp => OutB.newL b (h1.append h2) o hp⟩
    rw [h1.length, h2.length]; exact szOk_le hz
  case tup.tup a vs ds r1 h1 a' vs' ds' r2 h2 =>
    obtain ⟨hz, rfl⟩ := of_if hg
    have nil1 : vs = [] → ds = [] := fun z => by subst z; cases h1; rfl
    have nil2 : vs' = [] → ds' = [] := fun z => by subst z; cases h2; rfl
    refine op_catA pins s σ H _ _ v u Q I rx ry ⟨_, _, _, _, rfl, rfl, b.sub.t r1, b.sub.t r2, ?_, fun z => ?_, fun _ z => ?_, fun _ _ p hp => OutB.newT b (h1.append h2) o hp⟩
    · rw [h1.length, h2.length]; exact szOk_le hz
    · rw [nil1 z] at o; exact o.val b (.tup r2 h2)
    · rw [nil2 z, List.append_nil] at o; exact o.val b (.tup r1 h1)
/-- + of two lists, the value a new list -/
def addL : Mu → D → D → Option D
  | _, .lst xs, .lst ys => if szOk (xs.length + ys.length) then some (.lst (xs ++ ys)) else none
  | _, _, _ => none
theorem opD_addL : OpD f X (binaryOp .Add) addL := by
  intro pins s σ H x y v u Q I rx ry h
  obtain ⟨W, d, e, m, ρ, Hs, b, hx, hy, o⟩ := h
  obtain ⟨r, hg, o⟩ := OutB.of o
  cases hx <;> cases hy <;> simp only [addL] at hg <;> try (cases hg; done)
  case lst.lst a vs ds r1 h1 a' vs' ds' r2 h2 =>
    obtain ⟨hz, rfl⟩ := of_if hg
    refine op_cat pins s σ H _ _ v u Q I rx ry ⟨_, _, _, _, rfl, rfl, b.sub _ _ r1, b.sub _ _ r2, ?_, fun p hp => OutB.newL b (h1.append h2) o hp⟩
    rw [h1.length, h2.length]; exact szOk_le hz
theorem opD_sub : OpD false X (binaryOp .Sub) subD := by
  intro pins s σ H x y v u Q I rx ry h
  obtain ⟨W, d, e, m, ρ, Hs, b, hx, hy, o⟩ := h
  obtain ⟨r, hg, o⟩ := OutB.of o
  cases hx <;> cases hy <;> simp only [subD] at hg <;> try (cases hg; done)
  case int.int i j => cases hg; exact op_sub pins s σ H _ _ v u Q I rx ry ⟨i, j, rfl, rfl, o.val b (.int _)⟩
theorem opD_mod : OpD false X (binaryOp .Mod) modD := by
  intro pins s σ H x y v u Q I rx ry h
  obtain ⟨W, d, e, m, ρ, Hs, b, hx, hy, o⟩ := h
  obtain ⟨r, hg, o⟩ := OutB.of o
  cases hx <;> cases hy <;> simp only [modD] at hg <;> try (cases hg; done)
  case int.int i j =>
    obtain ⟨hz, rfl⟩ := of_if hg
    exact op_mod pins s σ H _ _ v u Q I rx ry ⟨i, j, rfl, rfl, of_decide_eq_true hz, o.val b (.int _)⟩
theorem opD_fdiv : OpD false X (binaryOp .FloorDiv) fdivD := by
  intro pins s σ H x y v u Q I rx ry h
  obtain ⟨W, d, e, m, ρ, Hs, b, hx, hy, o⟩ := h
  obtain ⟨r, hg, o⟩ := OutB.of o
  cases hx <;> cases hy <;> simp only [fdivD] at hg <;> try (cases hg; done)
  case int.int i j =>
    obtain ⟨hz, rfl⟩ := of_if hg
    rw [Bool.and_eq_true] at hz
    exact op_fdivW pins s σ H _ _ v u Q I rx ry ⟨i, j, rfl, rfl, ⟨of_decide_eq_true hz.1, Nat.lt_of_succ_le (Nat.le_of_ble_eq_true hz.2)⟩, o.val b (.int _)⟩
theorem op_powW {X : Cx} : OpR X (binaryOp .Pow) (rI (fun i j => 0 ≤ j ∧ (i.natAbs.log2 + 1) * j.toNat ≤ 134217728) fun i j => .int (i ^ j.toNat)) := opI fun i j _ _ _ _ _ hc q => PyProof.Rows.pow_int hc.1 (by
  have h2 : Builtin.Int.intBits i ≤ i.natAbs.log2 + 1 := by unfold Builtin.Int.intBits; split <;> omega
  have h3 : Builtin.Int.intBits i * j.toNat ≤ (i.natAbs.log2 + 1) * j.toNat := Nat.mul_le_mul_right _ h2
  have h4 : ((Builtin.Int.intBits i : Nat) : Int) * j = ((Builtin.Int.intBits i * j.toNat : Nat) : Int) := by rw [Int.natCast_mul, Int.toNat_of_nonneg hc.1]
  rw [h4]
  have := hc.2
  omega) q
theorem opD_pow : OpD false X (binaryOp .Pow) powD := by
  intro pins s σ H x y v u Q I rx ry h
  obtain ⟨W, d, e, m, ρ, Hs, b, hx, hy, o⟩ := h
  obtain ⟨r, hg, o⟩ := OutB.of o
  cases hx <;> cases hy <;> simp only [powD] at hg <;> try (cases hg; done)
  case int.int i j =>
    obtain ⟨hz, rfl⟩ := of_if hg
    rw [Bool.and_eq_true] at hz
    exact op_powW pins s σ H _ _ v u Q I rx ry ⟨i, j, rfl, rfl, ⟨of_decide_eq_true hz.1, Nat.le_of_ble_eq_true hz.2⟩, o.val b (.int _)⟩
theorem opD_mul : OpD false X (binaryOp .Mult) mulD := by
  intro pins s σ H x y v u Q I rx ry h
  obtain ⟨W, d, e, m, ρ, Hs, b, hx, hy, o⟩ := h
  obtain ⟨r, hg, o⟩ := OutB.of o
  cases hx <;> cases hy <;> simp only [mulD] at hg <;> try (cases hg; done)
  case int.int i j =>
    obtain ⟨hz, rfl⟩ := of_if hg
    simp only [mulOk, Bool.or_eq_true] at hz
    rcases hz with (hz | hz) | hz
    · exact op_mul pins s σ H _ _ v u Q I rx ry ⟨i, j, rfl, rfl, .inl (of_decide_eq_true hz), o.val b (.int _)⟩
    · exact op_mul pins s σ H _ _ v u Q I rx ry ⟨i, j, rfl, rfl, .inr (of_decide_eq_true hz), o.val b (.int _)⟩
    · exact op_mulW pins s σ H _ _ v u Q I rx ry ⟨i, j, rfl, rfl, Nat.lt_of_succ_le (Nat.le_of_ble_eq_true hz), o.val b (.int _)⟩
  case lst.int a vs ds r1 h1 k =>
    obtain ⟨hz, rfl⟩ := of_if hg
    rw [Bool.and_eq_true, Bool.and_eq_true] at hz
    have z1 := Nat.le_of_ble_eq_true hz.1.1
    have z2 := of_decide_eq_true hz.2
    have z3 := szOk_le hz.1.2
    exact op_rep pins s σ H _ _ v u Q I rx ry ⟨_, k, _, rfl, rfl, b.sub _ _ r1, by omega, by omega, by rw [h1.length]; exact z3, fun p hp => OutB.newL b (h1.rep _) o hp⟩
  case tup.int a vs ds r1 h1 k =>
    obtain ⟨hz, rfl⟩ := of_if hg
    rw [Bool.and_eq_true, Bool.and_eq_true, Bool.and_eq_true] at hz
    refine op_repT pins s σ H _ _ v u Q I rx ry ⟨_, k, _, rfl, rfl, b.sub.t r1, fun z => ?_, of_decide_eq_true hz.1.1.2, of_decide_eq_true hz.1.2, by rw [h1.length]; exact Nat.le_of_ble_eq_true hz.2, fun p hp => OutB.newT b (h1.rep _) o hp⟩
    subst z
    cases h1
    exact absurd hz.1.1.1 (by decide)
/-- a list times a number, the value a new list -/
def mulL : Mu → D → D → Option D
  | _, .lst xs, .int k => if Nat.ble k.toNat 1000000 && szOk (xs.length * k.toNat) && decide (-1000000 ≤ k) then some (.lst (List.replicate k.toNat xs).flatten) else none
  | _, _, _ => none
theorem opD_mulL : OpD f X (binaryOp .Mult) mulL := by
  intro pins s σ H x y v u Q I rx ry h
  obtain ⟨W, d, e, m, ρ, Hs, b, hx, hy, o⟩ := h
  obtain ⟨r, hg, o⟩ := OutB.of o
  cases hx <;> cases hy <;> simp only [mulL] at hg <;> try (cases hg; done)
  case lst.int a vs ds r1 h1 k =>
    obtain ⟨hz, rfl⟩ := of_if hg
    rw [Bool.and_eq_true, Bool.and_eq_true] at hz
    have z1 := Nat.le_of_ble_eq_true hz.1.1
    have z2 := of_decide_eq_true hz.2
    have z3 := szOk_le hz.1.2
    exact op_rep pins s σ H _ _ v u Q I rx ry ⟨_, k, _, rfl, rfl, b.sub _ _ r1, by omega, by omega, by rw [h1.length]; exact z3, fun p hp => OutB.newL b (h1.rep _) o hp⟩

/-! ### comparisons -/
def PLN : Nat := 40
def eqD (_ : Mu) (d e : D) : Option D := if d.pl PLN && e.pl PLN then some (.bl (d.eqv e)) else none
def neD (_ : Mu) (d e : D) : Option D := if d.pl PLN && e.pl PLN then some (.bl (!d.eqv e)) else none
def isNone : D → Bool
  | .non => true
  | _ => false
def ltOk (d e : D) : Bool := d.pl PLN && e.pl PLN && d.alk e && !isNone d
def ltD (_ : Mu) (d e : D) : Option D := if ltOk d e then some (.bl (d.lt e)) else none
def gtD (_ : Mu) (d e : D) : Option D := if ltOk d e then some (.bl (e.lt d)) else none
def leD (_ : Mu) (d e : D) : Option D := if ltOk d e then some (.bl (!e.lt d)) else none
def geD (_ : Mu) (d e : D) : Option D := if ltOk d e then some (.bl (!d.lt e)) else none
def isD : Mu → D → D → Option D
  | _, d, .non => some (.bl (isNone d))
  | _, _, _ => none
def isnD : Mu → D → D → Option D
  | _, d, .non => some (.bl (!isNone d))
  | _, _, _ => none
def inD : Mu → D → D → Option D
  | _, d, .lst xs => if d.pl PLN && plAll PLN xs then some (.bl (xs.any fun y => y.eqv d)) else none
  | _, d, .tup xs => if d.pl PLN && plAll PLN xs then some (.bl (xs.any fun y => y.eqv d)) else none
  | _, _, _ => none
def ninD : Mu → D → D → Option D
  | _, d, .lst xs => if d.pl PLN && plAll PLN xs then some (.bl (!xs.any fun y => y.eqv d)) else none
  | _, d, .tup xs => if d.pl PLN && plAll PLN xs then some (.bl (!xs.any fun y => y.eqv d)) else none
  | _, _, _ => none

/-- by values: both read over the whole heap, the answer a plain one -/
def BopD (X : Cx) (op : Value → Value → Sem Value) (g : Mu → D → D → Option D) : Prop :=
  ∀ (pins : List (Addr × Obj)) (s : Shared) (σ : L2.St) (H : Hp) (x y : V) (v u : Value) (Q : VK) (ρ : List Addr) (m : Mu) (d e r : D), Inv X pins σ H s → RelV x v → RelV y u → Rep X.K ρ H x d → Rep X.K ρ H y e → g m d e = some r →
    (∀ z, (∀ ρ' H', Rep X.K ρ' H' z r) → Q z H) → wpAny (model X.prog X.w) X.A (op v u) (EP X pins σ Q) X.xe s
theorem BopD.op {op : Value → Value → Sem Value} {g : Mu → D → D → Option D} (h : BopD X op g) : OpD false X op g := by
  intro pins s σ H x y v u Q I rx ry h'
  obtain ⟨W, d, e, m, ρ, Hs, b, hx, hy, o⟩ := h'
  obtain ⟨r, hg, o⟩ := OutB.of o
  exact h pins s σ H x y v u Q ρ m d e r I rx ry (hx.mono (.refl _) b.sub) (hy.mono (.refl _) b.sub) hg fun z hz => o.val b (hz _ _)
theorem not_none_of {n : Nat} {d : D} (h : d.pl n = true) (h' : isNone d = false) : d.toPy ≠ .none := by
  cases d <;> first | (simp [isNone] at h'; done) | (simp [D.toPy]; done) | (cases n <;> simp [D.pl] at h)
theorem any_py {n m : Nat} {d : D} (hd : d.pl m = true) : ∀ {xs : List D}, plAll n xs = true → ((toPyAll xs).any fun y => PyData.eqv y d.toPy) = xs.any fun y => y.eqv d
  | [], _ => by simp [toPyAll]
  | x :: xs, h => by
    simp only [plAll, Bool.and_eq_true] at h
    simp only [toPyAll, List.any_cons]
    rw [eqv_py h.1 hd, any_py hd h.2]
theorem bop_is : BopD X (compareOp .Is) isD := by
  intro pins s σ H x y v u Q ρ m d e r I rx ry hx hy hg q
  cases hy <;> simp only [isD] at hg <;> try (cases hg; done)
  cases hg
  refine op_isN pins s σ H _ _ v u Q I rx ry ⟨rfl, ?_⟩
  cases hx <;> exact q _ fun _ _ => .bl _
theorem bop_isn : BopD X (compareOp .IsNot) isnD := by
  intro pins s σ H x y v u Q ρ m d e r I rx ry hx hy hg q
  cases hy <;> simp only [isnD] at hg <;> try (cases hg; done)
  cases hg
  refine op_notN pins s σ H _ _ v u Q I rx ry ⟨rfl, ?_⟩
  cases hx <;> exact q _ fun _ _ => .bl _
section
variable (hu : X.A.units + 64 < cLine)
include hu
theorem bop_eq : BopD X (compareOp .Eq) eqD := by
  intro pins s σ H x y v u Q ρ m d e r I rx ry hx hy hg q
  obtain ⟨hz, rfl⟩ := of_if hg
  rw [Bool.and_eq_true] at hz
  obtain ⟨as, ra⟩ := hx.reads I hz.1 rx
  obtain ⟨bs, rb⟩ := hy.reads I hz.2 ry
  refine eq_plain ra rb (plain_of hz.1) (plain_of hz.2) ?_ ⟨.bl _, H, I, rfl, ?_⟩
  · have := depth_of hz.1; have z : PLN = 40 := rfl; omega
  · rw [eqv_py hz.1 hz.2]; exact q _ fun _ _ => .bl _
theorem bop_ne : BopD X (compareOp .NotEq) neD := by
  intro pins s σ H x y v u Q ρ m d e r I rx ry hx hy hg q
  obtain ⟨hz, rfl⟩ := of_if hg
  rw [Bool.and_eq_true] at hz
  obtain ⟨as, ra⟩ := hx.reads I hz.1 rx
  obtain ⟨bs, rb⟩ := hy.reads I hz.2 ry
  refine ne_plain ra rb (plain_of hz.1) (plain_of hz.2) ?_ ⟨.bl _, H, I, rfl, ?_⟩
  · have := depth_of hz.1; have z : PLN = 40 := rfl; omega
  · rw [eqv_py hz.1 hz.2]; exact q _ fun _ _ => .bl _
theorem bop_lt : BopD X (compareOp .Lt) ltD := by
  intro pins s σ H x y v u Q ρ m d e r I rx ry hx hy hg q
  obtain ⟨hz, rfl⟩ := of_if hg
  simp only [ltOk, Bool.and_eq_true, Bool.not_eq_true'] at hz
  obtain ⟨⟨⟨h1, h2⟩, h3⟩, h4⟩ := hz
  obtain ⟨as, ra⟩ := hx.reads I h1 rx
  obtain ⟨bs, rb⟩ := hy.reads I h2 ry
  refine lt_data ra rb (by rw [alk_py h1 h2]; exact h3) (not_none_of h1 h4) ?_ ⟨.bl _, H, I, rfl, ?_⟩
  · have := depth_of h1; have z : PLN = 40 := rfl; omega
  · rw [lt_py h1 h2 h3]; exact q _ fun _ _ => .bl _
theorem bop_gt : BopD X (compareOp .Gt) gtD := by
  intro pins s σ H x y v u Q ρ m d e r I rx ry hx hy hg q
  obtain ⟨hz, rfl⟩ := of_if hg
  simp only [ltOk, Bool.and_eq_true, Bool.not_eq_true'] at hz
  obtain ⟨⟨⟨h1, h2⟩, h3⟩, h4⟩ := hz
  obtain ⟨as, ra⟩ := hx.reads I h1 rx
  obtain ⟨bs, rb⟩ := hy.reads I h2 ry
  refine gt_data ra rb (by rw [alk_py h1 h2]; exact h3) (not_none_of h1 h4) ?_ ⟨.bl _, H, I, rfl, ?_⟩
  · have := depth_of h1; have z : PLN = 40 := rfl; omega
  · rw [lt_py h2 h1 (alk_comm h3)]; exact q _ fun _ _ => .bl _
theorem bop_le : BopD X (compareOp .LtE) leD := by
  intro pins s σ H x y v u Q ρ m d e r I rx ry hx hy hg q
  obtain ⟨hz, rfl⟩ := of_if hg
  simp only [ltOk, Bool.and_eq_true, Bool.not_eq_true'] at hz
  obtain ⟨⟨⟨h1, h2⟩, h3⟩, h4⟩ := hz
  obtain ⟨as, ra⟩ := hx.reads I h1 rx
  obtain ⟨bs, rb⟩ := hy.reads I h2 ry
  refine le_data ra rb (by rw [alk_py h1 h2]; exact h3) (not_none_of h1 h4) ?_ ⟨.bl _, H, I, rfl, ?_⟩
  · have := depth_of h1; have z : PLN = 40 := rfl; omega
  · rw [lt_py h2 h1 (alk_comm h3)]; exact q _ fun _ _ => .bl _
theorem bop_ge : BopD X (compareOp .GtE) geD := by
  intro pins s σ H x y v u Q ρ m d e r I rx ry hx hy hg q
  obtain ⟨hz, rfl⟩ := of_if hg
  simp only [ltOk, Bool.and_eq_true, Bool.not_eq_true'] at hz
  obtain ⟨⟨⟨h1, h2⟩, h3⟩, h4⟩ := hz
  obtain ⟨as, ra⟩ := hx.reads I h1 rx
  obtain ⟨bs, rb⟩ := hy.reads I h2 ry
  refine ge_data ra rb (by rw [alk_py h1 h2]; exact h3) (not_none_of h1 h4) ?_ ⟨.bl _, H, I, rfl, ?_⟩
  · have := depth_of h1; have z : PLN = 40 := rfl; omega
  · rw [lt_py h1 h2 h3]; exact q _ fun _ _ => .bl _
theorem bop_in : BopD X (compareOp .In) inD := by
  intro pins s σ H x y v u Q ρ m d e r I rx ry hx hy hg q
  cases hy <;> simp only [inD] at hg <;> try (cases hg; done)
  case lst a vs ds r1 h1 =>
    obtain ⟨hz, rfl⟩ := of_if hg
    rw [Bool.and_eq_true] at hz
    obtain ⟨as, ra⟩ := hx.reads I hz.1 rx
    obtain ⟨bs, rb⟩ := Rep.reads (ρ := ρ) (n := PLN + 1) I (show (D.lst ds).pl (PLN + 1) = true by simp only [D.pl]; exact hz.2) (.lst r1 h1) ry
    simp only [D.toPy] at rb
    refine in_list_data rb ra (plainAll_of hz.2) (plain_of hz.1) ?_ ⟨.bl _, H, I, rfl, ?_⟩
    · have := depth_of hz.1; have z : PLN = 40 := rfl; omega
    · rw [any_py hz.1 hz.2]; exact q _ fun _ _ => .bl _
  case tup a vs ds r1 h1 =>
    obtain ⟨hz, rfl⟩ := of_if hg
    rw [Bool.and_eq_true] at hz
    obtain ⟨as, ra⟩ := hx.reads I hz.1 rx
    obtain ⟨bs, rb⟩ := Rep.reads (ρ := ρ) (n := PLN + 1) I (show (D.tup ds).pl (PLN + 1) = true by simp only [D.pl]; exact hz.2) (.tup r1 h1) ry
    simp only [D.toPy] at rb
    refine in_tuple_data rb ra (plainAll_of hz.2) (plain_of hz.1) ?_ ⟨.bl _, H, I, rfl, ?_⟩
    · have := depth_of hz.1; have z : PLN = 40 := rfl; omega
    · rw [any_py hz.1 hz.2]; exact q _ fun _ _ => .bl _
theorem bop_nin : BopD X (compareOp .NotIn) ninD := by
  intro pins s σ H x y v u Q ρ m d e r I rx ry hx hy hg q
  cases hy <;> simp only [ninD] at hg <;> try (cases hg; done)
  case lst a vs ds r1 h1 =>
    obtain ⟨hz, rfl⟩ := of_if hg
    rw [Bool.and_eq_true] at hz
    obtain ⟨as, ra⟩ := hx.reads I hz.1 rx
    obtain ⟨bs, rb⟩ := Rep.reads (ρ := ρ) (n := PLN + 1) I (show (D.lst ds).pl (PLN + 1) = true by simp only [D.pl]; exact hz.2) (.lst r1 h1) ry
    simp only [D.toPy] at rb
    refine notIn_list_data rb ra (plainAll_of hz.2) (plain_of hz.1) ?_ ⟨.bl _, H, I, rfl, ?_⟩
    · have := depth_of hz.1; have z : PLN = 40 := rfl; omega
    · rw [any_py hz.1 hz.2]; exact q _ fun _ _ => .bl _
  case tup a vs ds r1 h1 =>
    obtain ⟨hz, rfl⟩ := of_if hg
    rw [Bool.and_eq_true] at hz
    obtain ⟨as, ra⟩ := hx.reads I hz.1 rx
    obtain ⟨bs, rb⟩ := Rep.reads (ρ := ρ) (n := PLN + 1) I (show (D.tup ds).pl (PLN + 1) = true by simp only [D.pl]; exact hz.2) (.tup r1 h1) ry
    simp only [D.toPy] at rb
    refine notIn_tuple_data rb ra (plainAll_of hz.2) (plain_of hz.1) ?_ ⟨.bl _, H, I, rfl, ?_⟩
    · have := depth_of hz.1; have z : PLN = 40 := rfl; omega
    · rw [any_py hz.1 hz.2]; exact q _ fun _ _ => .bl _
end
end
end Pv

end

section
set_option Elab.async false
set_option linter.all false
set_option maxRecDepth 100000
/-! Pv4: expressions: reading of what is one's own, calls of built-ins, displays, subscripts, tests. -/
namespace Pv
open PySem L2 PySem.W PyProof.Rows PySem.SeqAt

/-- a value, or a list of one's own that is only read -/
def BRep (K : PySem.W.Frag) (ρ : List Addr) (Hs H : Hp) (v : V) (d : D) : Prop := Rep K ρ Hs v d ∨ ∃ a, v = .ref a ∧ Own K ρ Hs H a d ∧ Hs a = none ∧ a ∉ ρ ∧ H a ≠ none
section
variable {K : PySem.W.Frag} {ρ ρ' : List Addr} {Hs H Hs' H' : Hp} {v : V} {d : D} {m : Mu}
theorem BRep.mono (t : Tr ρ Hs H ρ' Hs' H') (h : BRep K ρ Hs H v d) : BRep K ρ' Hs' H' v d := by
  rcases h with h | ⟨a, e, h2, h3, h4, h6⟩
  · exact .inl (h.mono t.pre t.sub)
  · refine .inr ⟨a, e, h2.mono t h4, ?_, ?_, fun z => h6 (t.dom a z)⟩
    · cases q : Hs' a with
      | none => rfl
      | some o =>
        rcases t.new a o q with z | z
        · rw [h3] at z; cases z
        · exact absurd z h6
    · intro q
      rcases t.bnew a q with z | z
      · exact h4 z
      · exact h6 z
theorem BRep.full (b : Bs K ρ m Hs H) (h : BRep K ρ Hs H v d) : Rep K ρ H v d := by
  rcases h with h | ⟨a, rfl, o, _, _, _⟩
  · exact h.mono (.refl _) b.sub
  · cases o with
    | lst h r => exact .lst h (r.mono (.refl _) b.sub)
theorem BRep.items {ds : List D} (b : Bs K ρ m Hs H) (h : BRep K ρ Hs H v (.lst ds)) : ∃ a vs, v = .ref a ∧ H a = some (.lst vs) ∧ RepAll K ρ Hs vs ds := by
  rcases h with h | ⟨a, rfl, o, _, _, _⟩
  · cases h with
    | lst h r => exact ⟨_, _, rfl, b.sub _ _ h, r⟩
  · cases o with
    | lst h r => exact ⟨_, _, rfl, h, r⟩
theorem BRep.itemsT {ds : List D} (b : Bs K ρ m Hs H) (h : BRep K ρ Hs H v (.tup ds)) : ∃ a vs, v = .ref a ∧ SqT K H a vs ∧ RepAll K ρ Hs vs ds ∧ Rep K ρ Hs v (.tup ds) := by
  rcases h with h | ⟨a, rfl, o, _, _, _⟩
  · cases h with
    | tup h r => exact ⟨_, _, rfl, b.sub.t h, r, .tup h r⟩
  · cases o
end

def OutW (K : PySem.W.Frag) (mg : Str → Option Value) (W : Value → Option Addr → Hp → Prop) (r : R D) (ρ : List Addr) (Hs H : Hp) (Q : VK) : Prop := match r with
  | .ok d m => ∀ v ρ' Hs' H', Tr ρ Hs H ρ' Hs' H' → Bs K ρ' m Hs' H' → BRep K ρ' Hs' H' v d → Q v H'
  | .exc c fs m => ∀ cls dx ρ' Hs' H', Tr ρ Hs H ρ' Hs' H' → Bs K ρ' m Hs' H' → EOk K mg ρ' Hs' cls dx c fs → W cls dx H'
  | .bad => False
def cW (X : Cx) (H0 : Hp) (W : WX) (ω : List Md) (c : EC) : TE := fun σ H Q => ∃ Γ m ρ Hs, Bs X.K ρ m Hs H ∧ En X.K H0 ω Γ ρ Hs H σ ∧ OutW X.K X.mg (fun cls dx H' => W cls dx σ H') (c Γ m) ρ Hs H Q
abbrev BV (X : Cx) (H0 : Hp) (W : WX) (ω : List Md) (e : Expr) (c : EC) : Prop := PE X e (cW X H0 W ω c)
/-- the state behind a part that is read -/
def AftW (K : PySem.W.Frag) (ρ : List Addr) (Hs H : Hp) (G : D → Mu → List Addr → Hp → Hp → Prop) : V → Hp → Prop := fun v H1 =>
  ∃ a m ρ1 Hs1, Tr ρ Hs H ρ1 Hs1 H1 ∧ Bs K ρ1 m Hs1 H1 ∧ BRep K ρ1 Hs1 H1 v a ∧ G a m ρ1 Hs1 H1
section
variable {f : Bool} {K : PySem.W.Frag} {mg : Str → Option Value} {W : Value → Option Addr → Hp → Prop} {ρ ρ1 : List Addr} {Hs H Hs1 H1 : Hp}
theorem OutW.mono {r : R D} {Q Q' : VK} (h : OutW K mg W r ρ Hs H Q) (q : ∀ v H', Q v H' → Q' v H') : OutW K mg W r ρ Hs H Q' := by
  cases r with
  | ok a m => exact fun v ρ' Hs' H' t' b rp => q _ _ (h v ρ' Hs' H' t' b rp)
  | exc c fs m => exact h
  | bad => exact h
theorem OutB.bindW {r : R D} {g : D → Mu → R D} {Q : VK} (h : OutB f K mg W (r.bind g) ρ Hs H Q) :
    OutW K mg W r ρ Hs H (AftW K ρ Hs H fun a m ρ1 Hs1 H1 => OutB f K mg W (g a m) ρ1 Hs1 H1 Q) := by
  cases r with
  | ok a m => exact fun v ρ' Hs' H' t b rp => ⟨a, m, ρ', Hs', t, b, rp, OutB.tr t h⟩
  | exc c fs m => exact h
  | bad => exact h
theorem Out.bindW {β γ : Type} {Rp : List Addr → Hp → β → γ → Prop} {r : R D} {g : D → Mu → R γ} {Q : β → Hp → Prop} (h : Out K mg Rp W (r.bind g) ρ Hs H Q) :
    OutW K mg W r ρ Hs H (AftW K ρ Hs H fun a m ρ1 Hs1 H1 => Out K mg Rp W (g a m) ρ1 Hs1 H1 Q) := by
  cases r with
  | ok a m => exact fun v ρ' Hs' H' t b rp => ⟨a, m, ρ', Hs', t, b, rp, Out.tr t h⟩
  | exc c fs m => exact h
  | bad => exact h
end
section
variable {X : Cx} {H0 : Hp} {W : WX} {ω : List Md} {e a b : Expr} {es : List Expr} {c ca cb : EC} {f : Bool} {pos p : Pos} {x : Str} {id T : String}
theorem EV.bv (h : EV X H0 W ω e c) : BV X H0 W ω e c := PE.imp h fun σ H Q ⟨Γ, m, ρ, Hs, b, en, o⟩ => ⟨Γ, m, ρ, Hs, b, en, by
  cases hc : c Γ m with
  | ok d m' => rw [hc] at o; exact fun v ρ' Hs' H' t b' r => o v ρ' Hs' H' t b' (.inl r)
  | exc c fs m' => rw [hc] at o; exact o
  | bad => rw [hc] at o; exact o⟩
/-- a list of one's own, read -/
theorem bv_own (i : Nat) {x : Str} {p : Pos} (hw : ω[i]? = some .ow := by rfl) (hN : X.N[i]? = some x := by rfl) (hv : Vis X.env.scope x := by first | exact Or.inl rfl | exact Or.inr (Or.inl rfl) | exact Or.inr (Or.inr rfl)) (hd : (x == ("__debug__" : Str)) = false := by decide)
    (hcd : (x == ("__classdict__" : Str)) = false := by decide) : BV X H0 W ω (.Name x p) (cVar i) := PE.imp (pe_var hN hv hd hcd) fun σ H Q ⟨Γ, m, ρ, Hs, b, en, o⟩ => by
  obtain ⟨a, h1, h2, h3, h4, h5, h6⟩ := en.ow i hw
  exact ⟨.ref a, h1, o _ ρ Hs H (.refl ..) b (.inr ⟨a, rfl, h2, h3, h4, h6⟩)⟩

/-! ### comparisons of what is read -/
theorem c2_readW {g : Mu → D → D → Option D} {σ : L2.St} {H : Hp} {Q : VK} (h : cEB f X H0 W ω (c2 g ca cb) σ H Q) :
    cW X H0 W ω ca σ H fun x H1 => cW X H0 W ω cb σ H1 fun y H2 => ∃ W d e m ρ Hs, Bs X.K ρ m Hs H2 ∧ BRep X.K ρ Hs H2 x d ∧ BRep X.K ρ Hs H2 y e ∧ OutB f X.K X.mg W (R.of (g m d e) m) ρ Hs H2 Q := by
  obtain ⟨Γ, m, ρ, Hs, b, en, o⟩ := h
  refine ⟨Γ, m, ρ, Hs, b, en, OutW.mono (OutB.bindW o) fun v H1 ⟨d, m1, ρ1, Hs1, t1, b1, r1, o1⟩ => ?_⟩
  exact ⟨Γ, m1, ρ1, Hs1, b1, en.mono t1, OutW.mono (OutB.bindW o1) fun w H2 ⟨d2, m2, ρ2, Hs2, t2, b2, r2, o2⟩ => ⟨_, d, d2, m2, ρ2, Hs2, b2, r1.mono t2, r2, o2⟩⟩
theorem bop_opr {op : Value → Value → Sem Value} {g : Mu → D → D → Option D} (h : BopD X op g) : OpR X op fun x y H Q => ∃ W d e m ρ Hs, Bs X.K ρ m Hs H ∧ BRep X.K ρ Hs H x d ∧ BRep X.K ρ Hs H y e ∧ OutB false X.K X.mg W (R.of (g m d e) m) ρ Hs H Q := by
  intro pins s σ H x y v u Q I rx ry ⟨W, d, e, m, ρ, Hs, b, hx, hy, o⟩
  obtain ⟨r, hg, o⟩ := OutB.of o
  exact h pins s σ H x y v u Q ρ m d e r I rx ry (hx.full b) (hy.full b) hg fun z hz => o.val b (hz _ _)
theorem bv_cmp {op : CmpOp} {g : Mu → D → D → Option D} (ho : BopD X (compareOp op) g) (ha : BV X H0 W ω a ca) (hb : BV X H0 W ω b cb) (hm : behindInMarks op b = false) : EV X H0 W ω (.Compare a [op] [b] pos) (c2 g ca cb) :=
  EB.ev (PE.imp (pe_cmpR (bop_opr ho) ha hb hm) fun σ H Q h => c2_readW h)

/-! ### calls of built-ins with one argument -/
def c1 (g : Mu → D → Option D) (ca : EC) : EC := fun Γ m => (ca Γ m).bind fun d m1 => R.of (g m1 d) m1
/-- a reading r of one value holds where g answers -/
def RdD (f : Bool) (X : Cx) (r : V → Hp → VK → Prop) (g : Mu → D → Option D) : Prop :=
  ∀ (x : V) (H : Hp) (Q : VK) (W : Value → Option Addr → Hp → Prop) (ρ : List Addr) (m : Mu) (Hs : Hp) (d z : D), Bs X.K ρ m Hs H → BRep X.K ρ Hs H x d → g m d = some z → OutB f X.K X.mg W (.ok z m) ρ Hs H Q → r x H Q
theorem c1_read {g : Mu → D → Option D} {r : V → Hp → VK → Prop} {σ : L2.St} {H : Hp} {Q : VK} (hr : RdD f X r g) (h : cEB f X H0 W ω (c1 g ca) σ H Q) : cW X H0 W ω ca σ H fun x H1 => r x H1 Q := by
  obtain ⟨Γ, m, ρ, Hs, b, en, o⟩ := h
  refine ⟨Γ, m, ρ, Hs, b, en, OutW.mono (OutB.bindW o) fun v H1 ⟨d, m1, ρ1, Hs1, t1, b1, r1, o1⟩ => ?_⟩
  obtain ⟨z, hg, o1⟩ := OutB.of o1
  exact hr v H1 Q _ ρ1 m1 Hs1 d z b1 r1 hg o1
theorem ev_callB {g : Mu → D → Option D} {r : List V → Hp → VK → Prop} (hc : CallR X (.builtin id) r) (hr : RdD f X (fun x H Q => r [x] H Q) g) (hg : Gl X x) (hm : X.mg x = none) (hv : bootBuiltins x = some (.builtin id)) (ha : BV X H0 W ω a ca)
    (hn : x ≠ "__name__" := by decide) (hdb : (x == ("__debug__" : Str)) = false := by decide) (he : starEach [a] X.env = [(false, eval a X.env)] := by rfl) : EB f X H0 W ω (.Call (.Name x p) [a] [] pos) (c1 g ca) :=
  PE.imp (pe_callB hc hg hm hv (pa_cons ha pa_nil he) hn hdb he) fun σ H Q h => c1_read hr h
theorem ev_callT {g : Mu → D → Option D} {r : List V → Hp → VK → Prop} (hc : CallR X (.type T) r) (hr : RdD f X (fun x H Q => r [x] H Q) g) (hg : Gl X x) (hm : X.mg x = none) (hv : bootBuiltins x = some (.type T)) (ha : BV X H0 W ω a ca)
    (hn : x ≠ "__name__" := by decide) (hdb : (x == ("__debug__" : Str)) = false := by decide) (he : starEach [a] X.env = [(false, eval a X.env)] := by rfl) : EB f X H0 W ω (.Call (.Name x p) [a] [] pos) (c1 g ca) :=
  PE.imp (pe_callTy hc hg hm hv (pa_cons ha pa_nil he) hn hdb he) fun σ H Q h => c1_read hr h
end

section
variable {X : Cx} {f : Bool}
def lenD : Mu → D → Option D
  | _, .lst xs => some (.int xs.length)
  | _, .tup xs => some (.int xs.length)
  | _, .scr xs => some (.int xs.length)
  | _, .str x => if szOk x.length then some (.int x.length) else none
  | _, _ => none
theorem rd_len : RdD false X (fun x H Q => ∃ y n, [x] = [y] ∧ LenV X.K y H n ∧ Q (.int n) H) lenD := by
  intro x H Q W ρ m Hs d z b hx hg o
  cases d <;> simp only [lenD] at hg <;> try (cases hg; done)
  case str y => obtain ⟨hz, rfl⟩ := of_if hg; rcases hx with hx | ⟨_, _, hx, _⟩ <;> cases hx; exact ⟨_, y.length, rfl, ⟨szOk_le hz, rfl⟩, o.val b (.int _)⟩
  case lst ds =>
    cases hg
    obtain ⟨a, vs, rfl, h1, h2⟩ := hx.items b
    refine ⟨_, vs.length, rfl, .inl ⟨vs, .inl (.inl h1), rfl⟩, ?_⟩
    rw [h2.length]; exact o.val b (.int _)
  case tup ds =>
    cases hg
    obtain ⟨a, vs, rfl, h1, h2, _⟩ := hx.itemsT b
    refine ⟨_, vs.length, rfl, .inr ⟨vs, h1, rfl⟩, ?_⟩
    rw [h2.length]; exact o.val b (.int _)
  case scr ns =>
    cases hg
    rcases hx with hx | ⟨_, _, hx, _⟩ <;> cases hx
    rename_i a hq
    refine ⟨_, (ns.map V.int).length, rfl, .inl ⟨_, b.sub.l hq, rfl⟩, ?_⟩
    rw [List.length_map]; exact o.val b (.int _)
def absD : Mu → D → Option D
  | _, .int i => some (.int (if i < 0 then -i else i))
  | _, _ => none
theorem rd_abs : RdD false X (fun x H Q => ∃ i, [x] = [.int i] ∧ Q (.int (if i < 0 then -i else i)) H) absD := by
  intro x H Q W ρ m Hs d z b hx hg o
  cases d <;> simp only [absD] at hg <;> try (cases hg; done)
  cases hg
  rcases hx with hx | ⟨_, _, hx, _⟩ <;> cases hx
  exact ⟨_, rfl, o.val b (.int _)⟩
def intD : Mu → D → Option D
  | _, .int i => some (.int i)
  | _, .bl k => some (.int (if k then 1 else 0))
  | _, _ => none
theorem rd_int : RdD false X (fun x H Q => (∃ i, [x] = [.int i] ∧ Q (.int i) H) ∨ ∃ k, [x] = [.bl k] ∧ Q (.int (if k then 1 else 0)) H) intD := by
  intro x H Q W ρ m Hs d z b hx hg o
  cases d <;> simp only [intD] at hg <;> try (cases hg; done)
  · cases hg
    rcases hx with hx | ⟨_, _, hx, _⟩ <;> cases hx
    exact .inr ⟨_, rfl, o.val b (.int _)⟩
  · cases hg
    rcases hx with hx | ⟨_, _, hx, _⟩ <;> cases hx
    exact .inl ⟨_, rfl, o.val b (.int _)⟩
/-- a list of truth values | of numbers -/
def blsOf : List D → Option (List Bool)
  | [] => some []
  | .bl b :: xs => (blsOf xs).map (b :: ·)
  | _ => none
def intsOf : List D → Option (List Int)
  | [] => some []
  | .int b :: xs => (intsOf xs).map (b :: ·)
  | _ => none
theorem blsOf_eq : ∀ {xs : List D} {bs : List Bool}, blsOf xs = some bs → xs = bs.map D.bl
  | [], _, h => by simp [blsOf] at h; subst h; rfl
  | .bl b :: xs, bs, h => by
    simp only [blsOf, Option.map_eq_some_iff] at h
    obtain ⟨cs, h1, rfl⟩ := h
    rw [blsOf_eq h1]; rfl
  | .non :: _, _, h | .int _ :: _, _, h | .str _ :: _, _, h | .lst _ :: _, _, h | .tup _ :: _, _, h | .dct _ :: _, _, h | .set _ :: _, _, h | .exc _ _ :: _, _, h | .box _ :: _, _, h | .scr _ :: _, _, h => by simp [blsOf] at h
theorem intsOf_eq : ∀ {xs : List D} {bs : List Int}, intsOf xs = some bs → xs = bs.map D.int
  | [], _, h => by simp [intsOf] at h; subst h; rfl
  | .int b :: xs, bs, h => by
    simp only [intsOf, Option.map_eq_some_iff] at h
    obtain ⟨cs, h1, rfl⟩ := h
    rw [intsOf_eq h1]; rfl
  | .non :: _, _, h | .bl _ :: _, _, h | .str _ :: _, _, h | .lst _ :: _, _, h | .tup _ :: _, _, h | .dct _ :: _, _, h | .set _ :: _, _, h | .exc _ _ :: _, _, h | .box _ :: _, _, h | .scr _ :: _, _, h => by simp [intsOf] at h
theorem blsOf_map : ∀ bs : List Bool, blsOf (bs.map D.bl) = some bs
  | [] => rfl
  | b :: bs => by simp [blsOf, blsOf_map bs]
theorem intsOf_map : ∀ bs : List Int, intsOf (bs.map D.int) = some bs
  | [] => rfl
  | b :: bs => by simp [intsOf, intsOf_map bs]
theorem RepAll.bls {K : PySem.W.Frag} {ρ : List Addr} {H : Hp} : ∀ {vs : List V} {bs : List Bool}, RepAll K ρ H vs (bs.map D.bl) → vs = bs.map V.bl
  | _, [], .nil => rfl
  | _, b :: bs, .cons h r => by cases h; rw [RepAll.bls r]; rfl
theorem RepAll.ints' {K : PySem.W.Frag} {ρ : List Addr} {H : Hp} : ∀ {vs : List V} {bs : List Int}, RepAll K ρ H vs (bs.map D.int) → vs = bs.map V.int
  | _, [], .nil => rfl
  | _, b :: bs, .cons h r => by cases h; rw [RepAll.ints' r]; rfl
def allD : Mu → D → Option D
  | _, .lst xs => (blsOf xs).map fun bs => .bl (bs.all id)
  | _, _ => none
def anyD : Mu → D → Option D
  | _, .lst xs => (blsOf xs).map fun bs => .bl (bs.any id)
  | _, _ => none
def sumD : Mu → D → Option D
  | _, .lst xs => (intsOf xs).map fun bs => .int bs.sum
  | _, _ => none
theorem rd_all : RdD false X (fun x H Q => rAll X.K [x] H Q) allD := by
  intro x H Q W ρ m Hs d z b hx hg o
  cases d <;> simp only [allD] at hg <;> try (cases hg; done)
  case lst ds =>
    obtain ⟨bs, hb, rfl⟩ := Option.map_eq_some_iff.mp hg
    obtain ⟨a, vs, rfl, h1, h2⟩ := hx.items b
    rw [blsOf_eq hb] at h2
    rw [h2.bls] at h1
    exact ⟨a, bs, rfl, .inl (.inl h1), o.val b (.bl _)⟩
theorem rd_any : RdD false X (fun x H Q => rAny X.K [x] H Q) anyD := by
  intro x H Q W ρ m Hs d z b hx hg o
  cases d <;> simp only [anyD] at hg <;> try (cases hg; done)
  case lst ds =>
    obtain ⟨bs, hb, rfl⟩ := Option.map_eq_some_iff.mp hg
    obtain ⟨a, vs, rfl, h1, h2⟩ := hx.items b
    rw [blsOf_eq hb] at h2
    rw [h2.bls] at h1
    exact ⟨a, bs, rfl, .inl (.inl h1), o.val b (.bl _)⟩
theorem rd_sum : RdD false X (fun x H Q => rSum X.K [x] H Q) sumD := by
  intro x H Q W ρ m Hs d z b hx hg o
  cases d <;> simp only [sumD] at hg <;> try (cases hg; done)
  case lst ds =>
    obtain ⟨bs, hb, rfl⟩ := Option.map_eq_some_iff.mp hg
    obtain ⟨a, vs, rfl, h1, h2⟩ := hx.items b
    rw [intsOf_eq hb] at h2
    rw [h2.ints'] at h1
    exact ⟨a, bs, rfl, .inl (.inl h1), o.val b (.int _)⟩
/-- list(x) -/
def listD : Mu → D → Option D
  | _, .lst xs => some (.lst xs)
  | _, .tup xs => some (.lst xs)
  | _, _ => none
theorem rd_list : RdD f X (fun x H Q => ∃ p ys, [x] = [.ref p] ∧ (SqL X.K H p ys ∨ SqT X.K H p ys) ∧ ∀ l, H l = none → Q (.ref l) (upd H l (.lst ys))) listD := by
  intro x H Q W ρ m Hs d z b hx hg o
  cases d <;> simp only [listD] at hg <;> try (cases hg; done)
  case lst ds =>
    cases hg
    obtain ⟨a, vs, rfl, h1, h2⟩ := hx.items b
    exact ⟨a, vs, rfl, .inl (.inl (.inl h1)), fun l hl => OutB.newL b h2 o hl⟩
  case tup ds =>
    cases hg
    obtain ⟨a, vs, rfl, h1, h2, _⟩ := hx.itemsT b
    exact ⟨a, vs, rfl, .inr h1, fun l hl => OutB.newL b h2 o hl⟩
def tupleD : Mu → D → Option D
  | _, .lst xs => some (.tup xs)
  | _, .tup xs => some (.tup xs)
  | _, _ => none
theorem rd_tuple : RdD false X (fun x H Q => ∃ p ys, [x] = [.ref p] ∧ ((SqL X.K H p ys ∧ ∀ l, H l = none → Q (.ref l) (upd H l (.tup ys))) ∨ (SqT X.K H p ys ∧ Q (.ref p) H))) tupleD := by
  intro x H Q W ρ m Hs d z b hx hg o
  cases d <;> simp only [tupleD] at hg <;> try (cases hg; done)
  case lst ds =>
    cases hg
    obtain ⟨a, vs, rfl, h1, h2⟩ := hx.items b
    exact ⟨a, vs, rfl, .inl ⟨.inl (.inl h1), fun l hl => OutB.newT b h2 o hl⟩⟩
  case tup ds =>
    cases hg
    obtain ⟨a, vs, rfl, h1, h2, h3⟩ := hx.itemsT b
    exact ⟨a, vs, rfl, .inr ⟨h1, o.val b h3⟩⟩
end
end Pv

end

section
set_option Elab.async false
set_option linter.all false
set_option maxRecDepth 100000
/-! Pv5: displays, subscripts, slices, isinstance, tests, calls' arguments. -/
namespace Pv
open PySem L2 PySem.W PyProof.Rows PySem.SeqAt
section
variable {X : Cx} {H0 : Hp} {W : WX} {ω : List Md} {e a b : Expr} {es : List Expr} {c ca cb : EC} {cs : Gam → Mu → R (List D)} {f : Bool} {pos p : Pos} {x : Str} {id T : String}
/-! ### arguments, displays -/
def aNil : Gam → Mu → R (List D) := fun _ m => .ok [] m
def aCons (ca : EC) (cs : Gam → Mu → R (List D)) : Gam → Mu → R (List D) := fun Γ m => (ca Γ m).bind fun d m1 => (cs Γ m1).bind fun ds m2 => .ok (d :: ds) m2
/-- the items of a list or tuple -/
def itemsD : Mu → D → Option (List D)
  | _, .lst xs => some xs
  | _, .tup xs => some xs
  | _, _ => none
def aStar (ca : EC) (cs : Gam → Mu → R (List D)) : Gam → Mu → R (List D) := fun Γ m => (ca Γ m).bind fun d m1 => (R.of (itemsD m1 d) m1).bind fun xs m1 => (cs Γ m1).bind fun ds m2 => .ok (xs ++ ds) m2
theorem av_nil : AV X H0 W ω [] aNil := PA.imp pa_nil fun σ H Q ⟨Γ, m, ρ, Hs, b, en, o⟩ => o [] ρ Hs H (.refl ..) b .nil
theorem av_cons (ha : EV X H0 W ω a ca) (hs : AV X H0 W ω es cs) (he : starEach (a :: es) X.env = (false, eval a X.env) :: starEach es X.env := by rfl) : AV X H0 W ω (a :: es) (aCons ca cs) :=
  PA.imp (pa_cons ha hs he) fun σ H Q ⟨Γ, m, ρ, Hs, b, en, o⟩ => ⟨Γ, m, ρ, Hs, b, en, Out.mono (Out.bind o) fun v H1 ⟨d, m1, ρ1, Hs1, t1, b1, r1, o1⟩ =>
    ⟨Γ, m1, ρ1, Hs1, b1, en.mono t1, Out.mono (Out.bind o1) fun vs H2 ⟨ds, m2, ρ2, Hs2, t2, b2, r2, o2⟩ => o2 _ ρ2 Hs2 H2 (.refl ..) b2 (.cons (r1.mono t2.pre t2.sub) r2)⟩⟩
theorem items_of {K : PySem.W.Frag} {ρ : List Addr} {Hs H : Hp} {v : V} {d : D} {m : Mu} {xs : List D} (b : Bs K ρ m Hs H) (h : BRep K ρ Hs H v d) (hi : itemsD m d = some xs) : ∃ a vs, v = .ref a ∧ (SqT K H a vs ∨ SqL K H a vs) ∧ RepAll K ρ Hs vs xs := by
  cases d <;> simp only [itemsD] at hi <;> try (cases hi; done)
  · cases hi
    obtain ⟨a, vs, h1, h2, h3⟩ := h.items b
    exact ⟨a, vs, h1, .inr (.inl (.inl h2)), h3⟩
  · cases hi
    obtain ⟨a, vs, h1, h2, h3, _⟩ := h.itemsT b
    exact ⟨a, vs, h1, .inl h2, h3⟩
theorem Out.of {α β : Type} {K : PySem.W.Frag} {mg : Str → Option Value} {Rp : List Addr → Hp → β → α → Prop} {W : Value → Option Addr → Hp → Prop} {ρ : List Addr} {Hs H : Hp} {Q : β → Hp → Prop} {γ : Type} {o : Option γ} {m : Mu} {g : γ → Mu → R α} (h : Out K mg Rp W ((R.of o m).bind g) ρ Hs H Q) : ∃ r, o = some r ∧ Out K mg Rp W (g r m) ρ Hs H Q := by
  cases o with
  | none => exact h.elim
  | some r => exact ⟨r, rfl, h⟩
theorem av_star (ha : BV X H0 W ω a ca) (hs : AV X H0 W ω es cs) (he : starEach (.Starred a p :: es) X.env = (true, eval a X.env) :: starEach es X.env := by rfl) : AV X H0 W ω (.Starred a p :: es) (aStar ca cs) :=
  PA.imp (StX.pa_star ha hs he) fun σ H Q ⟨Γ, m, ρ, Hs, b, en, o⟩ => ⟨Γ, m, ρ, Hs, b, en, OutW.mono (Out.bindW o) fun v H1 ⟨d, m1, ρ1, Hs1, t1, b1, r1, o1⟩ => by
    obtain ⟨xs, hi, o1⟩ := Out.of o1
    obtain ⟨a', vs, rfl, h1, h2⟩ := items_of b1 r1 hi
    exact ⟨a', vs, rfl, h1, Γ, m1, ρ1, Hs1, b1, en.mono t1, Out.mono (Out.bind o1) fun ws H2 ⟨ds, m2, ρ2, Hs2, t2, b2, r2, o2⟩ => o2 _ ρ2 Hs2 H2 (.refl ..) b2 ((h2.mono t2.pre t2.sub).append r2)⟩⟩
theorem OutB.guard {K : PySem.W.Frag} {mg : Str → Option Value} {W : Value → Option Addr → Hp → Prop} {ρ : List Addr} {Hs H : Hp} {Q : VK} {k : Bool} {d : D} {m : Mu} (h : OutB f K mg W (if k = true then .ok d m else .bad) ρ Hs H Q) : k = true ∧ OutB f K mg W (.ok d m) ρ Hs H Q := by
  cases k with
  | true => exact ⟨rfl, h⟩
  | false => exact h.elim
def cLst (cs : Gam → Mu → R (List D)) : EC := fun Γ m => (cs Γ m).bind fun ds m1 => if szOk ds.length then .ok (.lst ds) m1 else .bad
def cTup (cs : Gam → Mu → R (List D)) : EC := fun Γ m => (cs Γ m).bind fun ds m1 => if szOk ds.length then .ok (.tup ds) m1 else .bad
theorem ev_lst (hs : AV X H0 W ω es cs) : EB f X H0 W ω (.List es pos) (cLst cs) :=
  PE.imp (pe_lst hs) fun σ H Q ⟨Γ, m, ρ, Hs, b, en, o⟩ => ⟨Γ, m, ρ, Hs, b, en, Out.mono (OutB.bind o) fun vs H1 ⟨ds, m1, ρ1, Hs1, t1, b1, r1, o1⟩ => by
    obtain ⟨hz, o1⟩ := OutB.guard o1
    exact ⟨by rw [r1.length]; exact szOk_le hz, fun q hq => OutB.newL b1 r1 o1 hq⟩⟩
theorem ev_tup {x1} (hs : AV X H0 W ω es cs) : EV X H0 W ω (.Tuple es x1 pos) (cTup cs) :=
  EB.ev (PE.imp (pe_tup hs) fun σ H Q ⟨Γ, m, ρ, Hs, b, en, o⟩ => ⟨Γ, m, ρ, Hs, b, en, Out.mono (OutB.bind o) fun vs H1 ⟨ds, m1, ρ1, Hs1, t1, b1, r1, o1⟩ => by
    obtain ⟨hz, o1⟩ := OutB.guard o1
    exact ⟨by rw [r1.length]; exact szOk_le hz, fun q hq => OutB.newT b1 r1 o1 hq⟩⟩)

/-! ### subscripts -/
def ixD : Mu → D → D → Option D
  | _, .lst xs, .int i => atI xs i
  | _, .tup xs, .int i => atI xs i
  | _, .scr ns, .int i => (atI ns i).map .int
  | m, .box n, .int i => (m[n]?).bind fun xs => atI xs i
  | _, _, _ => none
theorem RepAll.atI {K : PySem.W.Frag} {ρ : List Addr} {H : Hp} {vs : List V} {ds : List D} {i : Int} {d : D} (h : RepAll K ρ H vs ds) (hd : L2.atI ds i = some d) : ∃ v, L2.atI vs i = some v ∧ Rep K ρ H v d := by
  unfold L2.atI at hd ⊢
  rw [h.length]
  cases hx : ixN ds.length i with
  | none => rw [hx] at hd; cases hd
  | some j => rw [hx] at hd; exact h.get' hd
theorem ix_all : IxR X fun x y H Q => ∃ W d e m ρ Hs, Bs X.K ρ m Hs H ∧ BRep X.K ρ Hs H x d ∧ BRep X.K ρ Hs H y e ∧ OutB false X.K X.mg W (R.of (ixD m d e) m) ρ Hs H Q := by
  intro value slice pins s σ H x y v u Q I rx ry ⟨W, d, e, m, ρ, Hs, b, hx, hy, o⟩ hs
  obtain ⟨r, hg, o'⟩ := OutB.of o
  cases e <;> (cases d <;> simp only [ixD] at hg <;> try (cases hg; done))
  all_goals (rcases hy with hy | ⟨_, _, hy, _⟩ <;> cases hy)
  case int.lst ds =>
    obtain ⟨a, vs, rfl, h1, h2⟩ := hx.items b
    obtain ⟨w, h3, h4⟩ := h2.atI hg
    exact ix_list value slice pins s σ H _ _ v u Q I rx ry ⟨a, vs, _, w, rfl, rfl, .inl (.inl h1), h3, o'.val b h4⟩ hs
  case int.tup ds =>
    obtain ⟨a, vs, rfl, h1, h2, _⟩ := hx.itemsT b
    obtain ⟨w, h3, h4⟩ := h2.atI hg
    exact ix_tup value slice pins s σ H _ _ v u Q I rx ry ⟨a, vs, _, w, rfl, rfl, h1, h3, o'.val b h4⟩ hs
  case int.box n =>
    rcases hx with hx | ⟨_, _, hx, _⟩ <;> cases hx
    rename_i a hr
    obtain ⟨ds, hm, hg⟩ := Option.bind_eq_some_iff.mp hg
    obtain ⟨a', vs, q1, q2, q3, q4⟩ := b.bx n ds hm
    rw [hr] at q1
    cases q1
    obtain ⟨w, h3, h4⟩ := q4.atI hg
    exact ix_list value slice pins s σ H _ _ v u Q I rx ry ⟨a, vs, _, w, rfl, rfl, .inl (.inl q3), h3, o'.val b h4⟩ hs
  case int.scr ns =>
    rcases hx with hx | ⟨_, _, hx, _⟩ <;> cases hx
    rename_i i a hr
    obtain ⟨k, hk, rfl⟩ := Option.map_eq_some_iff.mp hg
    have h3 : L2.atI (ns.map V.int) i = some (.int k) := by
      unfold L2.atI at hk ⊢
      rw [List.length_map]
      cases hx : ixN ns.length i with
      | none => rw [hx] at hk; cases hk
      | some j => rw [hx] at hk; show (ns.map V.int)[j]? = _; rw [List.getElem?_map, show ns[j]? = some k from hk]; rfl
    exact ix_list value slice pins s σ H _ _ v u Q I rx ry ⟨a, _, _, _, rfl, rfl, b.sub.l hr, h3, o'.val b (.int _)⟩ hs
theorem ev_ix (ha : BV X H0 W ω a ca) (hb : BV X H0 W ω b cb) (hs : PlainIx b := by exact fun _ _ => rfl) : EV X H0 W ω (.Subscript a b pos) (c2 ixD ca cb) :=
  EB.ev (PE.imp (pe_ix ix_all ha hb hs) fun σ H Q h => c2_readW h)

/-! ### slices -/
def cutG {α : Type} (xs : List α) (lo hi : Option Int) : List α := (xs.drop (HT.sIx xs.length 0 lo)).take (HT.sIx xs.length xs.length hi - HT.sIx xs.length 0 lo)
theorem RepAll.cut {K : PySem.W.Frag} {ρ : List Addr} {H : Hp} {vs : List V} {ds : List D} (h : RepAll K ρ H vs ds) (lo hi : Option Int) : RepAll K ρ H (cutV vs lo hi) (cutG ds lo hi) := by
  unfold cutV cutG
  rw [h.length]
  exact (h.drop _).take _
def cPO (X : Cx) (H0 : Hp) (W : WX) (ω : List Md) (c : Gam → Mu → R (Option Int)) : TO := fun σ H Q => ∃ Γ m ρ Hs, Bs X.K ρ m Hs H ∧ En X.K H0 ω Γ ρ Hs H σ ∧ Out X.K X.mg (fun _ _ b a => b = a) (fun cls dx H' => W cls dx σ H') (c Γ m) ρ Hs H Q
abbrev OV (X : Cx) (H0 : Hp) (W : WX) (ω : List Md) (e : Option Expr) (c : Gam → Mu → R (Option Int)) : Prop := PO X e (cPO X H0 W ω c)
theorem PO.imp {X : Cx} {e : Option Expr} {t t' : TO} (h : PO X e t) (q : ∀ σ H Q, t' σ H Q → t σ H Q) : PO X e t' := ⟨fun pins s σ H Q I z => h.run pins s σ H Q I (q _ _ _ z)⟩
def oNone : Gam → Mu → R (Option Int) := fun _ m => .ok none m
def asInt : D → Option Int
  | .int i => some i
  | _ => none
def oSome (c : EC) : Gam → Mu → R (Option Int) := fun Γ m => (c Γ m).bind fun d m1 => (R.of (asInt d) m1).bind fun i m1 => .ok (some i) m1
theorem ov_none : OV X H0 W ω none oNone := PO.imp po_none fun σ H Q ⟨Γ, m, ρ, Hs, b, en, o⟩ => o _ ρ Hs H (.refl ..) b rfl
theorem ov_some (h : EV X H0 W ω e c) : OV X H0 W ω (some e) (oSome c) := PO.imp (po_some h) fun σ H Q ⟨Γ, m, ρ, Hs, b, en, o⟩ => ⟨Γ, m, ρ, Hs, b, en, Out.mono (Out.bind o) fun v H1 ⟨d, m1, ρ1, Hs1, t1, b1, r1, o1⟩ => by
  obtain ⟨i, hi, o1⟩ := Out.of o1
  cases d <;> simp only [asInt] at hi <;> try (cases hi; done)
  cases hi
  cases r1
  exact ⟨i, rfl, o1 _ ρ1 Hs1 H1 (.refl ..) b1 rfl⟩⟩
def slD : Mu → D → Option Int → Option Int → Option D
  | _, .lst xs, lo, hi => some (.lst (cutG xs lo hi))
  | _, .tup xs, lo, hi => some (.tup (cutG xs lo hi))
  | _, .scr ns, lo, hi => some (.lst ((cutG ns lo hi).map .int))
  | _, _, _, _ => none
/-- the same of lists alone: the value is a new list -/
def slL : Mu → D → Option Int → Option Int → Option D
  | _, .lst xs, lo, hi => some (.lst (cutG xs lo hi))
  | _, .scr ns, lo, hi => some (.lst ((cutG ns lo hi).map .int))
  | _, _, _, _ => none
def SlD (f : Bool) (X : Cx) (g : Mu → D → Option Int → Option Int → Option D) : Prop :=
  SlR X fun x lo hi H Q => ∃ W d m ρ Hs, Bs X.K ρ m Hs H ∧ BRep X.K ρ Hs H x d ∧ OutB f X.K X.mg W (R.of (g m d lo hi) m) ρ Hs H Q
theorem cutV_ints (ns : List Int) (lo hi : Option Int) : cutV (ns.map V.int) lo hi = (cutG ns lo hi).map V.int := by
  unfold cutV cutG
  rw [List.length_map, List.map_take, List.map_drop]
theorem sl_all : SlD false X slD := by
  intro pins s σ H x v vl vu lo hi sl Q I rx hs pl pu ⟨W, d, m, ρ, Hs, b, hx, o⟩
  obtain ⟨r, hg, o⟩ := OutB.of o
  cases d <;> simp only [slD] at hg <;> try (cases hg; done)
  case lst ds =>
    cases hg
    obtain ⟨a, vs, rfl, h1, h2⟩ := hx.items b
    exact sl_list pins s σ H _ v vl vu lo hi sl Q I rx hs pl pu ⟨a, vs, rfl, .inl (.inl h1), fun q hq => OutB.newL b (h2.cut lo hi) o hq⟩
  case tup ds =>
    cases hg
    obtain ⟨a, vs, rfl, h1, h2, h3⟩ := hx.itemsT b
    refine sl_tupA pins s σ H _ v vl vu lo hi sl Q I rx hs pl pu ⟨a, vs, rfl, h1, fun ⟨z1, z2⟩ => ?_, fun _ q hq => OutB.newT b (h2.cut lo hi) o hq⟩
    have e : cutG ds lo hi = ds := by
      unfold cutG
      rw [← h2.length, z1, z2, h2.length]
      simp
    rw [e] at o
    exact o.val b h3
  case scr ns =>
    cases hg
    rcases hx with hx | ⟨_, _, hx, _⟩ <;> cases hx
    rename_i a hr
    exact sl_list pins s σ H _ v vl vu lo hi sl Q I rx hs pl pu ⟨a, _, rfl, b.sub.l hr, fun q hq => by rw [cutV_ints]; exact OutB.newL b (RepAll.ints _) o hq⟩
theorem sl_new : SlD f X slL := by
  intro pins s σ H x v vl vu lo hi sl Q I rx hs pl pu ⟨W, d, m, ρ, Hs, b, hx, o⟩
  obtain ⟨r, hg, o⟩ := OutB.of o
  cases d <;> simp only [slL] at hg <;> try (cases hg; done)
  case lst ds =>
    cases hg
    obtain ⟨a, vs, rfl, h1, h2⟩ := hx.items b
    exact sl_list pins s σ H _ v vl vu lo hi sl Q I rx hs pl pu ⟨a, vs, rfl, .inl (.inl h1), fun q hq => OutB.newL b (h2.cut lo hi) o hq⟩
  case scr ns =>
    cases hg
    rcases hx with hx | ⟨_, _, hx, _⟩ <;> cases hx
    rename_i a hr
    exact sl_list pins s σ H _ v vl vu lo hi sl Q I rx hs pl pu ⟨a, _, rfl, b.sub.l hr, fun q hq => by rw [cutV_ints]; exact OutB.newL b (RepAll.ints _) o hq⟩
def cSl (g : Mu → D → Option Int → Option Int → Option D) (ca : EC) (cl ch : Gam → Mu → R (Option Int)) : EC := fun Γ m => (ca Γ m).bind fun d m1 => (cl Γ m1).bind fun lo m2 => (ch Γ m2).bind fun hi m3 => R.of (g m3 d lo hi) m3
theorem ev_sl {g : Mu → D → Option Int → Option Int → Option D} {lo hi : Option Expr} {cl ch : Gam → Mu → R (Option Int)} {p2 : Pos} (hr : SlD f X g) (ha : BV X H0 W ω a ca) (hl : OV X H0 W ω lo cl) (hh : OV X H0 W ω hi ch) :
    EB f X H0 W ω (.Subscript a (.Slice lo hi none p2) pos) (cSl g ca cl ch) :=
  PE.imp (pe_slice hr ha hl hh) fun σ H Q ⟨Γ, m, ρ, Hs, b, en, o⟩ => ⟨Γ, m, ρ, Hs, b, en, OutW.mono (OutB.bindW o) fun v H1 ⟨d, m1, ρ1, Hs1, t1, b1, r1, o1⟩ =>
    ⟨Γ, m1, ρ1, Hs1, b1, en.mono t1, Out.mono (OutB.bind o1) fun l H2 ⟨lo, m2, ρ2, Hs2, t2, b2, e2, o2⟩ =>
      ⟨Γ, m2, ρ2, Hs2, b2, (en.mono t1).mono t2, Out.mono (OutB.bind o2) fun l' H3 ⟨hi, m3, ρ3, Hs3, t3, b3, e3, o3⟩ => ⟨_, d, m3, ρ3, Hs3, b3, (r1.mono t2).mono t3, by subst e2 e3; exact o3⟩⟩⟩⟩
end
end Pv

end

section
set_option Elab.async false
set_option linter.all false
set_option maxRecDepth 100000
/-! Pv6: isinstance, truth, tests, conditional expressions, calls of the program's own defs. -/
namespace Pv
open PySem L2 PySem.W PyProof.Rows PySem.SeqAt

/-! ### isinstance -/
inductive Ty where
  | int | bool | str | list | tuple
def Ty.nm : Ty → String
  | .int => "int" | .bool => "bool" | .str => "str" | .list => "list" | .tuple => "tuple"
def isi : Ty → D → Option Bool
  | .int, .int _ => some true
  | .int, .bl _ => some true
  | .bool, .bl _ => some true
  | .str, .str _ => some true
  | .list, .lst _ => some true
  | .list, .scr _ => some true
  | .tuple, .tup _ => some true
  | _, .non | _, .bl _ | _, .int _ | _, .str _ | _, .lst _ | _, .tup _ | _, .scr _ => some false
  | _, _ => none
def kindN : D → Option String
  | .non => some "NoneType" | .bl _ => some "bool" | .int _ => some "int" | .str _ => some "str" | .lst _ => some "list" | .tup _ => some "tuple" | .scr _ => some "list"
  | _ => none
theorem isi_kit {t : Ty} {d : D} {k : Bool} (h : isi t d = some k) : ∃ n, kindN d = some n ∧ kitB n t.nm = some k := by
  cases t <;> cases d <;> simp only [isi] at h <;> try (cases h; done)
  all_goals (cases h; exact ⟨_, rfl, by decide +kernel⟩)
section
variable {X : Cx} {H0 : Hp} {W : WX} {ω : List Md} {e a b : Expr} {es : List Expr} {c ca cb : EC} {cs : Gam → Mu → R (List D)} {f : Bool} {pos p : Pos} {x : Str} {id T : String}
theorem tyx_of {K : PySem.W.Frag} {ρ : List Addr} {H : Hp} {v : V} {d : D} {n : String} (h : Rep K ρ H v d) (hn : kindN d = some n) : TyX K H v (.type n) := by
  cases h <;> simp only [kindN] at hn <;> try (cases hn; done)
  all_goals cases hn
  case non => exact .base .non
  case bl => exact .base (.bl _)
  case int => exact .base (.int _)
  case str => exact .base (.str _)
  case lst h _ => exact .base (.lst h)
  case tup h _ =>
    rcases h with (h | ⟨o, h⟩) | ⟨o, its, n, h, hc, _⟩
    · exact .base (.tup h)
    · exact .fTuple h
    · exact .kTuple h hc
  case scr h =>
    rcases h with (h | ⟨o, h⟩) | ⟨o, its, n, h, hc, _⟩
    · exact .base (.lst h)
    · exact .base (.frz h)
    · exact .kList h hc
def isiD (t : Ty) (_ : Mu) (d : D) : Option D := (isi t d).map .bl
theorem ev_isi (t : Ty) {q : Pos} {y : Str} (ha : BV X H0 W ω a ca) (hm : X.mg "isinstance" = none) (hmT : X.mg y = none) (hvT : bootBuiltins y = some (.type t.nm)) (hg : Gl X "isinstance" := by rfl) (hgT : Gl X y := by rfl) (hnT : y ≠ "__name__" := by decide) (hdT : (y == ("__debug__" : Str)) = false := by decide)
    (he : starEach [a, .Name y q] X.env = (false, eval a X.env) :: starEach [.Name y q] X.env := by rfl) (he2 : starEach [.Name y q] X.env = [(false, eval (.Name y q) X.env)] := by rfl) (hpl : (backTo pos (starEach [.Name y q] X.env)).any (·.1) = false := by rfl) :
    EV X H0 W ω (.Call (.Name "isinstance" p) [a, .Name y q] [] pos) (c1 (isiD t) ca) :=
  EB.ev (PE.imp (pe_callB call_isi hg hm (by decide +kernel) (pa_cons ha (pa_cons (pe_bltn (v := .ty t.nm) hgT hmT hvT rfl hnT hdT) pa_nil he2) he) (by decide) (by decide) he hpl) fun σ H Q h =>
    c1_read (r := fun x H Q => rIsi X.K [x, .ty t.nm] H Q) (fun v H Q W ρ m Hs d z b hx hg o => by
      obtain ⟨k, hk, rfl⟩ := Option.map_eq_some_iff.mp hg
      obtain ⟨n, h1, h2⟩ := isi_kit hk
      exact ⟨v, .ty t.nm, .type n, .type t.nm, k, rfl, .ty _, tyx_of (hx.full b) h1, kit_ty h2, o.val b (.bl _)⟩) h)
def isi2D (t u : Ty) (_ : Mu) (d : D) : Option D := match isi t d, isi u d with
  | some k, some l => some (.bl (k || l))
  | _, _ => none
theorem ev_isi2 (t u : Ty) {q q' q2 : Pos} {y y' : Str} {kk : Nat} (ha : BV X H0 W ω a ca) (hm : X.mg "isinstance" = none) (hmT : X.mg y = none) (hvT : bootBuiltins y = some (.type t.nm)) (hmU : X.mg y' = none) (hvU : bootBuiltins y' = some (.type u.nm)) (hg : Gl X "isinstance" := by rfl) (hgT : Gl X y := by rfl) (hnT : y ≠ "__name__" := by decide) (hdT : (y == ("__debug__" : Str)) = false := by decide)
    (hgU : Gl X y' := by rfl) (hnU : y' ≠ "__name__" := by decide) (hdU : (y' == ("__debug__" : Str)) = false := by decide)
    (he : starEach [a, .Tuple [.Name y q, .Name y' q'] kk q2] X.env = (false, eval a X.env) :: starEach [.Tuple [.Name y q, .Name y' q'] kk q2] X.env := by rfl) (he2 : starEach [.Tuple [.Name y q, .Name y' q'] kk q2] X.env = [(false, eval (.Tuple [.Name y q, .Name y' q'] kk q2) X.env)] := by rfl) (hpl : (backTo pos (starEach [.Tuple [.Name y q, .Name y' q'] kk q2] X.env)).any (·.1) = false := by rfl)
    (he3 : starEach [.Name y q, .Name y' q'] X.env = (false, eval (.Name y q) X.env) :: starEach [.Name y' q'] X.env := by rfl) (he4 : starEach [.Name y' q'] X.env = [(false, eval (.Name y' q') X.env)] := by rfl) :
    EV X H0 W ω (.Call (.Name "isinstance" p) [a, .Tuple [.Name y q, .Name y' q'] kk q2] [] pos) (c1 (isi2D t u) ca) :=
  EB.ev (PE.imp (pe_callB call_isiT hg hm (by decide +kernel) (pa_cons ha (pa_cons (pe_tup (pa_cons (pe_bltn (v := .ty t.nm) hgT hmT hvT rfl hnT hdT) (pa_cons (pe_bltn (v := .ty u.nm) hgU hmU hvU rfl hnU hdU) pa_nil he4) he3)) pa_nil he2) he) (by decide) (by decide) he hpl) fun σ H Q h =>
    c1_read (r := fun x H Q => [V.ty t.nm, .ty u.nm].length ≤ sizeLine ∧ ∀ q, H q = none → rIsiT X.K [x, .ref q] (upd H q (.tup [.ty t.nm, .ty u.nm])) Q) (fun v H Q W ρ m Hs d z b hx hg o => by
      refine ⟨by show 2 ≤ sizeLine; decide, fun q hq => ?_⟩
      unfold isi2D at hg
      split at hg
      case h_2 => cases hg
      case h_1 k l hk hl =>
        cases hg
        obtain ⟨n, h1, h2⟩ := isi_kit hk
        obtain ⟨n', h1', h2'⟩ := isi_kit hl
        rw [h1] at h1'
        cases h1'
        have tr : Tr ρ Hs H ρ Hs (upd H q (.tup [.ty t.nm, .ty u.nm])) := tr_newF hq
        have b' := Bs.newF (o := .tup [.ty t.nm, .ty u.nm]) b hq
        refine ⟨v, q, _, .type n, [.type t.nm, .type u.nm], k || l, rfl, upd_same, .cons (.ty _) (.cons (.ty _) .nil), tyx_of ((hx.mono tr).full b') h1, ?_, (o.tr tr).val b' (.bl _)⟩
        refine kitAny_cons (kit_ty h2) (fun z => ?_) (fun z => by rw [z]; rfl)
        refine kitAny_cons (kit_ty h2') (fun z' => ?_) (fun z' => by rw [z, z']; rfl)
        rw [z, z']
        rfl) h)

/-! ### truth -/
def truD : Mu → D → Option Bool
  | _, .non => some false
  | _, .bl k => some k
  | _, .int i => some (i != 0)
  | _, .str y => if szOk y.length then some ((y.length : Int) != 0) else none
  | _, .lst xs => some (!xs.isEmpty)
  | _, .tup xs => some (!xs.isEmpty)
  | _, _ => none
theorem RepAll.emp {K : PySem.W.Frag} {ρ : List Addr} {H : Hp} {vs : List V} {ds : List D} (h : RepAll K ρ H vs ds) : vs.isEmpty = ds.isEmpty := by cases h <;> rfl
theorem tru_of {K : PySem.W.Frag} {ρ : List Addr} {Hs H : Hp} {m m' : Mu} {v : V} {d : D} {k : Bool} (b : Bs K ρ m Hs H) (h : BRep K ρ Hs H v d) (hk : truD m' d = some k) : TruV K v H k := by
  cases d <;> simp only [truD] at hk <;> try (cases hk; done)
  case non => cases hk; rcases h with h | ⟨_, _, h, _⟩ <;> cases h; rfl
  case bl => cases hk; rcases h with h | ⟨_, _, h, _⟩ <;> cases h; rfl
  case int => cases hk; rcases h with h | ⟨_, _, h, _⟩ <;> cases h; rfl
  case str => obtain ⟨hz, rfl⟩ := of_if hk; rcases h with h | ⟨_, _, h, _⟩ <;> cases h; exact ⟨szOk_le hz, rfl⟩
  case lst ds =>
    cases hk
    obtain ⟨a, vs, rfl, h1, h2⟩ := h.items b
    exact .inl ⟨vs, .inl (.inl h1), by rw [h2.emp]⟩
  case tup ds =>
    cases hk
    obtain ⟨a, vs, rfl, h1, h2, _⟩ := h.itemsT b
    exact .inr (.inl ⟨vs, h1, by rw [h2.emp]⟩)
abbrev TC := Gam → Mu → R Bool
def tTru (c : EC) : TC := fun Γ m => (c Γ m).bind fun d m1 => R.of (truD m1 d) m1
theorem Out.ofV {α β : Type} {K : PySem.W.Frag} {mg : Str → Option Value} {Rp : List Addr → Hp → β → α → Prop} {W : Value → Option Addr → Hp → Prop} {ρ : List Addr} {Hs H : Hp} {Q : β → Hp → Prop} {o : Option α} {m : Mu} (h : Out K mg Rp W (R.of o m) ρ Hs H Q) : ∃ r, o = some r ∧ Out K mg Rp W (.ok r m) ρ Hs H Q := by
  cases o with
  | none => exact h.elim
  | some r => exact ⟨r, rfl, h⟩
theorem tv_val (h : BV X H0 W ω e c) (he : ∀ whole, isTrue e X.env whole = (do let v ← whole; standAt e.pos; holding [v] (truthy v)) := by intro _; rfl) : TV X H0 W ω e (tTru c) :=
  PT.imp (pt_truth h he) fun σ H Q ⟨Γ, m, ρ, Hs, b, en, o⟩ => ⟨Γ, m, ρ, Hs, b, en, OutW.mono (Out.bindW o) fun v H1 ⟨d, m1, ρ1, Hs1, t1, b1, r1, o1⟩ => by
    obtain ⟨k, hk, o1⟩ := Out.ofV o1
    exact ⟨k, tru_of b1 r1 hk, o1 k ρ1 Hs1 H1 (.refl ..) b1 rfl⟩⟩
/-- a test that is a comparison -/
theorem tv_cmp {op : CmpOp} (h : BV X H0 W ω (.Compare a [op] [b] pos) c) (he : ∀ whole, isTrue (.Compare a [op] [b] pos) X.env whole = (do let v ← whole; standAt (Expr.Compare a [op] [b] pos).pos; holding [v] (truthy v)) := by intro _; rfl) : TV X H0 W ω (.Compare a [op] [b] pos) (tTru c) := tv_val h he
abbrev WV (X : Cx) (H0 : Hp) (W : WX) (ω : List Md) (e : Expr) (c : TC) : Prop := PW X e (cT X H0 W ω c)
theorem PW.imp {X : Cx} {e : Expr} {t t' : TT} (h : PW X e t) (q : ∀ σ H Q, t' σ H Q → t σ H Q) : PW X e t' := ⟨fun wh pins s σ H Q I z => h.run wh pins s σ H Q I (q _ _ _ z)⟩
variable {ta tb : TC} {rest : List Expr}
def tAnd' (ta tb : TC) : TC := fun Γ m => (ta Γ m).bind fun k m1 => if k then tb Γ m1 else .ok false m1
def tOr' (ta tb : TC) : TC := fun Γ m => (ta Γ m).bind fun k m1 => if k then .ok true m1 else tb Γ m1
def tNot' (ta : TC) : TC := fun Γ m => (ta Γ m).bind fun k m1 => .ok (!k) m1
theorem wv_and1 (ha : TV X H0 W ω a ta) : WV X H0 W ω (.BoolOp .And [a] pos) ta := pw_and1 ha
theorem wv_or1 (ha : TV X H0 W ω a ta) : WV X H0 W ω (.BoolOp .Or [a] pos) ta := pw_or1 ha
theorem wv_and (ha : TV X H0 W ω a ta) (hb : WV X H0 W ω (.BoolOp .And (b :: rest) pos) tb) : WV X H0 W ω (.BoolOp .And (a :: b :: rest) pos) (tAnd' ta tb) :=
  PW.imp (pw_and ha hb) fun σ H Q ⟨Γ, m, ρ, Hs, b, en, o⟩ => ⟨Γ, m, ρ, Hs, b, en, Out.mono (Out.bind o) fun v H1 ⟨k, m1, ρ1, Hs1, t1, b1, e1, o1⟩ => by
    subst e1
    cases v with
    | true => exact ⟨Γ, m1, ρ1, Hs1, b1, en.mono t1, o1⟩
    | false => exact o1 false ρ1 Hs1 H1 (.refl ..) b1 rfl⟩
theorem wv_or (ha : TV X H0 W ω a ta) (hb : WV X H0 W ω (.BoolOp .Or (b :: rest) pos) tb) : WV X H0 W ω (.BoolOp .Or (a :: b :: rest) pos) (tOr' ta tb) :=
  PW.imp (pw_or ha hb) fun σ H Q ⟨Γ, m, ρ, Hs, b, en, o⟩ => ⟨Γ, m, ρ, Hs, b, en, Out.mono (Out.bind o) fun v H1 ⟨k, m1, ρ1, Hs1, t1, b1, e1, o1⟩ => by
    subst e1
    cases v with
    | false => exact ⟨Γ, m1, ρ1, Hs1, b1, en.mono t1, o1⟩
    | true => exact o1 true ρ1 Hs1 H1 (.refl ..) b1 rfl⟩
theorem tv_bool (h : WV X H0 W ω e ta) : TV X H0 W ω e ta := PW.pt h
theorem tv_not (ha : TV X H0 W ω a ta) : TV X H0 W ω (.UnaryOp .Not a pos) (tNot' ta) :=
  PT.imp (pt_not ha) fun σ H Q ⟨Γ, m, ρ, Hs, b, en, o⟩ => ⟨Γ, m, ρ, Hs, b, en, Out.mono (Out.bind o) fun v H1 ⟨k, m1, ρ1, Hs1, t1, b1, e1, o1⟩ => by
    subst e1
    exact o1 _ ρ1 Hs1 H1 (.refl ..) b1 rfl⟩

/-! ### and, or, not, a conditional, as values -/
def cIf (t : TC) (ca cb : EC) : EC := fun Γ m => (t Γ m).bind fun k m1 => if k then ca Γ m1 else cb Γ m1
theorem ev_if {q : Expr} (hq : TV X H0 W ω q ta) (ha : EB f X H0 W ω a ca) (hb : EB f X H0 W ω b cb) : EB f X H0 W ω (.IfExp q a b pos) (cIf ta ca cb) :=
  PE.imp (pe_ifExp hq ha hb) fun σ H Q ⟨Γ, m, ρ, Hs, b, en, o⟩ => ⟨Γ, m, ρ, Hs, b, en, Out.mono (OutB.bind o) fun v H1 ⟨k, m1, ρ1, Hs1, t1, b1, e1, o1⟩ => by
    subst e1
    cases v with
    | false => exact ⟨Γ, m1, ρ1, Hs1, b1, en.mono t1, o1⟩
    | true => exact ⟨Γ, m1, ρ1, Hs1, b1, en.mono t1, o1⟩⟩
def notD (m : Mu) (d : D) : Option D := (truD m d).map fun k => .bl (!k)
theorem ev_not (ha : BV X H0 W ω a ca) : EV X H0 W ω (.UnaryOp .Not a pos) (c1 notD ca) :=
  EB.ev (PE.imp (pe_notT ha) fun σ H Q h => c1_read (r := fun x H Q => ∃ k, TruV X.K x H k ∧ Q (.bl (!k)) H) (fun v H Q W ρ m Hs d z b hx hg o => by
    obtain ⟨k, hk, rfl⟩ := Option.map_eq_some_iff.mp hg
    exact ⟨k, tru_of b hx hk, o.val b (.bl _)⟩) h)
def negD : Mu → D → Option D
  | _, .int i => some (.int (-i))
  | _, _ => none
theorem ev_neg (ha : BV X H0 W ω a ca) : EV X H0 W ω (.UnaryOp .USub a pos) (c1 negD ca) :=
  EB.ev (PE.imp (pe_un un_neg ha) fun σ H Q h => c1_read (r := rU fun i => .int (-i)) (fun v H Q W ρ m Hs d z b hx hg o => by
    cases d <;> simp only [negD] at hg <;> try (cases hg; done)
    cases hg
    rcases hx with hx | ⟨_, _, hx, _⟩ <;> cases hx
    exact ⟨_, rfl, o.val b (.int _)⟩) h)
def cAnd (ca cb : EC) : EC := fun Γ m => (ca Γ m).bind fun d m1 => (R.of (truD m1 d) m1).bind fun k m1 => if k then cb Γ m1 else .ok d m1
def cOr (ca cb : EC) : EC := fun Γ m => (ca Γ m).bind fun d m1 => (R.of (truD m1 d) m1).bind fun k m1 => if k then .ok d m1 else cb Γ m1
theorem ev_one {op : BoolOp} (h : EB f X H0 W ω a ca) : EB f X H0 W ω (.BoolOp op [a] pos) ca := pe_one h
theorem ev_and (ha : EV X H0 W ω a ca) (hb : EV X H0 W ω (.BoolOp .And (b :: rest) pos) cb) : EV X H0 W ω (.BoolOp .And (a :: b :: rest) pos) (cAnd ca cb) :=
  PE.imp (pe_andT ha hb) fun σ H Q ⟨Γ, m, ρ, Hs, b, en, o⟩ => ⟨Γ, m, ρ, Hs, b, en, Out.mono (Out.bind o) fun v H1 ⟨d, m1, ρ1, Hs1, t1, b1, r1, o1⟩ => by
    obtain ⟨k, hk, o1⟩ := Out.of o1
    refine ⟨k, tru_of b1 (.inl r1) hk, ?_⟩
    cases k with
    | true => exact ⟨Γ, m1, ρ1, Hs1, b1, en.mono t1, o1⟩
    | false => exact o1 v ρ1 Hs1 H1 (.refl ..) b1 r1⟩
theorem ev_or (ha : EV X H0 W ω a ca) (hb : EV X H0 W ω (.BoolOp .Or (b :: rest) pos) cb) : EV X H0 W ω (.BoolOp .Or (a :: b :: rest) pos) (cOr ca cb) :=
  PE.imp (pe_orT ha hb) fun σ H Q ⟨Γ, m, ρ, Hs, b, en, o⟩ => ⟨Γ, m, ρ, Hs, b, en, Out.mono (Out.bind o) fun v H1 ⟨d, m1, ρ1, Hs1, t1, b1, r1, o1⟩ => by
    obtain ⟨k, hk, o1⟩ := Out.of o1
    refine ⟨k, tru_of b1 (.inl r1) hk, ?_⟩
    cases k with
    | false => exact ⟨Γ, m1, ρ1, Hs1, b1, en.mono t1, o1⟩
    | true => exact o1 v ρ1 Hs1 H1 (.refl ..) b1 r1⟩
/-- x or y, both new lists -/
theorem ev_orF (ha : EB true X H0 W ω a ca) (hb : EB true X H0 W ω (.BoolOp .Or (b :: rest) pos) cb) : EB true X H0 W ω (.BoolOp .Or (a :: b :: rest) pos) (cOr ca cb) :=
  PE.imp (pe_orT ha hb) fun σ H Q ⟨Γ, m, ρ, Hs, b, en, o⟩ => ⟨Γ, m, ρ, Hs, b, en, by
    unfold cOr at o
    cases hc : ca Γ m with
    | bad => rw [hc] at o; exact o
    | exc c fs m' => rw [hc] at o; exact o
    | ok d m1 =>
      rw [hc] at o
      intro a' ρ1 Hs1 H1 t1 b1 o1 o2 o3 o4 o5
      have o : OutB true X.K X.mg (fun cls dx H' => W cls dx σ H') ((R.of (truD m1 d) m1).bind fun k m1 => if k = true then .ok d m1 else cb Γ m1) ρ Hs H Q := o
      cases hk : truD m1 d with
      | none => rw [hk] at o; exact o.elim
      | some k =>
        rw [hk] at o
        refine ⟨k, tru_of b1 (.inr ⟨a', rfl, o1, o2, o3, o5⟩) hk, ?_⟩
        cases k with
        | true => exact o a' ρ1 Hs1 H1 t1 b1 o1 o2 o3 o4 o5
        | false => exact ⟨Γ, m1, ρ1, Hs1, b1, en.mono t1, OutB.tr t1 o⟩⟩

/-! ### a < b < c -/
def cChain (g g' : Mu → D → D → Option D) (ca cb cc : EC) : EC := fun Γ m => (ca Γ m).bind fun d m1 => (cb Γ m1).bind fun e m2 => (R.of (g m2 d e) m2).bind fun z m2 => match z with
  | .bl true => (cc Γ m2).bind fun e' m3 => R.of (g' m3 e e') m3
  | .bl false => .ok (.bl false) m2
  | _ => .bad

/-! ### calls of the program's own defs -/
/-- the promise: the def computes G -/
def spD (K : PySem.W.Frag) (mg : Str → Option Value) (f : Bool) (n : Nat) (G : List D → Mu → R D) : Sp := fun vs H Q E => ∃ ρ m Hs ds, Bs K ρ m Hs H ∧ RepAll K ρ Hs vs ds ∧ ds.length = n ∧ OutB f K mg E (G ds m) ρ Hs H Q
def LenA (cs : Gam → Mu → R (List D)) (n : Nat) : Prop := ∀ Γ m ds m', cs Γ m = .ok ds m' → ds.length = n
theorem len_nil : LenA aNil 0 := fun Γ m ds m' h => by cases h; rfl
theorem len_cons {n : Nat} (h : LenA cs n) : LenA (aCons ca cs) (n + 1) := fun Γ m ds m' e => by
  unfold aCons at e
  cases h1 : ca Γ m with
  | bad => rw [h1] at e; cases e
  | exc c fs m' => rw [h1] at e; cases e
  | ok d m1 =>
    rw [h1] at e
    have e : ((cs Γ m1).bind fun ds m2 => R.ok (d :: ds) m2) = .ok ds m' := e
    cases h2 : cs Γ m1 with
    | bad => rw [h2] at e; cases e
    | exc c fs m' => rw [h2] at e; cases e
    | ok ds' m2 =>
      rw [h2] at e
      cases e
      rw [List.length_cons, h _ _ _ _ h2]
def cCall (G : List D → Mu → R D) (cs : Gam → Mu → R (List D)) : EC := fun Γ m => (cs Γ m).bind G
theorem ev_call {CX : CXT} {k : Nat} {fa : Addr} {fd : FuncData} {ps : List Str} {G : List D → Mu → R D} (F : FnOk X.prog X.w X.K X.mg X.base CX k fa fd ps (spD X.K X.mg f ps.length G)) (hr : Room k X.A) (hm : X.mg x = some (.ref fa)) (hk : PySem.W.keepIn X.K (.ref fa) = true)
    (hb : Binds X.K fd ps []) (hx : ∀ σ, PassesAt CX X σ (fun cls dx H' => W cls dx σ H')) (ha : AV X H0 W ω (e :: es) cs) (hl : LenA cs ps.length) (hg : Gl X x := by rfl)
    (hdb : (x == ("__debug__" : Str)) = false := by decide) (he : starEach (e :: es) X.env = (false, eval e X.env) :: starEach es X.env := by rfl) (hpl : (backTo pos (starEach es X.env)).any (·.1) = false := by rfl) :
    EB f X H0 W ω (.Call (.Name x p) (e :: es) [] pos) (cCall G cs) :=
  PE.imp (pe_callSD (E := fun σ cls dx H' => W cls dx σ H') F hr hg hm hk hb .nil hx ha hdb he hpl) fun σ H Q ⟨Γ, m, ρ, Hs, b, en, o⟩ => ⟨Γ, m, ρ, Hs, b, en, by
    unfold cCall at o
    cases hc : cs Γ m with
    | bad => rw [hc] at o; exact o
    | exc c fs m' => rw [hc] at o; exact o
    | ok ds m1 =>
      rw [hc] at o
      intro vs ρ1 Hs1 H1 t1 b1 r1
      rw [List.append_nil]
      exact ⟨ρ1, m1, Hs1, ds, b1, r1, hl _ _ _ _ hc, OutB.tr t1 o⟩⟩
theorem passes0 (σ : L2.St) {E : XK} : PassesAt CX0 X σ E := fun _ _ _ _ _ _ h => h.elim
end
end Pv

end

section
set_option Elab.async false
set_option linter.all false
set_option maxRecDepth 100000
/-! Pv7: targets, statements, what is walked, loops, comprehensions. -/
namespace Pv
open PySem L2 PySem.W PyProof.Rows PySem.SeqAt

/-! ### slots -/
section
variable {K : PySem.W.Frag} {H0 : Hp} {ω ω2 : List Md} {Γ : Gam} {ρ : List Addr} {Hs H : Hp} {σ : L2.St}
theorem getD_set_same {i : Nat} {d : D} (h : i < Γ.length) : (Γ.set i d).getD i .non = d := by
  rw [List.getD_eq_getElem?_getD, List.getElem?_set_self h]; rfl
theorem getD_set_ne {i j : Nat} {d : D} (h : i ≠ j) : (Γ.set i d).getD j .non = Γ.getD j .non := by
  rw [List.getD_eq_getElem?_getD, List.getElem?_set_ne h, List.getD_eq_getElem?_getD]
/-- a value into a slot -/
theorem En.setSh {i : Nat} {v : V} {d : D} (e : En K H0 ω Γ ρ Hs H σ) (hi : i < ω.length) (r : Rep K ρ Hs v d) : En K H0 (ω.set i .sh) (Γ.set i d) ρ Hs H (σ.set i (some v)) where
  ln := by rw [List.length_set, List.length_set]; exact e.ln
  wl := by rw [List.length_set, List.length_set]; exact e.wl
  sh j h := by
    by_cases z : i = j
    · subst z
      exact ⟨v, List.getElem?_set_self (by rw [← e.wl]; exact hi), by rw [getD_set_same (by rw [e.ln, ← e.wl]; exact hi)]; exact r⟩
    · rw [List.getElem?_set_ne z] at h
      obtain ⟨w, h1, h2⟩ := e.sh j h
      exact ⟨w, by rw [List.getElem?_set_ne z]; exact h1, by rw [getD_set_ne z]; exact h2⟩
  ow j h := by
    by_cases z : i = j
    · subst z; rw [List.getElem?_set_self hi] at h; cases h
    · rw [List.getElem?_set_ne z] at h
      obtain ⟨a, h1, h2⟩ := e.ow j h
      exact ⟨a, by rw [List.getElem?_set_ne z]; exact h1, by rw [getD_set_ne z]; exact h2⟩
  nd j k a h1 h2 h3 h4 := by
    have zj : i ≠ j := fun z => by subst z; rw [List.getElem?_set_self hi] at h1; cases h1
    have zk : i ≠ k := fun z => by subst z; rw [List.getElem?_set_self hi] at h2; cases h2
    rw [List.getElem?_set_ne zj] at h1 h3
    rw [List.getElem?_set_ne zk] at h2 h4
    exact e.nd j k a h1 h2 h3 h4
/-- a new list into a slot -/
theorem En.setOw {i : Nat} {a : Addr} {d : D} (e : En K H0 ω Γ ρ Hs H σ) (hi : i < ω.length) (o : Own K ρ Hs H a d) (h1 : Hs a = none) (h2 : a ∉ ρ) (h3 : H0 a = none) (h4 : H a ≠ none) (hne : ∀ j : Nat, ω[j]? = some Md.ow → σ[j]? ≠ some (some (V.ref a))) :
    En K H0 (ω.set i .ow) (Γ.set i d) ρ Hs H (σ.set i (some (.ref a))) where
  ln := by rw [List.length_set, List.length_set]; exact e.ln
  wl := by rw [List.length_set, List.length_set]; exact e.wl
  sh j h := by
    by_cases z : i = j
    · subst z; rw [List.getElem?_set_self hi] at h; cases h
    · rw [List.getElem?_set_ne z] at h
      obtain ⟨w, h1, h2⟩ := e.sh j h
      exact ⟨w, by rw [List.getElem?_set_ne z]; exact h1, by rw [getD_set_ne z]; exact h2⟩
  ow j h := by
    by_cases z : i = j
    · subst z
      exact ⟨a, List.getElem?_set_self (by rw [← e.wl]; exact hi), by rw [getD_set_same (by rw [e.ln, ← e.wl]; exact hi)]; exact o, h1, h2, h3, h4⟩
    · rw [List.getElem?_set_ne z] at h
      obtain ⟨b, q1, q2⟩ := e.ow j h
      exact ⟨b, by rw [List.getElem?_set_ne z]; exact q1, by rw [getD_set_ne z]; exact q2⟩
  nd j k b q1 q2 q3 q4 := by
    have hs : i < σ.length := by rw [← e.wl]; exact hi
    by_cases zj : i = j
    · by_cases zk : i = k
      · rw [← zj, ← zk]
      · subst zj
        rw [List.getElem?_set_self hs] at q3
        cases q3
        rw [List.getElem?_set_ne zk] at q2 q4
        exact absurd q4 (hne k q2)
    · by_cases zk : i = k
      · subst zk
        rw [List.getElem?_set_self hs] at q4
        cases q4
        rw [List.getElem?_set_ne zj] at q1 q3
        exact absurd q3 (hne j q1)
      · rw [List.getElem?_set_ne zj] at q1 q3
        rw [List.getElem?_set_ne zk] at q2 q4
        exact e.nd j k b q1 q2 q3 q4
/-- less is known of the slots -/
def MdLe (ω2 ω : List Md) : Bool := ω2.length == ω.length && (ω2.zip ω).all fun p => p.1 == .un || p.1 == p.2
theorem MdLe.at (h : MdLe ω2 ω = true) {i : Nat} {k : Md} (hk : k ≠ .un) (e : ω2[i]? = some k) : ω[i]? = some k := by
  unfold MdLe at h
  rw [Bool.and_eq_true, beq_iff_eq, List.all_eq_true] at h
  obtain ⟨h1, h2⟩ := h
  have hi : i < ω2.length := (List.getElem?_eq_some_iff.mp e).1
  have hi2 : i < ω.length := by rw [← h1]; exact hi
  have := h2 (ω2[i], ω[i]) (by
    rw [List.mem_iff_getElem?]
    exact ⟨i, by rw [List.getElem?_zip_eq_some]; exact ⟨List.getElem?_eq_getElem hi, List.getElem?_eq_getElem hi2⟩⟩)
  have e2 : ω2[i] = k := Option.some.inj ((List.getElem?_eq_getElem hi).symm.trans e)
  rw [Bool.or_eq_true, beq_iff_eq, beq_iff_eq] at this
  rcases this with z | z
  · exact absurd (e2.symm.trans z) hk
  · rw [List.getElem?_eq_getElem hi2]
    show some ω[i] = some k
    rw [← e2]; exact congrArg some z.symm
theorem En.weak (e : En K H0 ω Γ ρ Hs H σ) (h : MdLe ω2 ω = true) : En K H0 ω2 Γ ρ Hs H σ where
  ln := e.ln
  wl := by
    unfold MdLe at h
    rw [Bool.and_eq_true, beq_iff_eq] at h
    rw [h.1]; exact e.wl
  sh i q := e.sh i (MdLe.at h (by decide) q)
  ow i q := e.ow i (MdLe.at h (by decide) q)
  nd i j a q1 q2 := e.nd i j a (MdLe.at h (by decide) q1) (MdLe.at h (by decide) q2)
end

theorem Own.hs {K : PySem.W.Frag} {ρ : List Addr} {Hs H : Hp} {a c : Addr} {d : D} {u : HO} (h : Own K ρ Hs H c d) (h3 : Hs a = none) : Own K ρ (upd Hs a u) H c d := by
  cases h with
  | lst h r => exact .lst h (r.mono (.refl _) (Sub.new h3))

/-! ### targets -/
abbrev GC := D → Gam → Option Gam
def SameOff (is : List Nat) (σ σ' : L2.St) : Prop := σ'.length = σ.length ∧ ∀ j, j ∉ is → σ'[j]? = σ[j]?
def cG (X : Cx) (H0 : Hp) (is : List Nat) (ω ω' : List Md) (ct : GC) : TG := fun v σ H Q => ∃ Γ m ρ Hs d Γ', Bs X.K ρ m Hs H ∧ En X.K H0 ω Γ ρ Hs H σ ∧ Rep X.K ρ Hs v d ∧ ct d Γ = some Γ' ∧ ∀ σ', SameOff is σ σ' → En X.K H0 ω' Γ' ρ Hs H σ' → Q σ' H
abbrev GV (X : Cx) (H0 : Hp) (is : List Nat) (ω : List Md) (tg : Expr) (ct : GC) (ω' : List Md) : Prop := PG X tg (cG X H0 is ω ω' ct)
theorem PG.imp {X : Cx} {e : Expr} {t t' : TG} (h : PG X e t) (q : ∀ v σ H Q, t' v σ H Q → t v σ H Q) : PG X e t' := ⟨fun pins s σ H v u Q I r z => h.run pins s σ H v u Q I r (q _ _ _ _ z)⟩
theorem PGs.imp {X : Cx} {e : List Expr} {t t' : TGs} (h : PGs X e t) (q : ∀ v σ H Q, t' v σ H Q → t v σ H Q) : PGs X e t' := ⟨fun pins s σ H v u Q I r z => h.run pins s σ H v u Q I r (q _ _ _ _ z)⟩
theorem PG.or {X : Cx} {e : Expr} {t t' : TG} (h : PG X e t) (h' : PG X e t') : PG X e fun v σ H Q => t v σ H Q ∨ t' v σ H Q := ⟨fun pins s σ H v u Q I r z => z.elim (h.run pins s σ H v u Q I r) (h'.run pins s σ H v u Q I r)⟩
def gN (i : Nat) : GC := fun d Γ => some (Γ.set i d)
theorem gv_name (i : Nat) {X : Cx} {H0 : Hp} {ω : List Md} {x : Str} {pos : Pos} (hN : X.N.Nodup) (hw : i < ω.length := by decide) (hi : X.N[i]? = some x := by rfl) (hx : Loc X.env.scope x := by first | exact Or.inl rfl | exact Or.inr rfl) (hf : X.fn x = true ∨ X.env.scope.names.lookup x = some .local := by first | exact .inl rfl | exact .inr rfl | assumption) :
    GV X H0 [i] ω (.Name x pos) (gN i) (ω.set i .sh) := PG.imp (pg_name hN hi hx hf) fun v σ H Q ⟨Γ, m, ρ, Hs, d, Γ', b, en, r, e, q⟩ => by
  cases e
  refine q _ ⟨List.length_set, fun j hj => ?_⟩ (en.setSh hw r)
  rw [List.getElem?_set_ne (fun z => hj (by rw [z]; exact List.mem_singleton.mpr rfl))]
abbrev GCs := List D → Gam → Option Gam
def cGs (X : Cx) (H0 : Hp) (is : List Nat) (ω ω' : List Md) (ct : GCs) : TGs := fun vs σ H Q => ∃ Γ m ρ Hs ds Γ', Bs X.K ρ m Hs H ∧ En X.K H0 ω Γ ρ Hs H σ ∧ RepAll X.K ρ Hs vs ds ∧ ct ds Γ = some Γ' ∧ ∀ σ', SameOff is σ σ' → En X.K H0 ω' Γ' ρ Hs H σ' → Q σ' H
abbrev GVs (X : Cx) (H0 : Hp) (is : List Nat) (ω : List Md) (tg : List Expr) (ct : GCs) (ω' : List Md) : Prop := PGs X tg (cGs X H0 is ω ω' ct)
def gsNil : GCs := fun ds Γ => match ds with
  | [] => some Γ
  | _ => none
def gsCons (t : GC) (u : GCs) : GCs := fun ds Γ => match ds with
  | d :: r => (t d Γ).bind fun Γ' => u r Γ'
  | _ => none
section
variable {X : Cx} {H0 : Hp} {ω ω1 ω2 : List Md} {is js : List Nat} {t : GC} {u : GCs} {e : Expr} {es : List Expr} {pos : Pos}
theorem gvs_nil : GVs X H0 [] ω [] gsNil ω := PGs.imp pgs_nil fun v σ H Q ⟨Γ, m, ρ, Hs, d, Γ', b, en, r, e, q⟩ => by
  cases r with
  | nil => cases e; exact ⟨rfl, q σ ⟨rfl, fun _ _ => rfl⟩ en⟩
  | cons h r => cases e
theorem gvs_cons (h1 : GV X H0 is ω e t ω1) (h2 : GVs X H0 js ω1 es u ω2) (hs : (assignEach (e :: es) X.env).map (·.2) = assign e X.env :: (assignEach es X.env).map (·.2) := by rfl) : GVs X H0 (is ++ js) ω (e :: es) (gsCons t u) ω2 :=
  PGs.imp (pgs_cons h1 h2 hs) fun v σ H Q ⟨Γ, m, ρ, Hs, d, Γ', b, en, r, e, q⟩ => by
    cases r with
    | nil => cases e
    | cons h r =>
      obtain ⟨Γ1, e1, e2⟩ := Option.bind_eq_some_iff.mp e
      exact ⟨_, _, rfl, Γ, m, ρ, Hs, _, Γ1, b, en, h, e1, fun σ1 so1 en1 => ⟨Γ1, m, ρ, Hs, _, Γ', b, en1, r, e2, fun σ2 so2 en2 => q σ2 ⟨so2.1.trans so1.1, fun j hj => by
        rw [List.mem_append, not_or] at hj
        rw [so2.2 j hj.2, so1.2 j hj.1]⟩ en2⟩⟩
def gT (n : Nat) (u : GCs) : GC := fun d Γ => match d with
  | .tup ds => if ds.length = n then u ds Γ else none
  | .lst ds => if ds.length = n then u ds Γ else none
  | _ => none
theorem gv_tup {k n : Nat} (hc : X.calm = true) (h : GVs X H0 is ω es u ω2) (hn : (assignEach es X.env).length = n := by rfl) (hst : (assignEach es X.env).findIdx? (·.1) = none := by rfl) : GV X H0 is ω (.Tuple es k pos) (gT n u) ω2 :=
  PG.imp (PG.or (pg_tup hc h hn hst) (pg_lst hc h hn hst)) fun v σ H Q ⟨Γ, m, ρ, Hs, d, Γ', b, en, r, e, q⟩ => by
    cases d <;> simp only [gT] at e <;> try (cases e; done)
    case tup ds =>
      split at e
      case isFalse => cases e
      case isTrue hl =>
        cases r with
        | tup h r => exact .inl ⟨_, _, rfl, b.sub.t h, by rw [r.length]; exact hl, Γ, m, ρ, Hs, ds, Γ', b, en, r, e, q⟩
    case lst ds =>
      split at e
      case isFalse => cases e
      case isTrue hl =>
        cases r with
        | lst h r => exact .inr ⟨_, _, rfl, .inl (.inl (b.sub _ _ h)), by rw [r.length]; exact hl, Γ, m, ρ, Hs, ds, Γ', b, en, r, e, q⟩
end

/-! ### statements -/
inductive SR where
  | nx (Γ : Gam) (m : Mu) | rt (d : D) (m : Mu) | exc (c : String) (fs : List D) (Γ : Gam) (m : Mu) | bad
abbrev SC := Gam → Mu → SR
structure Ent where
  ρ : List Addr
  Hs : Hp
  H : Hp
abbrev Ent.tr (N : Ent) (ρ : List Addr) (Hs H : Hp) : Prop := Tr N.ρ N.Hs N.H ρ Hs H
/-- a later state of the def, behind ρ, Hs -/
def Fwd (N : Ent) (ρ : List Addr) (Hs : Hp) (ρ' : List Addr) (Hs' H' : Hp) : Prop := N.tr ρ' Hs' H' ∧ Pre ρ ρ' ∧ Sub Hs Hs'
theorem Fwd.mk {N : Ent} {ρ ρ' : List Addr} {Hs H Hs' H' : Hp} (t : N.tr ρ Hs H) (t' : Tr ρ Hs H ρ' Hs' H') : Fwd N ρ Hs ρ' Hs' H' := ⟨t.trans t', t'.pre, t'.sub⟩
theorem Fwd.same {N : Ent} {ρ : List Addr} {Hs H : Hp} (t : N.tr ρ Hs H) : Fwd N ρ Hs ρ Hs H := ⟨t, .refl _, .refl _⟩
/-- ωx: what is known of the slots where an error leaves -/
def SOut (f : Bool) (X : Cx) (N : Ent) (W : WX) (ωx ω' : List Md) (ρ : List Addr) (Hs : Hp) (r : SR) (dn : Ends) : Prop := match r with
  | .nx Γ m => ∀ σ' ρ' Hs' H', Fwd N ρ Hs ρ' Hs' H' → Bs X.K ρ' m Hs' H' → En X.K N.H ω' Γ ρ' Hs' H' σ' → dn.nx σ' H'
  | .rt d m => OutB f X.K X.mg (fun _ _ _ => False) (.ok d m) N.ρ N.Hs N.H dn.rt
  | .exc c fs Γ m => ∀ cls dx σ' ρ' Hs' H', N.tr ρ' Hs' H' → Bs X.K ρ' m Hs' H' → En X.K N.H ωx Γ ρ' Hs' H' σ' → EOk X.K X.mg ρ' Hs' cls dx c fs → W cls dx σ' H'
  | .bad => False
def cS (f : Bool) (X : Cx) (N : Ent) (W : WX) (ωx ω ω' : List Md) (c : SC) : TS := fun dn σ H => ∃ Γ m ρ Hs, N.tr ρ Hs H ∧ Bs X.K ρ m Hs H ∧ En X.K N.H ω Γ ρ Hs H σ ∧ SOut f X N W ωx ω' ρ Hs (c Γ m) dn
abbrev SV (f : Bool) (X : Cx) (N : Ent) (W : WX) (ωx ω : List Md) (st : Stmt) (c : SC) (ω' : List Md) : Prop := PS X st (cS f X N W ωx ω ω' c)
abbrev SVs (f : Bool) (X : Cx) (N : Ent) (W : WX) (ωx ω : List Md) (st : List Stmt) (c : SC) (ω' : List Md) : Prop := PSs X st (cS f X N W ωx ω ω' c)
def sSeq (a b : SC) : SC := fun Γ m => match a Γ m with
  | .nx Γ' m' => b Γ' m'
  | r => r
def sNil : SC := fun Γ m => .nx Γ m
section
variable {f : Bool} {X : Cx} {N : Ent} {W : WX} {ωx ω ω1 ω2 ω3 : List Md} {st : Stmt} {sts : List Stmt} {a b : SC} {c : EC} {e : Expr} {pos : Pos} {t : TC}
theorem SOut.fwd {ρ ρ' : List Addr} {Hs Hs' : Hp} {r : SR} {dn : Ends} (p : Pre ρ ρ') (s : Sub Hs Hs') (o : SOut f X N W ωx ω2 ρ Hs r dn) : SOut f X N W ωx ω2 ρ' Hs' r dn := by
  cases r with
  | nx Γ m => exact fun σ' ρ2 Hs2 H2 t b en => o σ' ρ2 Hs2 H2 ⟨t.1, p.trans t.2.1, s.trans t.2.2⟩ b en
  | rt d m => exact o
  | exc c fs Γ m => exact o
  | bad => exact o
theorem svs_nil : SVs f X N W ωx ω [] sNil ω := PSs.imp pss_nil fun dn σ H ⟨Γ, m, ρ, Hs, t, b, en, o⟩ => o σ ρ Hs H (.same t) b en
theorem svs_cons (h1 : SV f X N W ωx ω st a ω1) (h2 : SVs f X N W ωx ω1 sts b ω2) : SVs f X N W ωx ω (st :: sts) (sSeq a b) ω2 :=
  PSs.imp (pss_cons h1 h2) fun dn σ H ⟨Γ, m, ρ, Hs, t, bs, en, o⟩ => ⟨Γ, m, ρ, Hs, t, bs, en, by
    unfold sSeq at o
    cases ha : a Γ m with
    | nx Γ' m' => rw [ha] at o; exact fun σ' ρ' Hs' H' t' b' en' => ⟨Γ', m', ρ', Hs', t'.1, b', en', SOut.fwd t'.2.1 t'.2.2 o⟩
    | rt d m' => rw [ha] at o; exact o
    | exc c fs Γ' m' => rw [ha] at o; exact o
    | bad => rw [ha] at o; exact o⟩
theorem svs_one (h1 : SV f X N W ωx ω st a ω1) : SVs f X N W ωx ω [st] a ω1 := pss_one h1
/-- a statement after which less need be known -/
theorem SOut.weak {ρ : List Addr} {Hs : Hp} {r : SR} {dn : Ends} (h : MdLe ω2 ω1 = true) (o : SOut f X N W ωx ω2 ρ Hs r dn) : SOut f X N W ωx ω1 ρ Hs r dn := by
  cases r with
  | nx Γ m => exact fun σ' ρ' Hs' H' t b en => o σ' ρ' Hs' H' t b (en.weak h)
  | rt d m => exact o
  | exc c fs Γ m => exact o
  | bad => exact o
theorem SV.post (h1 : SV f X N W ωx ω st a ω1) (h : MdLe ω2 ω1 = true) : SV f X N W ωx ω st a ω2 := PS.imp h1 fun dn σ H ⟨Γ, m, ρ, Hs, t, b, en, o⟩ => ⟨Γ, m, ρ, Hs, t, b, en, o.weak h⟩
theorem SVs.post (h1 : SVs f X N W ωx ω sts a ω1) (h : MdLe ω2 ω1 = true) : SVs f X N W ωx ω sts a ω2 := PSs.imp h1 fun dn σ H ⟨Γ, m, ρ, Hs, t, b, en, o⟩ => ⟨Γ, m, ρ, Hs, t, b, en, o.weak h⟩
theorem SVs.pre (h1 : SVs f X N W ωx ω1 sts a ω2) (h : MdLe ω1 ω = true) : SVs f X N W ωx ω sts a ω2 := PSs.imp h1 fun dn σ H ⟨Γ, m, ρ, Hs, t, b, en, o⟩ => ⟨Γ, m, ρ, Hs, t, b, en.weak h, o⟩
/-- from here on the list in slot i is a value -/
theorem En.frz {K : PySem.W.Frag} {Γ : Gam} {ρ : List Addr} {Hs H : Hp} {σ : L2.St} {m : Mu} {i : Nat} (t : N.tr ρ Hs H) (b : Bs K ρ m Hs H) (e : En K N.H ω Γ ρ Hs H σ) (hi : ω[i]? = some .ow) : ∃ Hs', N.tr ρ Hs' H ∧ Sub Hs Hs' ∧ Bs K ρ m Hs' H ∧ En K N.H (ω.set i .sh) Γ ρ Hs' H σ := by
  obtain ⟨a, h1, h2, h3, h4, h5, h6⟩ := e.ow i hi
  have hil : i < ω.length := (List.getElem?_eq_some_iff.mp hi).1
  obtain ⟨u, hu, rp, b2⟩ := own_val b h2 h3 h4
  refine ⟨upd Hs a u, ⟨t.sub.trans (Sub.new h3), fun x o q => ?_, t.pre, t.bnew, t.dom, t.same⟩, Sub.new h3, b2, ?_⟩
  · by_cases z : x = a
    · subst z; exact .inr h5
    · rw [upd_ne z] at q; exact t.new x o q
  · refine ⟨e.ln, by rw [List.length_set]; exact e.wl, fun j q => ?_, fun j q => ?_, fun j k c q1 q2 => ?_⟩
    · by_cases z : i = j
      · subst z; exact ⟨_, h1, rp⟩
      · rw [List.getElem?_set_ne z] at q
        obtain ⟨v, q1, q2⟩ := e.sh j q
        exact ⟨v, q1, q2.mono (.refl _) (Sub.new h3)⟩
    · have z : i ≠ j := fun z => by subst z; rw [List.getElem?_set_self hil] at q; cases q
      rw [List.getElem?_set_ne z] at q
      obtain ⟨c, q1, q2, q3, q4, q5, q6⟩ := e.ow j q
      have hne : c ≠ a := fun w => z (e.nd i j a hi q h1 (by rw [← w]; exact q1))
      refine ⟨c, q1, ?_, by rw [upd_ne hne]; exact q3, q4, q5, q6⟩
      exact q2.hs h3
    · have zj : i ≠ j := fun z => by subst z; rw [List.getElem?_set_self hil] at q1; cases q1
      have zk : i ≠ k := fun z => by subst z; rw [List.getElem?_set_self hil] at q2; cases q2
      rw [List.getElem?_set_ne zj] at q1
      rw [List.getElem?_set_ne zk] at q2
      exact e.nd j k c q1 q2
theorem SVs.frz (i : Nat) (h : SVs f X N W ωx (ω.set i .sh) sts a ω2) (hi : ω[i]? = some .ow := by rfl) : SVs f X N W ωx ω sts a ω2 := PSs.imp h fun dn σ H ⟨Γ, m, ρ, Hs, t, b, en, o⟩ => by
  obtain ⟨Hs', t', s', b', en'⟩ := En.frz t b en hi
  exact ⟨Γ, m, ρ, Hs', t', b', en', SOut.fwd (.refl _) s' o⟩
theorem SV.frz (i : Nat) (h : SV f X N W ωx (ω.set i .sh) st a ω2) (hi : ω[i]? = some .ow := by rfl) : SV f X N W ωx ω st a ω2 := PS.imp h fun dn σ H ⟨Γ, m, ρ, Hs, t, b, en, o⟩ => by
  obtain ⟨Hs', t', s', b', en'⟩ := En.frz t b en hi
  exact ⟨Γ, m, ρ, Hs', t', b', en', SOut.fwd (.refl _) s' o⟩

/-- how an expression's end becomes a statement's -/
def toS (r : R D) (Γ : Gam) (k : D → Mu → SR) : SR := match r with
  | .ok d m => k d m
  | .exc c fs m => .exc c fs Γ m
  | .bad => .bad
/-- from a statement's wish to its expression's -/
theorem toS_out {r : R D} {Γ : Gam} {k : D → Mu → SR} {dn : Ends} {ρ : List Addr} {Hs H : Hp} {σ : L2.St} {Q : VK} (t : N.tr ρ Hs H) (en : En X.K N.H ω Γ ρ Hs H σ) (hx : MdLe ωx ω = true) (o : SOut f X N W ωx ω2 ρ Hs (toS r Γ k) dn)
    (h : ∀ d m v ρ' Hs' H', r = .ok d m → SOut f X N W ωx ω2 ρ Hs (k d m) dn → Tr ρ Hs H ρ' Hs' H' → Bs X.K ρ' m Hs' H' → Rep X.K ρ' Hs' v d → Q v H') : Out X.K X.mg (Rep X.K) (fun cls dx H' => W cls dx σ H') r ρ Hs H Q := by
  cases r with
  | ok d m => exact fun v ρ' Hs' H' t' b' r' => h d m v ρ' Hs' H' rfl o t' b' r'
  | exc c fs m => exact fun cls dx ρ' Hs' H' t' b' e' => o cls dx σ ρ' Hs' H' (t.trans t') b' ((en.weak hx).mono t') e'
  | bad => exact o
def sSet (i : Nat) (c : EC) : SC := fun Γ m => toS (c Γ m) Γ fun d m' => .nx (Γ.set i d) m'
theorem sv_set (i : Nat) {x : Str} {pos' : Pos} (hN : X.N.Nodup) (he : EV X N.H W ω e c) (hx : MdLe ωx ω = true := by rfl) (hw : i < ω.length := by decide) (hi : X.N[i]? = some x := by rfl) (hl : Loc X.env.scope x := by first | exact Or.inl rfl | exact Or.inr rfl)
    (hs : swapsWith e (some (.Name x pos')) pos.line X.env = pure false := by rfl) (hf : X.fn x = true ∨ X.env.scope.names.lookup x = some .local := by first | exact .inl rfl | exact .inr rfl | assumption) : SV f X N W ωx ω (.Assign [.Name x pos'] e pos) (sSet i c) (ω.set i .sh) :=
  PS.imp (ps_set hN hi hl he hs hf) fun dn σ H ⟨Γ, m, ρ, Hs, t, b, en, o⟩ => ⟨Γ, m, ρ, Hs, b, en, toS_out t en hx o fun d m' v ρ' Hs' H' _ o' t' b' r' => o' _ ρ' Hs' H' (.mk t t') b' ((en.mono t').setSh hw r')⟩
/-- a new list into a slot: from here on it may be changed -/
theorem sv_setF (i : Nat) {x : Str} {pos' : Pos} (hN : X.N.Nodup) (he : EB true X N.H W ω e c) (hx : MdLe ωx ω = true := by rfl) (hw : i < ω.length := by decide) (hi : X.N[i]? = some x := by rfl) (hl : Loc X.env.scope x := by first | exact Or.inl rfl | exact Or.inr rfl)
    (hs : swapsWith e (some (.Name x pos')) pos.line X.env = pure false := by rfl) (hf : X.fn x = true ∨ X.env.scope.names.lookup x = some .local := by first | exact .inl rfl | exact .inr rfl | assumption) : SV f X N W ωx ω (.Assign [.Name x pos'] e pos) (sSet i c) (ω.set i .ow) :=
  PS.imp (ps_set hN hi hl he hs hf) fun dn σ H ⟨Γ, m, ρ, Hs, t, b, en, o⟩ => ⟨Γ, m, ρ, Hs, b, en, by
    unfold sSet at o
    cases hc : c Γ m with
    | bad => rw [hc] at o; exact o
    | exc c fs m' => rw [hc] at o; exact fun cls dx ρ' Hs' H' t' b' e' => o cls dx σ ρ' Hs' H' (t.trans t') b' ((en.weak hx).mono t') e'
    | ok d m' =>
      rw [hc] at o
      intro a ρ' Hs' H' t' b' o1 o2 o3 o4 o5
      refine o _ ρ' Hs' H' (.mk t t') b' ((en.mono t').setOw hw o1 o2 o3 (t.dom a o4) o5 fun j hj z => ?_)
      obtain ⟨a', q1, _, _, _, _, q6⟩ := en.ow j hj
      rw [q1] at z
      cases z
      exact q6 o4⟩
def sRet (c : EC) : SC := fun Γ m => toS (c Γ m) Γ fun d m' => .rt d m'
theorem sv_ret (he : EB f X N.H W ω e c) (hx : MdLe ωx ω = true := by rfl) : SV f X N W ωx ω (.Return (some e) pos) (sRet c) ω2 :=
  PS.imp (ps_ret he) fun dn σ H ⟨Γ, m, ρ, Hs, t, b, en, o⟩ => ⟨Γ, m, ρ, Hs, b, en, by
    unfold sRet at o
    cases hc : c Γ m with
    | bad => rw [hc] at o; exact o
    | exc c fs m' => rw [hc] at o; exact fun cls dx ρ' Hs' H' t' b' e' => o cls dx σ ρ' Hs' H' (t.trans t') b' ((en.weak hx).mono t') e'
    | ok d m' =>
      rw [hc] at o
      have o : OutB f X.K X.mg (fun _ _ _ => False) (.ok d m') N.ρ N.Hs N.H dn.rt := o
      cases f with
      | false => exact fun v ρ' Hs' H' t' b' r' => o v ρ' Hs' H' (t.trans t') b' r'
      | true => exact fun a ρ' Hs' H' t' b' o1 o2 o3 o4 o5 => o a ρ' Hs' H' (t.trans t') b' o1 o2 o3 (t.dom a o4) o5⟩
def sRetN : SC := fun _ m => .rt .non m
theorem sv_retN : SV false X N W ωx ω (.Return none pos) sRetN ω2 := PS.imp ps_retN fun dn σ H ⟨Γ, m, ρ, Hs, t, b, en, o⟩ => o _ ρ Hs H t b .non
def sDrop (c : EC) : SC := fun Γ m => toS (c Γ m) Γ fun _ m' => .nx Γ m'
theorem sv_expr (he : EV X N.H W ω e c) (hx : MdLe ωx ω = true := by rfl) (hs : swapsWith e none pos.line X.env = pure false := by rfl) : SV f X N W ωx ω (.Expr e pos) (sDrop c) ω :=
  PS.imp (ps_expr he hs) fun dn σ H ⟨Γ, m, ρ, Hs, t, b, en, o⟩ => ⟨Γ, m, ρ, Hs, b, en, toS_out t en hx o fun d m' v ρ' Hs' H' _ o' t' b' r' => o' σ ρ' Hs' H' (.mk t t') b' (en.mono t')⟩
def sPass : SC := fun Γ m => .nx Γ m
theorem sv_pass : SV f X N W ωx ω (.Pass pos) sPass ω := PS.imp ps_pass fun dn σ H ⟨Γ, m, ρ, Hs, t, b, en, o⟩ => o σ ρ Hs H (.same t) b en
def toSB (r : R Bool) (Γ : Gam) (k : Bool → Mu → SR) : SR := match r with
  | .ok d m => k d m
  | .exc c fs m => .exc c fs Γ m
  | .bad => .bad
def sIf (t : TC) (a b : SC) : SC := fun Γ m => toSB (t Γ m) Γ fun k m' => if k then a Γ m' else b Γ m'
theorem sv_if {q : Expr} {as bs : List Stmt} (hq : TV X N.H W ω q t) (ha : SVs f X N W ωx ω as a ω2) (hb : SVs f X N W ωx ω bs b ω2) (hx : MdLe ωx ω = true := by rfl) : SV f X N W ωx ω (.If q as bs pos) (sIf t a b) ω2 :=
  PS.imp (ps_if hq ha hb) fun dn σ H ⟨Γ, m, ρ, Hs, tr, b, en, o⟩ => ⟨Γ, m, ρ, Hs, b, en, by
    unfold sIf at o
    cases hc : t Γ m with
    | bad => rw [hc] at o; exact o
    | exc c fs m' => rw [hc] at o; exact fun cls dx ρ' Hs' H' t' b' e' => o cls dx σ ρ' Hs' H' (tr.trans t') b' ((en.weak hx).mono t') e'
    | ok k m' =>
      rw [hc] at o
      intro k' ρ' Hs' H' t' b' e'
      subst e'
      cases k' with
      | true => exact ⟨Γ, m', ρ', Hs', tr.trans t', b', en.mono t', SOut.fwd t'.pre t'.sub o⟩
      | false => exact ⟨Γ, m', ρ', Hs', tr.trans t', b', en.mono t', SOut.fwd t'.pre t'.sub o⟩⟩
end
end Pv

end

section
set_option Elab.async false
set_option linter.all false
set_option maxRecDepth 100000
/-! Pv8: lists of one's own changed; boxes changed; walks; loops. -/
namespace Pv
open PySem L2 PySem.W PyProof.Rows PySem.SeqAt

section
variable {f : Bool} {X : Cx} {N : Ent} {W : WX} {ωx ω ω1 ω2 ω3 : List Md} {st : Stmt} {sts : List Stmt} {a b : SC} {c ck : EC} {e k : Expr} {pos : Pos} {t : TC}
/-- an object of one's own is changed -/
theorem tr_mut {ρ : List Addr} {Hs H : Hp} {a : Addr} {o : HO} (t : N.tr ρ Hs H) (h0 : N.H a = none) (h : H a ≠ none) : N.tr ρ Hs (upd H a o) where
  sub := t.sub
  new := t.new
  pre := t.pre
  bnew := t.bnew
  dom x q := by
    by_cases z : x = a
    · subst z; exact h0
    · rw [upd_ne z] at q; exact t.dom x q
  same x u n q := by
    have z : x ≠ a := fun z => by subst z; rw [h0] at q; cases q
    rw [upd_ne z]; exact t.same x u n q
theorem Bs.mut {K : PySem.W.Frag} {ρ : List Addr} {m : Mu} {Hs H : Hp} {a : Addr} {o : HO} (b : Bs K ρ m Hs H) (h1 : Hs a = none) (h2 : a ∉ ρ) : Bs K ρ m Hs (upd H a o) where
  sub x u q := by
    have z : x ≠ a := fun z => by subst z; rw [h1] at q; cases q
    rw [upd_ne z]; exact b.sub x u q
  bx n ds q := by
    obtain ⟨c, vs, q1, q2, q3, q4⟩ := b.bx n ds q
    have z : c ≠ a := fun z => h2 (by subst z; exact List.mem_of_getElem? q1)
    exact ⟨c, vs, q1, q2, by rw [upd_ne z]; exact q3, q4⟩
  nd := b.nd
  len := b.len
theorem Own.other {K : PySem.W.Frag} {ρ : List Addr} {Hs H : Hp} {a c : Addr} {d : D} {o : HO} (h : Own K ρ Hs H c d) (z : c ≠ a) : Own K ρ Hs (upd H a o) c d := by
  cases h with
  | lst h r => exact .lst (by rw [upd_ne z]; exact h) r
theorem En.updOw {K : PySem.W.Frag} {H0 : Hp} {Γ : Gam} {ρ : List Addr} {Hs H : Hp} {σ : L2.St} {i : Nat} {a : Addr} {o : HO} {d : D} (en : En K H0 ω Γ ρ Hs H σ) (hi : ω[i]? = some .ow) (ha : σ[i]? = some (some (.ref a))) (hn : Own K ρ Hs (upd H a o) a d) : En K H0 ω (Γ.set i d) ρ Hs (upd H a o) σ where
  ln := by rw [List.length_set]; exact en.ln
  wl := en.wl
  sh j q := by
    obtain ⟨v, q1, q2⟩ := en.sh j q
    have z : i ≠ j := fun z => by subst z; rw [hi] at q; cases q
    exact ⟨v, q1, by rw [getD_set_ne z]; exact q2⟩
  ow j q := by
    obtain ⟨c, q1, q2, q3, q4, q5, q6⟩ := en.ow j q
    by_cases z : i = j
    · subst z
      rw [ha] at q1
      cases q1
      refine ⟨a, ha, ?_, q3, q4, q5, by rw [upd_same]; exact fun z => nomatch z⟩
      rw [getD_set_same (by rw [en.ln, ← en.wl]; exact (List.getElem?_eq_some_iff.mp hi).1)]
      exact hn
    · have zc : c ≠ a := fun w => z (en.nd i j a hi q ha (by rw [← w]; exact q1))
      exact ⟨c, q1, by rw [getD_set_ne z]; exact q2.other zc, q3, q4, q5, by rw [upd_ne zc]; exact q6⟩
  nd := en.nd
theorem ownL {K : PySem.W.Frag} {ρ : List Addr} {Hs H : Hp} {a : Addr} {ds : List D} (h : Own K ρ Hs H a (.lst ds)) : ∃ vs, H a = some (.lst vs) ∧ RepAll K ρ Hs vs ds := by
  cases h with
  | lst h r => exact ⟨_, h, r⟩

def sApp (i : Nat) (c : EC) : SC := fun Γ m => match Γ.getD i .non with
  | .lst xs => toS (c Γ m) Γ fun d m' => if szOk (xs.length + 1) then .nx (Γ.set i (.lst (xs ++ [d]))) m' else .bad
  | _ => .bad
theorem SOut.guard {ρ : List Addr} {Hs : Hp} {k : Bool} {r : SR} {dn : Ends} (h : SOut f X N W ωx ω ρ Hs (if k = true then r else .bad) dn) : k = true ∧ SOut f X N W ωx ω ρ Hs r dn := by
  cases k with
  | true => exact ⟨rfl, h⟩
  | false => exact h.elim
theorem sv_app (i : Nat) {x : Str} {p apos cpos : Pos} (hi : ω[i]? = some .ow) (hx : MdLe ωx ω = true)
    (hp : PS X (.Expr (.Call (.Attribute (.Name x p) "append" apos) [e] [] cpos) pos) (tDrop (tBM X.K "list" rAppend (tVar i) (tCons (cE X N.H W ω c) tNil)))) :
    SV f X N W ωx ω (.Expr (.Call (.Attribute (.Name x p) "append" apos) [e] [] cpos) pos) (sApp i c) ω :=
  PS.imp hp fun dn σ H ⟨Γ, m, ρ, Hs, t, b, en, o⟩ => by
    unfold sApp at o
    obtain ⟨a, h1, h2, h3, h4, h5, h6⟩ := en.ow i hi
    generalize hg : Γ.getD i .non = g at o h2
    cases g <;> try exact o.elim
    rename_i xs
    obtain ⟨vs0, w0, _⟩ := ownL h2
    refine ⟨.ref a, h1, .inl ⟨rfl, _, .inl (.inl w0)⟩, Γ, m, ρ, Hs, b, en, toS_out t en hx o fun d m' v ρ' Hs' H' hq o' t' b' r' => ?_⟩
    have en' := en.mono t'
    obtain ⟨a', q1, q2, q3, q4, q5, q6⟩ := en'.ow i hi
    rw [h1] at q1
    cases q1
    rw [hg] at q2
    obtain ⟨vs, w1, w2⟩ := ownL q2
    obtain ⟨hz, o'⟩ := SOut.guard o'
    have hl : vs.length < sizeLine := by rw [w2.length]; exact szOk_le hz
    exact ⟨a, vs, v, rfl, rfl, w1, hl, o' σ ρ' Hs' _ ⟨tr_mut (t.trans t') q5 q6, t'.pre, t'.sub⟩ (b'.mut q3 q4) (en'.updOw hi h1 (.lst upd_same (w2.append (.one r'))))⟩

/-- x[k] = e, x a list of one's own -/
def sPut (i : Nat) (c ck : EC) : SC := fun Γ m => toS (c Γ m) Γ fun d m1 => toS (ck Γ m1) Γ fun k m2 => match Γ.getD i .non, k with
  | .lst xs, .int j => match ixN xs.length j with
    | some n => .nx (Γ.set i (.lst (xs.set n d))) m2
    | none => .bad
  | _, _ => .bad
theorem sv_put (i : Nat) {x : Str} {p tp : Pos} (he : EV X N.H W ω e c) (hk : EV X N.H W ω k ck) (hi : ω[i]? = some .ow := by rfl) (hx : MdLe ωx ω = true := by rfl)
    (hp : PS X (.Assign [.Subscript (.Name x p) k tp] e pos) (tAsg (cE X N.H W ω c) (gSub (tVar i) (cE X N.H W ω ck) rSetL))) :
    SV f X N W ωx ω (.Assign [.Subscript (.Name x p) k tp] e pos) (sPut i c ck) ω :=
  PS.imp hp fun dn σ H ⟨Γ, m, ρ, Hs, t, b, en, o⟩ => by
    refine ⟨Γ, m, ρ, Hs, b, en, toS_out t en hx o fun d m1 v ρ1 Hs1 H1 hq1 o1 t1 b1 r1 => ?_⟩
    have en1 := en.mono t1
    obtain ⟨a, h1, h2, h3, h4, h5, h6⟩ := en1.ow i hi
    refine ⟨.ref a, h1, Γ, m1, ρ1, Hs1, b1, en1, toS_out (t.trans t1) en1 hx (SOut.fwd t1.pre t1.sub o1) fun d2 m2 v2 ρ2 Hs2 H2 hq o2 t2 b2 r2 => ?_⟩
    have en2 := en1.mono t2
    obtain ⟨a', q1, q2, q3, q4, q5, q6⟩ := en2.ow i hi
    rw [h1] at q1
    cases q1
    cases hg : Γ.getD i .non <;> rw [hg] at o2 <;> try exact o2.elim
    rename_i xs
    cases d2 <;> try exact o2.elim
    rename_i j
    cases r2
    rw [hg] at q2
    obtain ⟨vs, w1, w2⟩ := ownL q2
    have o2 : SOut f X N W ωx ω ρ1 Hs1 (match ixN xs.length j with
      | some n => SR.nx (Γ.set i (.lst (xs.set n d))) m2
      | none => .bad) dn := o2
    cases hn : ixN xs.length j with
    | none => rw [hn] at o2; exact o2.elim
    | some n =>
      rw [hn] at o2
      exact ⟨a, vs, j, n, rfl, rfl, w1, by rw [w2.length]; exact hn, o2 σ ρ2 Hs2 _ ⟨tr_mut ((t.trans t1).trans t2) q5 q6, t2.pre, t2.sub⟩ (b2.mut q3 q4) (en2.updOw hi h1 (.lst upd_same (w2.set (r1.mono t2.pre t2.sub) n)))⟩

/-! ### boxes -/
theorem Bs.setBox {K : PySem.W.Frag} {ρ : List Addr} {m : Mu} {Hs H : Hp} {a : Addr} {n : Nat} {ds : List D} {vs : List V} (b : Bs K ρ m Hs H) (ha : ρ[n]? = some a) (r : RepAll K ρ Hs vs ds) (h : Hs a = none) : Bs K ρ (m.set n ds) Hs (upd H a (.lst vs)) where
  sub x u q := by
    have z : x ≠ a := fun z => by subst z; rw [h] at q; cases q
    rw [upd_ne z]; exact b.sub x u q
  bx j es q := by
    by_cases z : n = j
    · subst z
      have hn : n < m.length := by rw [← b.len]; exact (List.getElem?_eq_some_iff.mp ha).1
      rw [List.getElem?_set_self hn] at q
      cases q
      exact ⟨a, vs, ha, h, upd_same, r⟩
    · rw [List.getElem?_set_ne z] at q
      obtain ⟨c, ws, q1, q2, q3, q4⟩ := b.bx j es q
      have zc : c ≠ a := fun w => z (b.nd n j a ha (by rw [← w]; exact q1))
      exact ⟨c, ws, q1, q2, by rw [upd_ne zc]; exact q3, q4⟩
  nd := b.nd
  len := by rw [List.length_set]; exact b.len
theorem tr_box {ρ : List Addr} {Hs H : Hp} {a : Addr} {o : HO} {n : Nat} (ha : ρ[n]? = some a) (h : H a ≠ none) : Tr ρ Hs H ρ Hs (upd H a o) where
  sub := .refl _
  new _ _ q := .inl q
  pre := .refl _
  bnew _ q := .inl q
  dom x q := by
    by_cases z : x = a
    · subst z; rw [upd_same] at q; cases q
    · rw [upd_ne z] at q; exact q
  same x u nx q := by
    have z : x ≠ a := fun z => nx (by rw [z]; exact List.mem_of_getElem? ha)
    rw [upd_ne z]; exact q
/-- x[k] = e, x a box -/
def sPutB (i : Nat) (c ck : EC) : SC := fun Γ m => toS (c Γ m) Γ fun d m1 => toS (ck Γ m1) Γ fun k m2 => match Γ.getD i .non, k with
  | .box n, .int j => match m2[n]? with
    | some xs => match ixN xs.length j with
      | some l => .nx Γ (m2.set n (xs.set l d))
      | none => .bad
    | none => .bad
  | _, _ => .bad
theorem sv_putB (i : Nat) {x : Str} {p tp : Pos} (he : EV X N.H W ω e c) (hk : EV X N.H W ω k ck) (hi : ω[i]? = some .sh := by rfl) (hx : MdLe ωx ω = true := by rfl)
    (hp : PS X (.Assign [.Subscript (.Name x p) k tp] e pos) (tAsg (cE X N.H W ω c) (gSub (tVar i) (cE X N.H W ω ck) rSetL))) :
    SV f X N W ωx ω (.Assign [.Subscript (.Name x p) k tp] e pos) (sPutB i c ck) ω :=
  PS.imp hp fun dn σ H ⟨Γ, m, ρ, Hs, t, b, en, o⟩ => by
    refine ⟨Γ, m, ρ, Hs, b, en, toS_out t en hx o fun d m1 v ρ1 Hs1 H1 hq1 o1 t1 b1 r1 => ?_⟩
    have en1 := en.mono t1
    obtain ⟨va, h1, h2⟩ := en1.sh i hi
    refine ⟨va, h1, Γ, m1, ρ1, Hs1, b1, en1, toS_out (t.trans t1) en1 hx (SOut.fwd t1.pre t1.sub o1) fun d2 m2 v2 ρ2 Hs2 H2 hq o2 t2 b2 r2 => ?_⟩
    have en2 := en1.mono t2
    have h3 := h2.mono t2.pre t2.sub
    cases hg : Γ.getD i .non <;> rw [hg] at o2 h3 <;> try exact o2.elim
    rename_i n
    cases d2 <;> try exact o2.elim
    rename_i j
    cases r2
    cases h3 with
    | box ha =>
      rename_i a
      have o2 : SOut f X N W ωx ω ρ1 Hs1 (match m2[n]? with
        | some xs => match ixN xs.length j with
          | some l => SR.nx Γ (m2.set n (xs.set l d))
          | none => .bad
        | none => .bad) dn := o2
      cases hm : m2[n]? with
      | none => rw [hm] at o2; exact o2.elim
      | some xs =>
        rw [hm] at o2
        have o2 : SOut f X N W ωx ω ρ1 Hs1 (match ixN xs.length j with
          | some l => SR.nx Γ (m2.set n (xs.set l d))
          | none => .bad) dn := o2
        cases hn : ixN xs.length j with
        | none => rw [hn] at o2; exact o2.elim
        | some l =>
          rw [hn] at o2
          obtain ⟨a', vs, q1, q2, q3, q4⟩ := b2.bx n xs hm
          rw [ha] at q1
          cases q1
          have tb : Tr ρ2 Hs2 H2 ρ2 Hs2 (upd H2 a (.lst (vs.set l v))) := tr_box ha (by rw [q3]; exact fun z => nomatch z)
          exact ⟨a, vs, j, l, rfl, rfl, q3, by rw [q4.length]; exact hn, o2 σ ρ2 Hs2 _ ⟨((t.trans t1).trans t2).trans tb, t2.pre, t2.sub⟩ (b2.setBox ha (q4.set (r1.mono t2.pre t2.sub) l) q2) (en2.mono tb)⟩
end
end Pv

end

section
set_option Elab.async false
set_option linter.all false
set_option maxRecDepth 100000
/-! Pv9: walks, for, while, comprehensions; a def's body. -/
namespace Pv
open PySem L2 PySem.W PyProof.Rows PySem.SeqAt

/-- J yields just the items ds -/
structure Walks (K : PySem.W.Frag) (J : It) (ρ : List Addr) (Hs : Hp) (ds : List D) : Prop where
  go : ∀ ρ2 Hs2 m2 H i, Pre ρ ρ2 → Sub Hs Hs2 → Bs K ρ2 m2 Hs2 H → i < ds.length → J.go i H
  stop : ∀ ρ2 Hs2 m2 H i, Pre ρ ρ2 → Sub Hs Hs2 → Bs K ρ2 m2 Hs2 H → ds.length ≤ i → J.stop i H
  yld : ∀ ρ2 Hs2 m2 H i x H', Pre ρ ρ2 → Sub Hs Hs2 → Bs K ρ2 m2 Hs2 H → i < ds.length → J.yld i H x H' → ∃ d Hs2', ds[i]? = some d ∧ Tr ρ2 Hs2 H ρ2 Hs2' H' ∧ Bs K ρ2 m2 Hs2' H' ∧ Rep K ρ2 Hs2' x d
abbrev IC := Gam → Mu → R (List D)
def cI (X : Cx) (H0 : Hp) (W : WX) (ω : List Md) (c : IC) : TI := fun σ H Q => ∃ Γ m ρ Hs, Bs X.K ρ m Hs H ∧ En X.K H0 ω Γ ρ Hs H σ ∧ Out X.K X.mg (fun ρ' Hs' J ds => Walks X.K J ρ' Hs' ds) (fun cls dx H' => W cls dx σ H') (c Γ m) ρ Hs H Q
abbrev IV (X : Cx) (H0 : Hp) (W : WX) (ω : List Md) (tg e : Expr) (c : IC) : Prop := PI X tg e (cI X H0 W ω c)
theorem PI.imp {X : Cx} {tg e : Expr} {t t' : TI} (h : PI X tg e t) (q : ∀ σ H R, t' σ H R → t σ H R) : PI X tg e t' := ⟨fun pins s σ H R I z => h.run pins s σ H R I (q _ _ _ z)⟩
theorem PI.or {X : Cx} {tg e : Expr} {t t' : TI} (h : PI X tg e t) (h' : PI X tg e t') : PI X tg e fun σ H R => t σ H R ∨ t' σ H R := ⟨fun pins s σ H R I z => z.elim (h.run pins s σ H R I) (h'.run pins s σ H R I)⟩
section
variable {X : Cx} {H0 : Hp} {W : WX} {ω : List Md} {tg e a b : Expr} {c ca cb : EC} {pos p : Pos}
theorem walks_list {K : PySem.W.Frag} {ρ : List Addr} {Hs : Hp} {a : Addr} {vs : List V} {ds : List D} (h : Hs a = some (.lst vs)) (r : RepAll K ρ Hs vs ds) : Walks K (Itl K a) ρ Hs ds where
  go ρ2 Hs2 m2 H i p s b hi := by
    rw [← r.length] at hi
    exact ⟨vs, vs[i], .inl (.inl (b.sub _ _ (s _ _ h))), List.getElem?_eq_getElem hi⟩
  stop ρ2 Hs2 m2 H i p s b hi := ⟨vs, .inl (.inl (b.sub _ _ (s _ _ h))), by rw [r.length]; exact hi⟩
  yld ρ2 Hs2 m2 H i x H' p s b hi q := by
    obtain ⟨rfl, q⟩ := q
    obtain ⟨d, h1, h2⟩ := r.get (q vs (.inl (.inl (b.sub _ _ (s _ _ h)))))
    exact ⟨d, Hs2, h1, .refl .., b, h2.mono p s⟩
theorem walks_tup {K : PySem.W.Frag} {ρ : List Addr} {Hs : Hp} {a : Addr} {vs : List V} {ds : List D} (h : SqT K Hs a vs) (r : RepAll K ρ Hs vs ds) : Walks K (Itt K a) ρ Hs ds where
  go ρ2 Hs2 m2 H i p s b hi := by
    rw [← r.length] at hi
    exact ⟨vs, vs[i], b.sub.t (s.t h), List.getElem?_eq_getElem hi⟩
  stop ρ2 Hs2 m2 H i p s b hi := ⟨vs, b.sub.t (s.t h), by rw [r.length]; exact hi⟩
  yld ρ2 Hs2 m2 H i x H' p s b hi q := by
    obtain ⟨rfl, q⟩ := q
    obtain ⟨d, h1, h2⟩ := r.get (q vs (b.sub.t (s.t h)))
    exact ⟨d, Hs2, h1, .refl .., b, h2.mono p s⟩
/-- the numbers lo, lo + 1, .. -/
def rangeI (lo : Int) : Nat → List D
  | 0 => []
  | n + 1 => .int lo :: rangeI (lo + 1) n
theorem rangeI_length : ∀ (lo : Int) (n : Nat), (rangeI lo n).length = n
  | _, 0 => rfl
  | lo, n + 1 => by rw [rangeI, List.length_cons, rangeI_length]
theorem rangeI_get : ∀ (lo : Int) (n i : Nat), i < n → (rangeI lo n)[i]? = some (.int (lo + i))
  | _, 0, _, h => absurd h (Nat.not_lt_zero _)
  | lo, n + 1, 0, _ => by simp [rangeI]
  | lo, n + 1, i + 1, h => by
    rw [rangeI, List.getElem?_cons_succ, rangeI_get (lo + 1) n i (Nat.lt_of_succ_lt_succ h)]
    congr 2; omega
theorem walks_range {K : PySem.W.Frag} {ρ : List Addr} {Hs : Hp} {lo : Int} {n : Nat} : Walks K (Itr lo n) ρ Hs (rangeI lo n) where
  go ρ2 Hs2 m2 H i p s b hi := by rw [rangeI_length] at hi; exact hi
  stop ρ2 Hs2 m2 H i p s b hi := by rw [rangeI_length] at hi; exact hi
  yld ρ2 Hs2 m2 H i x H' p s b hi q := by
    obtain ⟨rfl, rfl⟩ := q
    rw [rangeI_length] at hi
    exact ⟨_, Hs2, rangeI_get lo n i hi, .refl .., b, .int _⟩
/-- what a list or tuple is walked as -/
def iSeq (c : EC) : IC := fun Γ m => (c Γ m).bind fun d m1 => R.of (itemsD m1 d) m1
theorem iv_seq (h : EV X H0 W ω e c) : IV X H0 W ω tg e (iSeq c) :=
  PI.imp (PI.or (pi_list h) (pi_tup h)) fun σ H Q ⟨Γ, m, ρ, Hs, b, en, o⟩ => by
    unfold iSeq at o
    cases hc : c Γ m with
    | bad => rw [hc] at o; exact o.elim
    | exc c fs m' => rw [hc] at o; exact .inl ⟨Γ, m, ρ, Hs, b, en, by rw [hc]; exact o⟩
    | ok d m1 =>
      rw [hc] at o
      have o : Out X.K X.mg (fun ρ' Hs' J ds => Walks X.K J ρ' Hs' ds) (fun cls dx H' => W cls dx σ H') (R.of (itemsD m1 d) m1) ρ Hs H Q := o
      obtain ⟨xs, hi, o⟩ := Out.ofV o
      cases d <;> simp only [itemsD] at hi <;> try (cases hi; done)
      · cases hi
        refine .inl ⟨Γ, m, ρ, Hs, b, en, ?_⟩
        rw [hc]
        intro v ρ' Hs' H' t' b' r'
        cases r' with
        | lst h r => exact ⟨_, rfl, ⟨_, .inl (.inl (b'.sub _ _ h))⟩, o _ ρ' Hs' H' t' b' (walks_list h r)⟩
      · cases hi
        refine .inr ⟨Γ, m, ρ, Hs, b, en, ?_⟩
        rw [hc]
        intro v ρ' Hs' H' t' b' r'
        cases r' with
        | tup h r => exact ⟨_, rfl, ⟨_, b'.sub.t h⟩, o _ ρ' Hs' H' t' b' (walks_tup h r)⟩
def rgOk (lo hi : Int) : Bool := decide (-4611686018427387904 ≤ lo) && decide (lo < 4611686018427387904) && decide (-4611686018427387904 ≤ hi) && decide (hi < 4611686018427387904)
def rg2 : List D → Option (List D)
  | [.int i, .int j] => if rgOk i j then some (rangeI i (j - i).toNat) else none
  | [.int j] => if rgOk 0 j then some (rangeI 0 j.toNat) else none
  | _ => none
def iRg (c : Gam → Mu → R (List D)) : IC := fun Γ m => (c Γ m).bind fun ds m1 => R.of (rg2 ds) m1
theorem Rep.int_inv {K : PySem.W.Frag} {ρ : List Addr} {H : Hp} {v : V} {i : Int} (h : Rep K ρ H v (.int i)) : v = .int i := by cases h; rfl
theorem iv_range1 {cs : Gam → Mu → R (List D)} (h : AV X H0 W ω [a] cs) (hl : LenA cs 1) (hm : X.mg "range" = none) (hg : Gl X "range" := by rfl) (hs : starEach [a] X.env = [(false, eval a X.env)] := by rfl) : IV X H0 W ω tg (.Call (.Name "range" p) [a] [] pos) (iRg cs) :=
  PI.imp (pi_range1 hg hm h hs) fun σ H Q ⟨Γ, m, ρ, Hs, b, en, o⟩ => ⟨Γ, m, ρ, Hs, b, en, by
    unfold iRg at o
    cases hc : cs Γ m with
    | bad => rw [hc] at o; exact o
    | exc c fs m' => rw [hc] at o; exact o
    | ok ds m1 =>
      rw [hc] at o
      have o : Out X.K X.mg (fun ρ' Hs' J ds => Walks X.K J ρ' Hs' ds) (fun cls dx H' => W cls dx σ H') (R.of (rg2 ds) m1) ρ Hs H Q := o
      obtain ⟨xs, hi, o⟩ := Out.ofV o
      intro vs ρ' Hs' H' t' b' r'
      have hlen := hl _ _ _ _ hc
      match ds, hlen, hi, o, r' with
      | [.int j], _, hi, o, r' =>
        simp only [rg2] at hi
        obtain ⟨hz, rfl⟩ := of_if hi
        cases r' with
        | cons r1 r2 =>
          cases r1; cases r2
          simp only [rgOk, Bool.and_eq_true, decide_eq_true_eq] at hz
          exact ⟨j, rfl, by omega, by omega, o _ ρ' Hs' H' t' b' walks_range⟩
      | [.non], _, hi, _, _ | [.bl _], _, hi, _, _ | [.str _], _, hi, _, _ | [.lst _], _, hi, _, _ | [.tup _], _, hi, _, _ | [.dct _], _, hi, _, _ | [.set _], _, hi, _, _ | [.exc _ _], _, hi, _, _ | [.box _], _, hi, _, _ | [.scr _], _, hi, _, _ => cases hi⟩
theorem iv_range2 {cs : Gam → Mu → R (List D)} (h : AV X H0 W ω [a, b] cs) (hl : LenA cs 2) (hm : X.mg "range" = none) (hg : Gl X "range" := by rfl) (hs : starEach [a, b] X.env = [(false, eval a X.env), (false, eval b X.env)] := by rfl) (hs2 : starEach [b] X.env = [(false, eval b X.env)] := by rfl) : IV X H0 W ω tg (.Call (.Name "range" p) [a, b] [] pos) (iRg cs) :=
  PI.imp (pi_range2 hg hm h hs hs2) fun σ H Q ⟨Γ, m, ρ, Hs, b, en, o⟩ => ⟨Γ, m, ρ, Hs, b, en, by
    unfold iRg at o
    cases hc : cs Γ m with
    | bad => rw [hc] at o; exact o
    | exc c fs m' => rw [hc] at o; exact o
    | ok ds m1 =>
      rw [hc] at o
      have o : Out X.K X.mg (fun ρ' Hs' J ds => Walks X.K J ρ' Hs' ds) (fun cls dx H' => W cls dx σ H') (R.of (rg2 ds) m1) ρ Hs H Q := o
      obtain ⟨xs, hi, o⟩ := Out.ofV o
      intro vs ρ' Hs' H' t' b' r'
      have hlen := hl _ _ _ _ hc
      cases r' with
      | nil => cases hlen
      | cons r1 r2 =>
        cases r2 with
        | nil => cases hlen
        | cons r2 r3 =>
          cases r3 with
          | cons _ _ => cases hlen
          | nil =>
            cases r1 <;> cases r2 <;> simp only [rg2] at hi <;> try (cases hi; done)
            obtain ⟨hz, rfl⟩ := of_if hi
            simp only [rgOk, Bool.and_eq_true, decide_eq_true_eq] at hz
            exact ⟨_, _, rfl, ⟨by omega, by omega, by omega, by omega⟩, o _ ρ' Hs' H' t' b' walks_range⟩⟩
end

/-! ### for -/
def loopS (ct : GC) (cb : SC) : List D → Gam → Mu → SR
  | [], Γ, m => .nx Γ m
  | d :: ds, Γ, m => match ct d Γ with
    | none => .bad
    | some Γ1 => match cb Γ1 m with
      | .nx Γ2 m2 => loopS ct cb ds Γ2 m2
      | r => r
def toSL (r : R (List D)) (Γ : Gam) (k : List D → Mu → SR) : SR := match r with
  | .ok d m => k d m
  | .exc c fs m => .exc c fs Γ m
  | .bad => .bad
def sFor (ci : IC) (ct : GC) (cb : SC) : SC := fun Γ m => toSL (ci Γ m) Γ fun ds m1 => loopS ct cb ds Γ m1
section
variable {f : Bool} {X : Cx} {N : Ent} {W : WX} {ωx ω ωt ωb : List Md} {is : List Nat} {tg it : Expr} {body : List Stmt} {ci : IC} {ct : GC} {cb : SC} {pos : Pos}
/-- what a target stores does not lie in the heap: the entry's relation is kept -/
theorem sv_for (hp : PassesOwn (model X.prog X.w) X.A X.env X.xe) (hc : X.calm = true) (hi : IV X N.H W ω tg it ci) (hg : GV X N.H is ω tg ct ωt) (hb : SVs f X N W ωx ωt body cb ωb) (hle : MdLe ω ωb = true := by rfl) (hx : MdLe ωx ω = true := by rfl)
    (hs : ∀ x, foldedSetIterable it X.env x = pure x := by intro _; rfl) : SV f X N W ωx ω (.For tg it body [] pos) (sFor ci ct cb) ω :=
  PS.imp (ps_for hp hc hi hg hb hs) fun dn σ H ⟨Γ, m, ρ, Hs, t, b, en, o⟩ => ⟨Γ, m, ρ, Hs, b, en, by
    unfold sFor at o
    cases hc : ci Γ m with
    | bad => rw [hc] at o; exact o
    | exc c fs m' => rw [hc] at o; exact fun cls dx ρ' Hs' H' t' b' e' => o cls dx σ ρ' Hs' H' (t.trans t') b' ((en.weak hx).mono t') e'
    | ok ds m1 =>
      rw [hc] at o
      have o : SOut f X N W ωx ω ρ Hs (loopS ct cb ds Γ m1) dn := o
      intro J ρ1 Hs1 H1 t1 b1 wk
      refine ⟨fun i k σ2 H2 => k = ds.length - i ∧ i ≤ ds.length ∧ ∃ Γ2 m2 ρ2 Hs2, N.tr ρ2 Hs2 H2 ∧ Pre ρ1 ρ2 ∧ Sub Hs1 Hs2 ∧ Bs X.K ρ2 m2 Hs2 H2 ∧ En X.K N.H ω Γ2 ρ2 Hs2 H2 σ2 ∧ SOut f X N W ωx ω ρ2 Hs2 (loopS ct cb (ds.drop i) Γ2 m2) dn,
        ⟨ds.length, by omega, Nat.zero_le _, Γ, m1, ρ1, Hs1, t.trans t1, .refl _, .refl _, b1, en.mono t1, SOut.fwd t1.pre t1.sub o⟩, ?_⟩
      rintro i k σ2 H2 ⟨rfl, hik, Γ2, m2, ρ2, Hs2, t2, p2, s2, b2, en2, o2⟩
      by_cases hlt : i < ds.length
      · refine .inr ⟨wk.go ρ2 Hs2 m2 H2 i p2 s2 b2 hlt, fun σ3 H3 => ∃ Γ3 m3 ρ3 Hs3, N.tr ρ3 Hs3 H3 ∧ Pre ρ1 ρ3 ∧ Sub Hs1 Hs3 ∧ Bs X.K ρ3 m3 Hs3 H3 ∧ En X.K N.H ω Γ3 ρ3 Hs3 H3 σ3 ∧ SOut f X N W ωx ω ρ3 Hs3 (loopS ct cb (ds.drop (i + 1)) Γ3 m3) dn, fun σ3 H3 hN => ⟨ds.length - (i + 1), by omega, rfl, hlt, hN⟩, fun x H3 hy => ?_⟩
        obtain ⟨d, Hs3, hd, t3, b3, r3⟩ := wk.yld ρ2 Hs2 m2 H2 i x H3 p2 s2 b2 hlt hy
        have hdr : ds.drop i = d :: ds.drop (i + 1) := by
          rw [List.drop_eq_getElem_cons hlt]
          rw [List.getElem?_eq_getElem hlt] at hd
          rw [Option.some.inj hd]
        rw [hdr] at o2
        unfold loopS at o2
        cases hct : ct d Γ2 with
        | none => rw [hct] at o2; exact o2.elim
        | some Γ3 =>
          rw [hct] at o2
          refine ⟨Γ2, m2, ρ2, Hs3, d, Γ3, b3, en2.mono t3, r3, hct, fun σ4 _ en4 => ⟨Γ3, m2, ρ2, Hs3, t2.trans t3, b3, en4, ?_⟩⟩
          have o2 : SOut f X N W ωx ω ρ2 Hs2 (match cb Γ3 m2 with
            | .nx Γ4 m4 => loopS ct cb (ds.drop (i + 1)) Γ4 m4
            | r => r) dn := o2
          cases hcb : cb Γ3 m2 with
          | bad => rw [hcb] at o2; exact o2
          | rt d m' => rw [hcb] at o2; exact o2
          | exc c fs Γ' m' => rw [hcb] at o2; exact o2
          | nx Γ4 m4 =>
            rw [hcb] at o2
            exact fun σ5 ρ5 Hs5 H5 t5 b5 en5 => ⟨Γ4, m4, ρ5, Hs5, t5.1, p2.trans t5.2.1, s2.trans (t3.sub.trans t5.2.2), b5, en5.weak hle, SOut.fwd t5.2.1 (t3.sub.trans t5.2.2) o2⟩
      · have e : i = ds.length := by omega
        subst e
        rw [List.drop_length] at o2
        exact .inl ⟨wk.stop ρ2 Hs2 m2 H2 _ p2 s2 b2 (Nat.le_refl _), o2 σ2 ρ2 Hs2 H2 (.same t2) b2 en2⟩⟩
end
end Pv

end

section
set_option Elab.async false
set_option linter.all false
set_option maxRecDepth 100000
/-! Pv10: list comprehensions. -/
namespace Pv
open PySem L2 PySem.W PyProof.Rows PySem.SeqAt

theorem upd_some {H : Hp} {a : Addr} {o : HO} : upd H a o a ≠ none := by
  rw [upd_same]
  exact fun z => by cases z
abbrev Wn : WX := fun _ _ _ _ => False
def noX {α : Type} (r : R α) : R α := match r with
  | .exc _ _ _ => .bad
  | r => r
theorem noX_out {α β : Type} {K : PySem.W.Frag} {mg : Str → Option Value} {Rp : List Addr → Hp → β → α → Prop} {W : Value → Option Addr → Hp → Prop} {r : R α} {ρ : List Addr} {Hs H : Hp} {Q : β → Hp → Prop} (h : Out K mg Rp W (noX r) ρ Hs H Q) : Out K mg Rp (fun _ _ _ => False) r ρ Hs H Q := by
  cases r with
  | ok a m => exact h
  | exc c fs m => exact h.elim
  | bad => exact h
def lcGo (ct : GC) (tt : TC) (ce : EC) (Γ : Gam) : List D → Mu → R (List D)
  | [], m => .ok [] m
  | d :: ds, m => match ct d Γ with
    | none => .bad
    | some Γ1 => (noX (tt Γ1 m)).bind fun k m1 => if k then (noX (ce Γ1 m1)).bind fun y m2 => (lcGo ct tt ce Γ ds m2).bind fun ys m3 => .ok (y :: ys) m3 else lcGo ct tt ce Γ ds m1
def cLc (ci : IC) (ct : GC) (tt : TC) (ce : EC) : EC := fun Γ m => (ci Γ m).bind fun ds m1 => if szOk ds.length then (lcGo ct tt ce Γ ds m1).bind fun ys m2 => .ok (.lst ys) m2 else .bad
theorem OutB.guardR {f : Bool} {K : PySem.W.Frag} {mg : Str → Option Value} {W : Value → Option Addr → Hp → Prop} {ρ : List Addr} {Hs H : Hp} {Q : VK} {k : Bool} {r : R D} (h : OutB f K mg W (if k = true then r else .bad) ρ Hs H Q) : k = true ∧ OutB f K mg W r ρ Hs H Q := by
  cases k with
  | true => exact ⟨rfl, h⟩
  | false => exact h.elim
section
theorem wipe_in {σ : L2.St} {i : Nat} : ∀ {vs : List Nat}, i ∈ vs → i < σ.length → (wipe σ vs)[i]? = some none
  | v :: vs, h, hl => by
    unfold wipe
    by_cases z : v = i
    · subst z
      rw [List.getElem?_set_self (by rw [wipe_length]; exact hl)]
    · rw [List.getElem?_set_ne z]
      rcases List.mem_cons.mp h with q | q
      · exact absurd q.symm z
      · exact wipe_in q hl
theorem wipe_eq {σ σ2 : L2.St} {vs is : List Nat} (h : SameOff is (wipe σ vs) σ2) (hs : ∀ i ∈ is, i ∈ vs) : wipe σ2 vs = wipe σ vs := by
  refine List.ext_getElem? fun j => ?_
  have hl : σ2.length = σ.length := h.1.trans (wipe_length σ vs)
  by_cases q : j ∈ vs
  · by_cases z : j < σ.length
    · rw [wipe_in q z, wipe_in q (by rw [hl]; exact z)]
    · rw [List.getElem?_eq_none (by rw [wipe_length, hl]; omega), List.getElem?_eq_none (by rw [wipe_length]; omega)]
  · rw [wipe_out q]
    exact h.2 j fun z => q (hs j z)
theorem En.wipe {K : PySem.W.Frag} {H0 : Hp} {ω ωw : List Md} {Γ : Gam} {ρ : List Addr} {Hs H : Hp} {σ : L2.St} {vs : List Nat} (e : En K H0 ω Γ ρ Hs H σ) (h : MdLe ωw ω = true) (hv : ∀ i ∈ vs, ωw[i]? = some .un ∨ ωw[i]? = none) : En K H0 ωw Γ ρ Hs H (wipe σ vs) := by
  have e' := e.weak h
  have out : ∀ i k, ωw[i]? = some k → k ≠ .un → i ∉ vs := fun i k q nk z => by
    rcases hv i z with w | w
    · rw [w] at q; cases q; exact nk rfl
    · rw [w] at q; cases q
  refine ⟨by rw [wipe_length]; exact e'.ln, by rw [wipe_length]; exact e'.wl, fun i q => ?_, fun i q => ?_, fun i j a q1 q2 q3 q4 => ?_⟩
  · rw [wipe_out (out i _ q (by decide))]; exact e'.sh i q
  · rw [wipe_out (out i _ q (by decide))]; exact e'.ow i q
  · rw [wipe_out (out i _ q1 (by decide))] at q3
    rw [wipe_out (out j _ q2 (by decide))] at q4
    exact e'.nd i j a q1 q2 q3 q4
variable {f : Bool} {X : Cx} {H0 : Hp} {W : WX} {ω ωw ωt : List Md} {is vs : List Nat} {tg iter elt : Expr} {ifs : List Expr} {ci : IC} {ct : GC} {tt : TC} {ce : EC} {pos : Pos}
/-- a list that is being filled -/
theorem lc_end {K : PySem.W.Frag} {mg : Str → Option Value} {W : Value → Option Addr → Hp → Prop} {ρ ρ' : List Addr} {Hs H Hs' H' : Hp} {m : Mu} {a : Addr} {ds : List D} {Q : VK} (o : OutB f K mg W (.ok (.lst ds) m) ρ Hs H Q) (t : Tr ρ Hs H ρ' Hs' H') (b : Bs K ρ' m Hs' H') (h0 : H a = none)
    (h1 : Own K ρ' Hs' H' a (.lst ds)) (h2 : Hs' a = none) (h3 : a ∉ ρ') (h4 : H' a ≠ none) : Q (.ref a) H' := by
  cases f with
  | true => exact o a ρ' Hs' H' t b h1 h2 h3 h0 h4
  | false =>
    obtain ⟨u, hu, rp, b2⟩ := own_val b h1 h2 h3
    refine o (.ref a) ρ' (upd Hs' a u) H' ⟨t.sub.trans (Sub.new h2), fun x v q => ?_, t.pre, t.bnew, t.dom, t.same⟩ b2 rp
    by_cases z : x = a
    · subst z; exact .inr h0
    · rw [upd_ne z] at q; exact t.new x v q
theorem lc_read {σ : L2.St} {H : Hp} {Q : VK} (hw : MdLe ωw ω = true) (hv : ∀ i ∈ vs, ωw[i]? = some .un ∨ ωw[i]? = none) (his : ∀ i ∈ is, i ∈ vs) (h : cEB f X H0 W ω (cLc ci ct tt ce) σ H Q) :
    tLc (cI X H0 W ω ci) (cG X H0 is ωw ωt ct) (cT X H0 Wn ωt tt) (cE X H0 Wn ωt ce) vs σ H Q := by
  obtain ⟨Γ, m, ρ, Hs, b, en, o⟩ := h
  refine ⟨Γ, m, ρ, Hs, b, en, Out.mono (OutB.bind o) fun J H1 ⟨ds, m1, ρ1, Hs1, t1, b1, wk, o1⟩ => ?_⟩
  obtain ⟨hz, o1⟩ := OutB.guardR o1
  intro A hA
  have en1 := (en.mono t1).wipe hw hv
  refine ⟨fun i k H3 => k = ds.length - i ∧ i ≤ ds.length ∧ ∃ m3 ρ3 Hs3 acc, Tr ρ1 Hs1 H1 ρ3 Hs3 H3 ∧ Bs X.K ρ3 m3 Hs3 H3 ∧ Own X.K ρ3 Hs3 H3 A (.lst acc) ∧ Hs3 A = none ∧ A ∉ ρ3 ∧ H3 A ≠ none ∧ acc.length ≤ i ∧
      OutB f X.K X.mg (fun cls dx H' => W cls dx σ H') ((lcGo ct tt ce Γ (ds.drop i) m3).bind fun ys m' => .ok (.lst (acc ++ ys)) m') ρ1 Hs1 H1 Q, ⟨ds.length, by omega, Nat.zero_le _, m1, ρ1, Hs1, [], tr_newF hA, b1.newF hA, .lst upd_same .nil, hs_none b1.sub hA, b1.out hA, upd_some, Nat.le_refl _, o1⟩, ?_⟩
  rintro i k H3 ⟨rfl, hik, m3, ρ3, Hs3, acc, t3, b3, a1, a2, a3, a4, hacc, o3⟩
  by_cases hlt : i < ds.length
  · refine .inr ⟨wk.go ρ3 Hs3 m3 H3 i t3.pre t3.sub b3 hlt, fun H9 => ∃ m3 ρ3 Hs3 acc, Tr ρ1 Hs1 H1 ρ3 Hs3 H9 ∧ Bs X.K ρ3 m3 Hs3 H9 ∧ Own X.K ρ3 Hs3 H9 A (.lst acc) ∧ Hs3 A = none ∧ A ∉ ρ3 ∧ H9 A ≠ none ∧ acc.length ≤ i + 1 ∧
      OutB f X.K X.mg (fun cls dx H' => W cls dx σ H') ((lcGo ct tt ce Γ (ds.drop (i + 1)) m3).bind fun ys m' => .ok (.lst (acc ++ ys)) m') ρ1 Hs1 H1 Q, fun H9 hN => ⟨ds.length - (i + 1), by omega, rfl, hlt, hN⟩, fun x H4 hy => ?_⟩
    obtain ⟨d, Hs4, hd, t4, b4, r4⟩ := wk.yld ρ3 Hs3 m3 H3 i x H4 t3.pre t3.sub b3 hlt hy
    have hdr : ds.drop i = d :: ds.drop (i + 1) := by
      rw [List.drop_eq_getElem_cons hlt]
      rw [List.getElem?_eq_getElem hlt] at hd
      rw [Option.some.inj hd]
    rw [hdr] at o3
    unfold lcGo at o3
    cases hct : ct d Γ with
    | none => rw [hct] at o3; exact o3.elim
    | some Γ1 =>
      rw [hct] at o3
      have t14 := t3.trans t4
      have ob : BRep X.K ρ3 Hs3 H3 (.ref A) (.lst acc) := .inr ⟨A, rfl, a1, a2, a3, a4⟩
      refine ⟨Γ, m3, ρ3, Hs4, d, Γ1, b4, en1.mono t14, r4, hct, fun σ5 so en5 => ⟨wipe_eq so his, Γ1, m3, ρ3, Hs4, b4, en5, ?_⟩⟩
      have o3 : OutB f X.K X.mg (fun cls dx H' => W cls dx σ H') (((noX (tt Γ1 m3)).bind fun k m1 => if k = true then (noX (ce Γ1 m1)).bind fun y m2 => (lcGo ct tt ce Γ (ds.drop (i + 1)) m2).bind fun ys m3 => .ok (y :: ys) m3 else lcGo ct tt ce Γ (ds.drop (i + 1)) m1).bind fun ys m' => .ok (.lst (acc ++ ys)) m') ρ1 Hs1 H1 Q := o3
      cases htt : tt Γ1 m3 with
      | bad => rw [htt] at o3; exact o3.elim
      | exc c fs m' => rw [htt] at o3; exact o3.elim
      | ok k5 m5 =>
        rw [htt] at o3
        intro k' ρ5 Hs5 H5 t5 b5 e5
        subst e5
        have ob5 := (ob.mono t4).mono t5
        cases k' with
        | false =>
          rcases ob5 with z | ⟨A', e, w1, w2, w3, w4⟩
          · cases z with
            | lst z _ => exact absurd (show Hs5 A = none from by
                cases q : Hs5 A with
                | none => rfl
                | some u =>
                  rcases (t4.trans t5).new A u q with y | y
                  · rw [a2] at y; cases y
                  · exact absurd y a4) (by rw [z]; exact fun y => nomatch y)
          · cases e
            exact ⟨m5, ρ5, Hs5, acc, t14.trans t5, b5, w1, w2, w3, w4, by omega, o3⟩
        | true =>
          refine ⟨Γ1, m5, ρ5, Hs5, b5, en5.mono t5, ?_⟩
          have o3 : OutB f X.K X.mg (fun cls dx H' => W cls dx σ H') (((noX (ce Γ1 m5)).bind fun y m2 => (lcGo ct tt ce Γ (ds.drop (i + 1)) m2).bind fun ys m3 => .ok (y :: ys) m3).bind fun ys m' => .ok (.lst (acc ++ ys)) m') ρ1 Hs1 H1 Q := o3
          cases hce : ce Γ1 m5 with
          | bad => rw [hce] at o3; exact o3.elim
          | exc c fs m' => rw [hce] at o3; exact o3.elim
          | ok y6 m6 =>
            rw [hce] at o3
            intro v6 ρ6 Hs6 H6 t6 b6 r6
            have ob6 := ob5.mono t6
            have hn6 : Hs6 A = none := by
              cases q : Hs6 A with
              | none => rfl
              | some u =>
                rcases ((t4.trans t5).trans t6).new A u q with y | y
                · rw [a2] at y; cases y
                · exact absurd y a4
            rcases ob6 with z | ⟨A', e, w1, w2, w3, w4⟩
            · cases z with
              | lst z _ => rw [hn6] at z; cases z
            · cases e
              obtain ⟨vs6, g1, g2⟩ := ownL w1
              have hle : vs6.length < sizeLine := by
                rw [g2.length]
                exact Nat.lt_of_le_of_lt hacc (Nat.lt_of_lt_of_le hlt (szOk_le hz))
              refine ⟨vs6, g1, hle, m6, ρ6, Hs6, acc ++ [y6], ?_, b6.mut w2 w3, .lst upd_same (g2.append (.one r6)), w2, w3, upd_some, by rw [List.length_append]; show acc.length + 1 ≤ i + 1; omega, ?_⟩
              · have T := (t14.trans t5).trans t6
                refine ⟨T.sub, T.new, T.pre, T.bnew, fun x q => ?_, fun x u n q => ?_⟩
                · by_cases z : x = A
                  · subst z; exact hA
                  · rw [upd_ne z] at q; exact T.dom x q
                · have z : x ≠ A := fun z => by subst z; rw [hA] at q; cases q
                  rw [upd_ne z]; exact T.same x u n q
              · have o3 : OutB f X.K X.mg (fun cls dx H' => W cls dx σ H') (((lcGo ct tt ce Γ (ds.drop (i + 1)) m6).bind fun ys m3 => .ok (y6 :: ys) m3).bind fun ys m' => .ok (.lst (acc ++ ys)) m') ρ1 Hs1 H1 Q := o3
                cases hgo : lcGo ct tt ce Γ (ds.drop (i + 1)) m6 with
                | bad => rw [hgo] at o3; exact o3.elim
                | exc c fs m' => rw [hgo] at o3; exact o3
                | ok ys m7 =>
                  rw [hgo] at o3
                  have o3 : OutB f X.K X.mg (fun cls dx H' => W cls dx σ H') (.ok (.lst (acc ++ y6 :: ys)) m7) ρ1 Hs1 H1 Q := o3
                  show OutB f X.K X.mg (fun cls dx H' => W cls dx σ H') (.ok (.lst (acc ++ [y6] ++ ys)) m7) ρ1 Hs1 H1 Q
                  rw [List.append_assoc]
                  exact o3
  · have e : i = ds.length := by omega
    subst e
    rw [List.drop_length] at o3
    have o3 : OutB f X.K X.mg (fun cls dx H' => W cls dx σ H') (.ok (.lst (acc ++ [])) m3) ρ1 Hs1 H1 Q := o3
    rw [List.append_nil] at o3
    exact .inl ⟨wk.stop ρ3 Hs3 m3 H3 _ t3.pre t3.sub b3 (Nat.le_refl _), lc_end o3 t3 b3 hA a1 a2 a3 a4⟩
abbrev Cx.bl (X : Cx) (s : Shared) (H : Hp) (scope : Scope) (C : Addr) (cl : List (Str × Addr)) (fp : List Addr) : Cx := X.blk s H scope (compEnvC scope cl C X.env) fp
theorem ev_lc {scope : Scope} {own : List (Str × Nat)} (hc : X.calm = true) (hN : X.N.Nodup) (hi : IV X H0 W ω tg iter ci) (ok : BlkOk X.N X.env.scope scope own)
    (hg : ∀ s H C cl fp, GV (Cx.bl X s H scope C cl fp) H0 is ωw tg ct ωt) (ht : ∀ s H C cl fp, PTs (Cx.bl X s H scope C cl fp) ifs (cT X H0 Wn ωt tt)) (he : ∀ s H C cl fp, EV (Cx.bl X s H scope C cl fp) H0 Wn ωt elt ce)
    (hw : MdLe ωw ω = true) (hv : ∀ i ∈ own.map (·.2), ωw[i]? = some .un ∨ ωw[i]? = none) (his : ∀ i ∈ is, i ∈ own.map (·.2)) (hs : ∀ x, foldedSetIterable iter X.env x = pure x := by intro _; rfl) :
    EB f X H0 W ω (.ListComp elt [⟨tg, iter, ifs, 0⟩] scope pos) (cLc ci ct tt ce) :=
  PE.imp (pe_lc hc hN hi ok (fun s H C cl fp => hg s H C cl fp) (fun s H C cl fp => ht s H C cl fp) (fun s H C cl fp => he s H C cl fp) hs) fun σ H Q h => lc_read hw hv his h
end
end Pv

end

section
set_option Elab.async false
set_option linter.all false
set_option maxRecDepth 100000
/-! Pv11: while, y = [..], a def's body and its promise, the built-in names. -/
namespace Pv
open PySem L2 PySem.W PyProof.Rows PySem.SeqAt

/-- the module binds none of these names -/
structure Bn (mg : Str → Option Value) : Prop where
  len : mg "len" = none
  range : mg "range" = none
  tuple : mg "tuple" = none
  list : mg "list" = none
  all : mg "all" = none
  any : mg "any" = none
  sum : mg "sum" = none
  int : mg "int" = none
  abs : mg "abs" = none
  isi : mg "isinstance" = none
  sorted : mg "sorted" = none
  set : mg "set" = none
  zip : mg "zip" = none
  enum : mg "enumerate" = none
  bool : mg "bool" = none
  str : mg "str" = none
  min : mg "min" = none
  max : mg "max" = none
  dict : mg "dict" = none
section
variable {X : Cx} {H0 : Hp} {W : WX} {ω : List Md} {a : Expr} {ca : EC} {f : Bool} {p pos : Pos}
theorem ev_len (B : Bn X.mg) (ha : BV X H0 W ω a ca) (hg : Gl X "len" := by rfl) (he : starEach [a] X.env = [(false, eval a X.env)] := by rfl) : EV X H0 W ω (.Call (.Name "len" p) [a] [] pos) (c1 lenD ca) := EB.ev (ev_callB call_len rd_len hg B.len PySem.boot_len ha (by decide) (by decide) he)
theorem ev_abs (B : Bn X.mg) (ha : BV X H0 W ω a ca) (hg : Gl X "abs" := by rfl) (he : starEach [a] X.env = [(false, eval a X.env)] := by rfl) : EV X H0 W ω (.Call (.Name "abs" p) [a] [] pos) (c1 absD ca) := EB.ev (ev_callB call_abs rd_abs hg B.abs (by decide +kernel) ha (by decide) (by decide) he)
theorem ev_int' (B : Bn X.mg) (ha : BV X H0 W ω a ca) (hg : Gl X "int" := by rfl) (he : starEach [a] X.env = [(false, eval a X.env)] := by rfl) : EV X H0 W ω (.Call (.Name "int" p) [a] [] pos) (c1 intD ca) := EB.ev (ev_callT call_int1 rd_int hg B.int (by decide +kernel) ha (by decide) (by decide) he)
theorem ev_all (B : Bn X.mg) (hc : X.calm = true) (ha : BV X H0 W ω a ca) (hg : Gl X "all" := by rfl) (he : starEach [a] X.env = [(false, eval a X.env)] := by rfl) : EV X H0 W ω (.Call (.Name "all" p) [a] [] pos) (c1 allD ca) := EB.ev (ev_callB (cr_all hc) rd_all hg B.all (by decide +kernel) ha (by decide) (by decide) he)
theorem ev_any (B : Bn X.mg) (hc : X.calm = true) (ha : BV X H0 W ω a ca) (hg : Gl X "any" := by rfl) (he : starEach [a] X.env = [(false, eval a X.env)] := by rfl) : EV X H0 W ω (.Call (.Name "any" p) [a] [] pos) (c1 anyD ca) := EB.ev (ev_callB (cr_any hc) rd_any hg B.any (by decide +kernel) ha (by decide) (by decide) he)
theorem ev_sum (B : Bn X.mg) (hc : X.calm = true) (ha : BV X H0 W ω a ca) (hg : Gl X "sum" := by rfl) (he : starEach [a] X.env = [(false, eval a X.env)] := by rfl) : EV X H0 W ω (.Call (.Name "sum" p) [a] [] pos) (c1 sumD ca) := EB.ev (ev_callB (cr_sum hc) rd_sum hg B.sum (by decide +kernel) ha (by decide) (by decide) he)
theorem ev_list (B : Bn X.mg) (ha : BV X H0 W ω a ca) (hg : Gl X "list" := by rfl) (he : starEach [a] X.env = [(false, eval a X.env)] := by rfl) : EB f X H0 W ω (.Call (.Name "list" p) [a] [] pos) (c1 listD ca) := ev_callT call_list_of rd_list hg B.list (by decide +kernel) ha (by decide) (by decide) he
theorem ev_tuple (B : Bn X.mg) (ha : BV X H0 W ω a ca) (hg : Gl X "tuple" := by rfl) (he : starEach [a] X.env = [(false, eval a X.env)] := by rfl) : EV X H0 W ω (.Call (.Name "tuple" p) [a] [] pos) (c1 tupleD ca) := EB.ev (ev_callT call_tuple_of rd_tuple hg B.tuple (by decide +kernel) ha (by decide) (by decide) he)
theorem ev_isI (B : Bn X.mg) {q : Pos} (ha : BV X H0 W ω a ca) (hg : Gl X "isinstance" := by rfl) (hgT : Gl X "int" := by rfl) (he : starEach [a, .Name "int" q] X.env = (false, eval a X.env) :: starEach [.Name "int" q] X.env := by rfl) : EV X H0 W ω (.Call (.Name "isinstance" p) [a, .Name "int" q] [] pos) (c1 (isiD .int) ca) := ev_isi .int ha B.isi B.int (by decide +kernel) hg hgT (by decide) (by decide) he
theorem ev_isB (B : Bn X.mg) {q : Pos} (ha : BV X H0 W ω a ca) (hg : Gl X "isinstance" := by rfl) (hgT : Gl X "bool" := by rfl) (he : starEach [a, .Name "bool" q] X.env = (false, eval a X.env) :: starEach [.Name "bool" q] X.env := by rfl) : EV X H0 W ω (.Call (.Name "isinstance" p) [a, .Name "bool" q] [] pos) (c1 (isiD .bool) ca) := ev_isi .bool ha B.isi B.bool (by decide +kernel) hg hgT (by decide) (by decide) he
theorem ev_isS (B : Bn X.mg) {q : Pos} (ha : BV X H0 W ω a ca) (hg : Gl X "isinstance" := by rfl) (hgT : Gl X "str" := by rfl) (he : starEach [a, .Name "str" q] X.env = (false, eval a X.env) :: starEach [.Name "str" q] X.env := by rfl) : EV X H0 W ω (.Call (.Name "isinstance" p) [a, .Name "str" q] [] pos) (c1 (isiD .str) ca) := ev_isi .str ha B.isi B.str (by decide +kernel) hg hgT (by decide) (by decide) he
theorem ev_isL (B : Bn X.mg) {q : Pos} (ha : BV X H0 W ω a ca) (hg : Gl X "isinstance" := by rfl) (hgT : Gl X "list" := by rfl) (he : starEach [a, .Name "list" q] X.env = (false, eval a X.env) :: starEach [.Name "list" q] X.env := by rfl) : EV X H0 W ω (.Call (.Name "isinstance" p) [a, .Name "list" q] [] pos) (c1 (isiD .list) ca) := ev_isi .list ha B.isi B.list (by decide +kernel) hg hgT (by decide) (by decide) he
theorem ev_isT (B : Bn X.mg) {q : Pos} (ha : BV X H0 W ω a ca) (hg : Gl X "isinstance" := by rfl) (hgT : Gl X "tuple" := by rfl) (he : starEach [a, .Name "tuple" q] X.env = (false, eval a X.env) :: starEach [.Name "tuple" q] X.env := by rfl) : EV X H0 W ω (.Call (.Name "isinstance" p) [a, .Name "tuple" q] [] pos) (c1 (isiD .tuple) ca) := ev_isi .tuple ha B.isi B.tuple (by decide +kernel) hg hgT (by decide) (by decide) he
/-- isinstance(x, (list, tuple)), (bool, str) -/
theorem ev_isLT (B : Bn X.mg) {q q' q2 : Pos} {kk : Nat} (ha : BV X H0 W ω a ca) (hg : Gl X "isinstance" := by rfl) (hgT : Gl X "list" := by rfl) (hgU : Gl X "tuple" := by rfl) (he : starEach [a, .Tuple [.Name "list" q, .Name "tuple" q'] kk q2] X.env = (false, eval a X.env) :: starEach [.Tuple [.Name "list" q, .Name "tuple" q'] kk q2] X.env := by rfl) : EV X H0 W ω (.Call (.Name "isinstance" p) [a, .Tuple [.Name "list" q, .Name "tuple" q'] kk q2] [] pos) (c1 (isi2D .list .tuple) ca) := ev_isi2 .list .tuple ha B.isi B.list (by decide +kernel) B.tuple (by decide +kernel) hg hgT (by decide) (by decide) hgU (by decide) (by decide) he
theorem ev_isBS (B : Bn X.mg) {q q' q2 : Pos} {kk : Nat} (ha : BV X H0 W ω a ca) (hg : Gl X "isinstance" := by rfl) (hgT : Gl X "bool" := by rfl) (hgU : Gl X "str" := by rfl) (he : starEach [a, .Tuple [.Name "bool" q, .Name "str" q'] kk q2] X.env = (false, eval a X.env) :: starEach [.Tuple [.Name "bool" q, .Name "str" q'] kk q2] X.env := by rfl) : EV X H0 W ω (.Call (.Name "isinstance" p) [a, .Tuple [.Name "bool" q, .Name "str" q'] kk q2] [] pos) (c1 (isi2D .bool .str) ca) := ev_isi2 .bool .str ha B.isi B.bool (by decide +kernel) B.str (by decide +kernel) hg hgT (by decide) (by decide) hgU (by decide) (by decide) he

/-! ### a comparison as a test -/
def asBl : D → Option Bool
  | .bl k => some k
  | _ => none
def tCmp (g : Mu → D → D → Option D) (ca cb : EC) : TC := fun Γ m => (c2 g ca cb Γ m).bind fun d m1 => R.of (asBl d) m1
theorem tv_cmpB {op : CmpOp} {b : Expr} {cb : EC} {g : Mu → D → D → Option D} (ho : BopD X (compareOp op) g) (ha : BV X H0 W ω a ca) (hb : BV X H0 W ω b cb) (hm : behindInMarks op b = false) : TV X H0 W ω (.Compare a [op] [b] pos) (tCmp g ca cb) :=
  PT.imp (pt_cmpR (bop_opr ho) ha hb hm) fun σ H Q ⟨Γ, m, ρ, Hs, b, en, o⟩ => c2_readW (f := false) (Q := fun x H' => ∃ k, x = .bl k ∧ Q k H') ⟨Γ, m, ρ, Hs, b, en, by
    rw [OutB.out]
    refine Out.mono (Out.bind (Rp := Rep X.K) o) fun v H1 ⟨d, m1, ρ1, Hs1, t1, b1, r1, o1⟩ => ?_
    obtain ⟨k, hk, o1⟩ := Out.ofV o1
    cases d <;> simp only [asBl] at hk <;> try (cases hk; done)
    cases hk
    cases r1
    exact ⟨_, rfl, o1 _ ρ1 Hs1 H1 (.refl ..) b1 rfl⟩⟩

/-! ### y = [..] -/
theorem tts_nil {ωt : List Md} : PTs X [] (cT X H0 Wn ωt fun _ m => .ok true m) := ⟨fun pins s σ H Q I ⟨Γ, m, ρ, Hs, b, en, o⟩ => pts_nil.run pins s σ H Q I (o true ρ Hs H (.refl ..) b rfl)⟩
theorem tts_one {ωt : List Md} {t : TC} {q : Expr} (h : TV X H0 Wn ωt q t) : PTs X [q] (cT X H0 Wn ωt t) := pts_one h
end
section
variable {f : Bool} {X : Cx} {N : Ent} {W : WX} {ωx ω ωw ωt ωb : List Md} {is : List Nat} {tg iter elt : Expr} {ifs : List Expr} {ci : IC} {ct : GC} {tt t : TC} {ce : EC} {pos : Pos} {cb : SC} {q : Expr} {body : List Stmt}
/-- y = [..], y a plain local; own: the list may be changed later -/
theorem sv_setLc (i : Nat) {y : Str} {py spos : Pos} {scope : Scope} {own : List (Str × Nat)} (hc : X.calm = true) (hN : X.N.Nodup) (hi : IV X N.H W ω tg iter ci) (ok : BlkOk X.N X.env.scope scope own)
    (hg : ∀ s H C cl fp, GV (Cx.bl X s H scope C cl fp) N.H is ωw tg ct ωt) (ht : ∀ s H C cl fp, PTs (Cx.bl X s H scope C cl fp) ifs (cT X N.H Wn ωt tt)) (he : ∀ s H C cl fp, EV (Cx.bl X s H scope C cl fp) N.H Wn ωt elt ce)
    (hw : MdLe ωw ω = true) (hv : ∀ i ∈ own.map (·.2), ωw[i]? = some .un ∨ ωw[i]? = none) (his : ∀ i ∈ is, i ∈ own.map (·.2))
    (hsw : swapsWith (.ListComp elt [⟨tg, iter, ifs, 0⟩] scope pos) (some (.Name y py)) spos.line X.env = pure true) (hx : MdLe ωx ω = true := by rfl) (hwi : i < ω.length := by decide) (hy : X.N[i]? = some y := by rfl) (hyl : X.env.scope.names.lookup y = some .local := by rfl) (hs : ∀ x, foldedSetIterable iter X.env x = pure x := by intro _; rfl) :
    SV f X N W ωx ω (.Assign [.Name y py] (.ListComp elt [⟨tg, iter, ifs, 0⟩] scope pos) spos) (sSet i (cLc ci ct tt ce)) (ω.set i .ow) :=
  PS.imp (ps_setLc hc hN hy hyl hsw hi ok (fun s H C cl fp => hg s H C cl fp) (fun s H C cl fp => ht s H C cl fp) (fun s H C cl fp => he s H C cl fp) hs) fun dn σ H ⟨Γ, m, ρ, Hs, t, b, en, o⟩ => by
    refine lc_read (f := true) (W := W) (ci := ci) (ct := ct) (tt := tt) (ce := ce) hw hv his ⟨Γ, m, ρ, Hs, b, en, ?_⟩
    unfold sSet at o
    cases hc : cLc ci ct tt ce Γ m with
    | bad => rw [hc] at o; exact o
    | exc c fs m' => rw [hc] at o; exact fun cls dx ρ' Hs' H' t' b' e' => o cls dx σ ρ' Hs' H' (t.trans t') b' ((en.weak hx).mono t') e'
    | ok d m' =>
      rw [hc] at o
      intro a ρ' Hs' H' t' b' o1 o2 o3 o4 o5
      refine o _ ρ' Hs' H' (.mk t t') b' ((en.mono t').setOw hwi o1 o2 o3 (t.dom a o4) o5 fun j hj z => ?_)
      obtain ⟨a', q1, _, _, _, _, q6⟩ := en.ow j hj
      rw [q1] at z
      cases z
      exact q6 o4

/-! ### while -/
def whileS (t : TC) (cb : SC) : Nat → Gam → Mu → SR
  | 0, _, _ => .bad
  | n + 1, Γ, m => toSB (t Γ m) Γ fun k m1 => if k then (match cb Γ m1 with
      | .nx Γ2 m2 => whileS t cb n Γ2 m2
      | r => r) else .nx Γ m1
def sWhile (n : Nat) (t : TC) (cb : SC) : SC := fun Γ m => whileS t cb n Γ m
theorem sv_while (n : Nat) (hp : PassesOwn (model X.prog X.w) X.A X.env X.xe) (ht : TV X N.H W ω q t) (hb : SVs f X N W ωx ω body cb ωb) (hle : MdLe ω ωb = true := by rfl) (hx : MdLe ωx ω = true := by rfl) : SV f X N W ωx ω (.While q body [] pos) (sWhile n t cb) ω :=
  PS.imp (ps_while hp ht hb) fun dn σ H ⟨Γ, m, ρ, Hs, tr, b, en, o⟩ => by
    refine ⟨fun k σ2 H2 => ∃ Γ2 m2 ρ2 Hs2, N.tr ρ2 Hs2 H2 ∧ Bs X.K ρ2 m2 Hs2 H2 ∧ En X.K N.H ω Γ2 ρ2 Hs2 H2 σ2 ∧ SOut f X N W ωx ω ρ2 Hs2 (whileS t cb k Γ2 m2) dn, ⟨n, Γ, m, ρ, Hs, tr, b, en, o⟩, ?_⟩
    rintro k σ2 H2 ⟨Γ2, m2, ρ2, Hs2, t2, b2, en2, o2⟩
    cases k with
    | zero => exact o2.elim
    | succ k =>
      refine ⟨Γ2, m2, ρ2, Hs2, b2, en2, ?_⟩
      unfold whileS at o2
      cases hc : t Γ2 m2 with
      | bad => rw [hc] at o2; exact o2
      | exc c fs m' => rw [hc] at o2; exact fun cls dx ρ' Hs' H' t' b' e' => o2 cls dx σ2 ρ' Hs' H' (t2.trans t') b' ((en2.weak hx).mono t') e'
      | ok k3 m3 =>
        rw [hc] at o2
        have o2 : SOut f X N W ωx ω ρ2 Hs2 (if k3 = true then (match cb Γ2 m3 with
          | .nx Γ2 m2 => whileS t cb k Γ2 m2
          | r => r) else .nx Γ2 m3) dn := o2
        intro k3' ρ3 Hs3 H3 t3 b3 e3
        subst e3
        cases k3' with
        | false => exact o2 σ2 ρ3 Hs3 H3 (.mk t2 t3) b3 (en2.mono t3)
        | true =>
          refine ⟨fun σ5 H5 => ∃ Γ5 m5 ρ5 Hs5, N.tr ρ5 Hs5 H5 ∧ Bs X.K ρ5 m5 Hs5 H5 ∧ En X.K N.H ω Γ5 ρ5 Hs5 H5 σ5 ∧ SOut f X N W ωx ω ρ5 Hs5 (whileS t cb k Γ5 m5) dn, fun σ5 H5 h5 => ⟨k, Nat.lt_succ_self _, h5⟩, Γ2, m3, ρ3, Hs3, t2.trans t3, b3, en2.mono t3, ?_⟩
          have o2 : SOut f X N W ωx ω ρ2 Hs2 (match cb Γ2 m3 with
            | .nx Γ2 m2 => whileS t cb k Γ2 m2
            | r => r) dn := o2
          cases hcb : cb Γ2 m3 with
          | bad => rw [hcb] at o2; exact o2
          | rt d m' => rw [hcb] at o2; exact o2
          | exc c fs Γ' m' => rw [hcb] at o2; exact o2
          | nx Γ4 m4 =>
            rw [hcb] at o2
            exact fun σ5 ρ5 Hs5 H5 t5 b5 en5 => ⟨Γ4, m4, ρ5, Hs5, t5.1, b5, en5.weak hle, SOut.fwd (t3.pre.trans t5.2.1) (t3.sub.trans t5.2.2) o2⟩
end

/-! ### a def -/
def endR (r : SR) : R D := match r with
  | .nx _ m => .ok .non m
  | .rt d m => .ok d m
  | .exc c fs _ m => .exc c fs m
  | .bad => .bad
def endF (r : SR) : R D := match r with
  | .rt d m => .ok d m
  | .exc c fs _ m => .exc c fs m
  | _ => .bad
/-- the def's function: n further slots -/
def fnC (n : Nat) (c : SC) : List D → Mu → R D := fun ds m => endR (c (ds ++ List.replicate n .non) m)
def fnF (n : Nat) (c : SC) : List D → Mu → R D := fun ds m => endF (c (ds ++ List.replicate n .non) m)
def om (p n : Nat) : List Md := List.replicate p .sh ++ List.replicate n .un
theorem En.start {K : PySem.W.Frag} {H : Hp} {ρ : List Addr} {Hs : Hp} {vs : List V} {ds : List D} {N : List Str} {p n : Nat} (r : RepAll K ρ Hs vs ds) (hp : ds.length = p) (hn : N.length = p + n) : En K H (om p n) (ds ++ List.replicate n .non) ρ Hs H (L2.start N vs) := by
  have hl : vs.length = p := r.length.trans hp
  have hsl : (L2.start N vs).length = p + n := by
    unfold L2.start
    rw [List.length_append, List.length_map, List.length_replicate, hl, hn]
    omega
  refine ⟨?_, ?_, fun i q => ?_, fun i q => ?_, fun i j a q1 => ?_⟩
  · rw [List.length_append, List.length_replicate, hp, hsl]
  · unfold om
    rw [List.length_append, List.length_replicate, List.length_replicate, hsl]
  · unfold om at q
    by_cases hi : i < p
    · obtain ⟨v, hv, hr⟩ := r.get' (List.getElem?_eq_getElem (show i < ds.length by omega))
      refine ⟨v, ?_, ?_⟩
      · unfold L2.start
        rw [List.getElem?_append_left (by rw [List.length_map]; omega), List.getElem?_map, hv]
        rfl
      · rw [List.getD_eq_getElem?_getD, List.getElem?_append_left (by omega), List.getElem?_eq_getElem (by omega)]
        exact hr
    · rw [List.getElem?_append_right (by rw [List.length_replicate]; omega), List.getElem?_replicate] at q
      split at q
      · cases q
      · cases q
  all_goals (first
    | (unfold om at q
       by_cases hi : i < p
       · rw [List.getElem?_append_left (by rw [List.length_replicate]; omega), List.getElem?_replicate] at q
         split at q <;> cases q
       · rw [List.getElem?_append_right (by rw [List.length_replicate]; omega), List.getElem?_replicate] at q
         split at q <;> cases q)
    | (unfold om at q1
       by_cases hi : i < p
       · rw [List.getElem?_append_left (by rw [List.length_replicate]; omega), List.getElem?_replicate] at q1
         split at q1 <;> cases q1
       · rw [List.getElem?_append_right (by rw [List.length_replicate]; omega), List.getElem?_replicate] at q1
         split at q1 <;> cases q1))
abbrev FnP (K : PySem.W.Frag) (x : Str) (st : Stmt) (f : Addr) (fd : FuncData) : Prop := FunD K x x (defArgs st) (defBody st) (defScope st) [] [] f fd
/-- a def of the text, as its callers use it -/
structure Fn (P : Program) (w : World) (K : PySem.W.Frag) (mg : Str → Option Value) (base : Heap) (CX : CXT) (x : Str) (k : Nat) (ps : List Str) (f : Bool) (G : List D → Mu → R D) : Prop where
  ex : ∃ fa fd, mg x = some (.ref fa) ∧ PySem.W.keepIn K (.ref fa) = true ∧ Binds K fd ps [] ∧ FnOk P w K mg base CX k fa fd ps (spD K mg f ps.length G)
section
variable {P : Program} {w : World} {K : PySem.W.Frag} {mg : Str → Option Value} {base : Heap}
abbrev cx0 (P : Program) (w : World) (K : PySem.W.Frag) (mg : Str → Option Value) (base : Heap) (N : List Str) (x : Str) (st : Stmt) (fa : Addr) (cdv : Value) (A : Around) (outer : List Env) (s : Shared) (H : Hp) (E : XK) : Cx := (cxOf CX0 P w K mg base N x (defScope st) fa cdv A outer s H E).nox
theorem fn_ok {x : Str} {st : Stmt} {fa : Addr} {fd : FuncData} {N ps : List Str} {k n : Nat} {f : Bool} {c : SC} {ω' : List Md} {G : List D → Mu → R D} (F : FnP K x st fa fd) (S : FnScope N ps (defScope st)) (hn : N.length = ps.length + n) (hG : G = if f = true then fnF n c else fnC n c)
    (hb : ∀ (cdv : Value) (A : Around) (outer : List Env) (s : Shared) (H : Hp) (E : XK) (M : Ent), Room k (A.deeper (envOfC x (defScope st) s.heap.objs.size fa cdv)) → SVs f (cx0 P w K mg base N x st fa cdv A outer s H E) M Wn (om 0 (ps.length + n)) (om ps.length n) (defBody st) c ω') :
    FnOk P w K mg base CX0 (k + 1) fa fd ps (spD K mg f ps.length G) := by
  refine F.ok S (fun vs H Q E h => ?_) (fun cdv A outer s H vs Q E hr h => ?_)
  · obtain ⟨ρ, m, Hs, ds, b, r, hl, _⟩ := h
    rw [r.length]; exact hl
  · obtain ⟨ρ, m, Hs, ds, b, r, hl, o⟩ := h
    refine ⟨_, PSs.nox (hb cdv A outer s H E ⟨ρ, Hs, H⟩ hr), ds ++ List.replicate n D.non, m, ρ, Hs, .refl .., b, En.start (H := H) r hl hn, ?_⟩
    subst hG
    cases f with
    | false =>
      have o : OutB false K mg E (endR (c (ds ++ List.replicate n .non) m)) ρ Hs H Q := o
      cases hc : c (ds ++ List.replicate n .non) m with
      | nx Γ m' => rw [hc] at o; exact fun σ' ρ' Hs' H' t' b' en' => o _ ρ' Hs' H' t'.1 b' .non
      | rt d m' => rw [hc] at o; exact o
      | exc c fs Γ m' =>
        intro cls dx σ' ρ' Hs' H' t' b' en' e'
        exact e'
      | bad => rw [hc] at o; exact o
    | true =>
      have o : OutB true K mg E (endF (c (ds ++ List.replicate n .non) m)) ρ Hs H Q := o
      cases hc : c (ds ++ List.replicate n .non) m with
      | nx Γ m' => rw [hc] at o; exact o.elim
      | rt d m' => rw [hc] at o; exact o
      | exc c fs Γ m' =>
        intro cls dx σ' ρ' Hs' H' t' b' en' e'
        exact e'
      | bad => rw [hc] at o; exact o
end
section
variable {X : Cx} {H0 : Hp} {W : WX} {ω : List Md} {e : Expr} {es : List Expr} {cs : Gam → Mu → R (List D)} {f : Bool} {pos p : Pos} {x : Str}
theorem ev_fn {k : Nat} {ps : List Str} {G : List D → Mu → R D} (F : Fn X.prog X.w X.K X.mg X.base CX0 x k ps f G) (hr : Room k X.A) (ha : AV X H0 W ω (e :: es) cs) (hl : LenA cs ps.length) (hg : Gl X x := by rfl)
    (hdb : (x == ("__debug__" : Str)) = false := by decide) (he : starEach (e :: es) X.env = (false, eval e X.env) :: starEach es X.env := by rfl) (hpl : (backTo pos (starEach es X.env)).any (·.1) = false := by rfl) :
    EB f X H0 W ω (.Call (.Name x p) (e :: es) [] pos) (cCall G cs) := by
  obtain ⟨fa, fd, h1, h2, h3, h4⟩ := F.ex
  exact ev_call h4 hr h1 h2 h3 (fun σ => passes0 σ) ha hl hg hdb he hpl
/-- f() -/
def cCall0 (G : List D → Mu → R D) : EC := fun _ m => G [] m
theorem ev_fn0 {k : Nat} {G : List D → Mu → R D} (F : Fn X.prog X.w X.K X.mg X.base CX0 x k [] f G) (hr : Room k X.A) (hg : Gl X x := by rfl) (hdb : (x == ("__debug__" : Str)) = false := by decide) : EB f X H0 W ω (.Call (.Name x p) [] [] pos) (cCall0 G) := by
  obtain ⟨fa, fd, h1, h2, h3, h4⟩ := F.ex
  refine PE.imp (pe_call0 (E := E0) h4 hr hg h1 h2 h3 .nil pass0 hdb) fun σ H Q ⟨Γ, m, ρ, Hs, b, en, o⟩ => ⟨ρ, m, Hs, [], b, .nil, rfl, ?_⟩
  have o : OutB f X.K X.mg (fun cls dx H' => W cls dx σ H') (G [] m) ρ Hs H Q := o
  cases hc : G [] m with
  | bad => rw [hc] at o; exact o
  | exc c fs m' => exact fun cls dx ρ' Hs' H' t' b' e' => e'
  | ok d m' => rw [hc] at o; exact o
end
end Pv

end

section
set_option Elab.async false
set_option linter.all false
set_option maxRecDepth 100000
/-! Pv12: boxes made, enumerate, zip, two targets at once. -/
namespace Pv
open PySem L2 PySem.W PyProof.Rows PySem.SeqAt RZ

section
variable {X : Cx} {H0 : Hp} {W : WX} {ω : List Md} {tg e a b : Expr} {es : List Expr} {c ca cb : EC} {cs : Gam → Mu → R (List D)} {f : Bool} {pos p : Pos} {x : Str}
/-- a new list that will be held by reference -/
def cBox (c : EC) : EC := fun Γ m => (c Γ m).bind fun d m1 => match d with
  | .lst xs => .ok (.box m1.length) (m1 ++ [xs])
  | _ => .bad
theorem ev_box (h : EB true X H0 W ω e c) : EV X H0 W ω e (cBox c) := PE.imp h fun σ H Q ⟨Γ, m, ρ, Hs, b, en, o⟩ => ⟨Γ, m, ρ, Hs, b, en, by
  unfold cBox at o
  cases hc : c Γ m with
  | bad => rw [hc] at o; exact o
  | exc c fs m' => rw [hc] at o; exact o
  | ok d m1 =>
    rw [hc] at o
    intro a ρ' Hs' H' t b' o1 o2 o3 o4 o5
    cases o1 with
    | lst h r =>
      rename_i vs ds
      have o : Out X.K X.mg (Rep X.K) (fun cls dx H' => W cls dx σ H') (.ok (.box m1.length) (m1 ++ [ds])) ρ Hs H Q := o
      have pr : Pre ρ' (ρ' ++ [a]) := fun n q hn => by rw [List.getElem?_append_left (List.getElem?_eq_some_iff.mp hn).1]; exact hn
      refine o (.ref a) (ρ' ++ [a]) Hs' H' ⟨t.sub, t.new, t.pre.trans pr, fun z hz => ?_, t.dom, t.same⟩ ⟨b'.sub, fun n es hn => ?_, fun i j z hi hj => ?_, ?_⟩ (.box ?_)
      · rcases List.mem_append.mp hz with z1 | z1
        · exact t.bnew z z1
        · rw [List.mem_singleton.mp z1]; exact .inr o4
      · by_cases hl : n < m1.length
        · rw [List.getElem?_append_left hl] at hn
          obtain ⟨z, ws, q1, q2, q3, q4⟩ := b'.bx n es hn
          exact ⟨z, ws, pr _ _ q1, q2, q3, q4.mono pr (.refl _)⟩
        · rw [List.getElem?_append_right (by omega)] at hn
          have e0 : n - m1.length = 0 := by
            have := (List.getElem?_eq_some_iff.mp hn).1
            simp at this
            omega
          rw [e0] at hn
          cases hn
          have en : n = m1.length := by omega
          subst en
          refine ⟨a, vs, ?_, o2, h, r.mono pr (.refl _)⟩
          rw [← b'.len, List.getElem?_append_right (Nat.le_refl _), Nat.sub_self]
          rfl
      · have key : ∀ k : Nat, (ρ' ++ [a])[k]? = some z → (k < ρ'.length ∧ ρ'[k]? = some z) ∨ (k = ρ'.length ∧ z = a) := fun k hk => by
          by_cases hl : k < ρ'.length
          · rw [List.getElem?_append_left hl] at hk; exact .inl ⟨hl, hk⟩
          · rw [List.getElem?_append_right (by omega)] at hk
            have e0 : k - ρ'.length = 0 := by
              have := (List.getElem?_eq_some_iff.mp hk).1
              simp at this
              omega
            rw [e0] at hk
            cases hk
            exact .inr ⟨by omega, rfl⟩
        rcases key i hi with ⟨_, q1⟩ | ⟨q1, q2⟩ <;> rcases key j hj with ⟨_, w1⟩ | ⟨w1, w2⟩
        · exact b'.nd i j z q1 w1
        · subst w2; exact absurd (List.mem_of_getElem? q1) o3
        · subst q2; exact absurd (List.mem_of_getElem? w1) o3
        · omega
      · rw [List.length_append, List.length_append, b'.len]; rfl
      · rw [← b'.len, List.getElem?_append_right (Nat.le_refl _), Nat.sub_self]
        rfl⟩

/-! ### enumerate, zip -/
def enumI : Nat → List D → List D
  | _, [] => []
  | n, d :: ds => .tup [.int n, d] :: enumI (n + 1) ds
theorem enumI_length : ∀ (n : Nat) (ds : List D), (enumI n ds).length = ds.length
  | _, [] => rfl
  | n, d :: ds => by rw [enumI, List.length_cons, List.length_cons, enumI_length]
theorem enumI_get : ∀ (n : Nat) (ds : List D) (i : Nat) (d : D), ds[i]? = some d → (enumI n ds)[i]? = some (.tup [.int ((n + i : Nat) : Int), d])
  | n, [], _, _, h => by simp at h
  | n, d :: ds, 0, e, h => by simp at h; subst h; simp [enumI]
  | n, d :: ds, i + 1, e, h => by
    rw [enumI, List.getElem?_cons_succ, enumI_get (n + 1) ds i e (by simpa using h)]
    congr 4; omega
theorem walks_enum {K : PySem.W.Frag} {ρ : List Addr} {Hs : Hp} {a : Addr} {vs : List V} {ds : List D} (h : Hs a = some (.lst vs)) (r : RepAll K ρ Hs vs ds) : Walks K (Ite K a) ρ Hs (enumI 0 ds) where
  go ρ2 Hs2 m2 H i p s b hi := by
    rw [enumI_length, ← r.length] at hi
    exact ⟨vs, vs[i], .inl (.inl (b.sub _ _ (s _ _ h))), List.getElem?_eq_getElem hi⟩
  stop ρ2 Hs2 m2 H i p s b hi := ⟨vs, .inl (.inl (b.sub _ _ (s _ _ h))), by rw [r.length, ← enumI_length 0]; exact hi⟩
  yld ρ2 Hs2 m2 H i x H' p s b hi q := by
    obtain ⟨T, y, rfl, hT, rfl, q⟩ := q
    obtain ⟨d, h1, h2⟩ := r.get (q vs (.inl (.inl (b.sub _ _ (s _ _ h)))))
    refine ⟨_, upd Hs2 T _, enumI_get 0 ds i d h1, tr_new b.sub hT, b.new hT, .tup (.inl (.inl upd_same)) ?_⟩
    rw [Nat.zero_add]
    exact .cons (.int _) (.one ((h2.mono p s).mono (.refl _) (Sub.new (hs_none b.sub hT))))
def enD : D → Option (List D)
  | .lst xs => some (enumI 0 xs)
  | _ => none
def iEn (c : EC) : IC := fun Γ m => (c Γ m).bind fun d m1 => R.of (enD d) m1
theorem iv_enum {elts : List Expr} {kk : Nat} {tpos : Pos} (B : Bn X.mg) (h : EV X H0 W ω e c) (hg : Gl X "enumerate" := by rfl) (hs : starEach [e] X.env = [(false, eval e X.env)] := by rfl) : IV X H0 W ω (.Tuple elts kk tpos) (.Call (.Name "enumerate" p) [e] [] pos) (iEn c) :=
  PI.imp (pi_enum hg B.enum (pa_cons h pa_nil hs) hs) fun σ H Q ⟨Γ, m, ρ, Hs, b, en, o⟩ => ⟨Γ, m, ρ, Hs, b, en, Out.mono (Out.bind o) fun v H1 ⟨d, m1, ρ1, Hs1, t1, b1, r1, o1⟩ => by
    obtain ⟨xs, hi, o1⟩ := Out.ofV o1
    cases d <;> simp only [enD] at hi <;> try (cases hi; done)
    cases hi
    cases r1 with
    | lst h r => exact ⟨_, _, rfl, .inl (.inl (b1.sub _ _ h)), o1 _ ρ1 Hs1 H1 (.refl ..) b1 (walks_enum h r)⟩⟩
def zipI : List D → List D → List D
  | d :: ds, e :: es => .tup [d, e] :: zipI ds es
  | _, _ => []
theorem zipI_length : ∀ (ds es : List D), (zipI ds es).length = min ds.length es.length
  | [], _ => by simp [zipI]
  | _ :: _, [] => by simp [zipI]
  | d :: ds, e :: es => by rw [zipI, List.length_cons, List.length_cons, List.length_cons, zipI_length]; omega
theorem zipI_get : ∀ (ds es : List D) (i : Nat) (d e : D), ds[i]? = some d → es[i]? = some e → (zipI ds es)[i]? = some (.tup [d, e])
  | [], _, _, _, _, h, _ => by simp at h
  | _ :: _, [], _, _, _, _, h => by simp at h
  | d :: ds, e :: es, 0, _, _, h, h' => by simp at h h'; subst h h'; simp [zipI]
  | d :: ds, e :: es, i + 1, _, _, h, h' => by
    rw [zipI, List.getElem?_cons_succ]
    exact zipI_get ds es i _ _ (by simpa using h) (by simpa using h')
theorem walks_zipL {K : PySem.W.Frag} {ρ : List Addr} {Hs : Hp} {a b' : Addr} {vs ws : List V} {ds es : List D} (h : Hs a = some (.lst vs)) (r : RepAll K ρ Hs vs ds) (h' : Hs b' = some (.lst ws)) (r' : RepAll K ρ Hs ws es) : Walks K (Itz K a b') ρ Hs (zipI ds es) where
  go ρ2 Hs2 m2 H i p s b hi := by
    rw [zipI_length, ← r.length, ← r'.length] at hi
    exact ⟨vs, ws, vs[i]'(by omega), ws[i]'(by omega), .inl (.inl (b.sub _ _ (s _ _ h))), .inl (.inl (b.sub _ _ (s _ _ h'))), List.getElem?_eq_getElem (by omega), List.getElem?_eq_getElem (by omega)⟩
  stop ρ2 Hs2 m2 H i p s b hi := by
    rw [zipI_length, ← r.length, ← r'.length] at hi
    exact ⟨vs, ws, .inl (.inl (b.sub _ _ (s _ _ h))), .inl (.inl (b.sub _ _ (s _ _ h'))), by omega⟩
  yld ρ2 Hs2 m2 H i x H' p s b hi q := by
    obtain ⟨T, y, z, rfl, hT, rfl, q, q'⟩ := q
    obtain ⟨d, h1, h2⟩ := r.get (q vs (.inl (.inl (b.sub _ _ (s _ _ h)))))
    obtain ⟨d', h1', h2'⟩ := r'.get (q' ws (.inl (.inl (b.sub _ _ (s _ _ h')))))
    have sb := Sub.new (o := .tup [y, z]) (hs_none b.sub hT)
    exact ⟨_, upd Hs2 T _, zipI_get ds es i d d' h1 h1', tr_new b.sub hT, b.new hT, .tup (.inl (.inl upd_same)) (.cons ((h2.mono p s).mono (.refl _) sb) (.one ((h2'.mono p s).mono (.refl _) sb)))⟩
theorem walks_zipT {K : PySem.W.Frag} {ρ : List Addr} {Hs : Hp} {a b' : Addr} {vs ws : List V} {ds es : List D} (h : SqT K Hs a vs) (r : RepAll K ρ Hs vs ds) (h' : SqT K Hs b' ws) (r' : RepAll K ρ Hs ws es) : Walks K (ItzT K a b') ρ Hs (zipI ds es) where
  go ρ2 Hs2 m2 H i p s b hi := by
    rw [zipI_length, ← r.length, ← r'.length] at hi
    exact ⟨vs, ws, vs[i]'(by omega), ws[i]'(by omega), b.sub.t (s.t h), b.sub.t (s.t h'), List.getElem?_eq_getElem (by omega), List.getElem?_eq_getElem (by omega)⟩
  stop ρ2 Hs2 m2 H i p s b hi := by
    rw [zipI_length, ← r.length, ← r'.length] at hi
    exact ⟨vs, ws, b.sub.t (s.t h), b.sub.t (s.t h'), by omega⟩
  yld ρ2 Hs2 m2 H i x H' p s b hi q := by
    obtain ⟨T, y, z, rfl, hT, rfl, q, q'⟩ := q
    obtain ⟨d, h1, h2⟩ := r.get (q vs (b.sub.t (s.t h)))
    obtain ⟨d', h1', h2'⟩ := r'.get (q' ws (b.sub.t (s.t h')))
    have sb := Sub.new (o := .tup [y, z]) (hs_none b.sub hT)
    exact ⟨_, upd Hs2 T _, zipI_get ds es i d d' h1 h1', tr_new b.sub hT, b.new hT, .tup (.inl (.inl upd_same)) (.cons ((h2.mono p s).mono (.refl _) sb) (.one ((h2'.mono p s).mono (.refl _) sb)))⟩
def zipD : List D → Option (List D)
  | [.lst xs, .lst ys] => some (zipI xs ys)
  | [.tup xs, .tup ys] => some (zipI xs ys)
  | _ => none
def iZp (c : Gam → Mu → R (List D)) : IC := fun Γ m => (c Γ m).bind fun ds m1 => R.of (zipD ds) m1
theorem iv_zip {elts : List Expr} {kk : Nat} {tpos : Pos} (B : Bn X.mg) (h : AV X H0 W ω [a, b] cs) (hg : Gl X "zip" := by rfl) (hs : starEach [a, b] X.env = (false, eval a X.env) :: starEach [b] X.env := by rfl) (hpl : (backTo pos (starEach [b] X.env)).any (·.1) = false := by rfl) : IV X H0 W ω (.Tuple elts kk tpos) (.Call (.Name "zip" p) [a, b] [] pos) (iZp cs) :=
  PI.imp (pi_zipA hg B.zip h hs hpl) fun σ H Q ⟨Γ, m, ρ, Hs, b, en, o⟩ => ⟨Γ, m, ρ, Hs, b, en, Out.mono (Out.bind o) fun vs H1 ⟨ds, m1, ρ1, Hs1, t1, b1, r1, o1⟩ => by
    obtain ⟨xs, hi, o1⟩ := Out.ofV o1
    cases r1 with
    | nil => cases hi
    | cons h1 r1 => cases r1 with
      | nil => cases h1 <;> cases hi
      | cons h2 r1 => cases r1 with
        | cons _ _ => cases h1 <;> cases h2 <;> cases hi
        | nil =>
          cases h1 with
          | lst q1 q2 => cases h2 with
            | lst q3 q4 =>
              cases hi
              exact ⟨_, _, _, _, rfl, .inl ⟨.inl (.inl (b1.sub _ _ q1)), .inl (.inl (b1.sub _ _ q3)), o1 _ ρ1 Hs1 H1 (.refl ..) b1 (walks_zipL q1 q2 q3 q4)⟩⟩
            | _ => cases hi
          | tup q1 q2 => cases h2 with
            | tup q3 q4 =>
              cases hi
              exact ⟨_, _, _, _, rfl, .inr ⟨b1.sub.t q1, b1.sub.t q3, o1 _ ρ1 Hs1 H1 (.refl ..) b1 (walks_zipT q1 q2 q3 q4)⟩⟩
            | _ => cases hi
          | _ => cases hi⟩
end

section
variable {f : Bool} {X : Cx} {N : Ent} {W : WX} {ωx ω : List Md} {st : Stmt} {c1 c2 : EC}
def mdB (f : Bool) : Md := match f with
  | true => .ow
  | false => .sh
/-- a value, or a new list of one's own that came behind H -/
def VR (f : Bool) (K : PySem.W.Frag) (ρ : List Addr) (Hs H H' : Hp) (v : V) (d : D) : Prop := match f with
  | true => ∃ a, v = .ref a ∧ Own K ρ Hs H' a d ∧ Hs a = none ∧ a ∉ ρ ∧ H a = none ∧ H' a ≠ none
  | false => Rep K ρ Hs v d
theorem VR.mono {K : PySem.W.Frag} {ρ ρ' : List Addr} {Hs H H1 Hs' H' : Hp} {v : V} {d : D} (t : Tr ρ Hs H1 ρ' Hs' H') (h : VR f K ρ Hs H H1 v d) : VR f K ρ' Hs' H H' v d := by
  cases f with
  | false => exact Rep.mono t.pre t.sub h
  | true =>
    obtain ⟨a, e, h2, h3, h4, h5, h6⟩ := h
    refine ⟨a, e, h2.mono t h4, ?_, ?_, h5, fun z => h6 (t.dom a z)⟩
    · cases q : Hs' a with
      | none => rfl
      | some o =>
        rcases t.new a o q with z | z
        · rw [h3] at z; cases z
        · exact absurd z h6
    · intro q
      rcases t.bnew a q with z | z
      · exact h4 z
      · exact h6 z
/-- from a statement's wish to its expression's, the value a new list or not -/
theorem toS_outB {r : R D} {Γ : Gam} {k : D → Mu → SR} {dn : Ends} {ρ : List Addr} {Hs H : Hp} {σ : L2.St} {Q : VK} {g : Bool} {ω2 : List Md} (t : N.tr ρ Hs H) (en : En X.K N.H ω Γ ρ Hs H σ) (hx : MdLe ωx ω = true) (o : SOut f X N W ωx ω2 ρ Hs (toS r Γ k) dn)
    (h : ∀ d m v ρ' Hs' H', r = .ok d m → SOut f X N W ωx ω2 ρ Hs (k d m) dn → Tr ρ Hs H ρ' Hs' H' → Bs X.K ρ' m Hs' H' → VR g X.K ρ' Hs' H H' v d → Q v H') : OutB g X.K X.mg (fun cls dx H' => W cls dx σ H') r ρ Hs H Q := by
  cases r with
  | ok d m =>
    cases g with
    | false => exact fun v ρ' Hs' H' t' b' r' => h d m v ρ' Hs' H' rfl o t' b' r'
    | true => exact fun a ρ' Hs' H' t' b' o1 o2 o3 o4 o5 => h d m (.ref a) ρ' Hs' H' rfl o t' b' ⟨a, rfl, o1, o2, o3, o4, o5⟩
  | exc c fs m => exact fun cls dx ρ' Hs' H' t' b' e' => o cls dx σ ρ' Hs' H' (t.trans t') b' ((en.weak hx).mono t') e'
  | bad => exact o
/-- slots whose own lists all stood in H -/
theorem En.setB {K : PySem.W.Frag} {H0 : Hp} {Γ : Gam} {ρ : List Addr} {Hs H H' : Hp} {σ : L2.St} {i : Nat} {v : V} {d : D} {g : Bool} (e : En K H0 ω Γ ρ Hs H' σ) (hi : i < ω.length) (r : VR g K ρ Hs H H' v d) (h0 : ∀ a, H a = none → H0 a = none) (hne : g = true → ∀ (j : Nat) a, ω[j]? = some Md.ow → σ[j]? = some (some (V.ref a)) → H a ≠ none) : En K H0 (ω.set i (mdB g)) (Γ.set i d) ρ Hs H' (σ.set i (some v)) := by
  cases g with
  | false => exact e.setSh hi r
  | true =>
    obtain ⟨a, rfl, o1, o2, o3, o4, o5⟩ := r
    exact e.setOw hi o1 o2 o3 (h0 a o4) o5 fun j hj z => hne rfl j a hj z o4
def sPar (i j : Nat) (c1 c2 : EC) : SC := fun Γ m => toS (c1 Γ m) Γ fun d m1 => toS (c2 Γ m1) Γ fun e m2 => .nx ((Γ.set i d).set j e) m2
theorem En.owIn {K : PySem.W.Frag} {H0 : Hp} {Γ : Gam} {ρ : List Addr} {Hs H : Hp} {σ : L2.St} (e : En K H0 ω Γ ρ Hs H σ) (j : Nat) (a : Addr) (hj : ω[j]? = some Md.ow) (hs : σ[j]? = some (some (V.ref a))) : H a ≠ none := by
  obtain ⟨b, q1, _, _, _, _, q6⟩ := e.ow j hj
  rw [q1] at hs
  cases hs
  exact q6
/-- x, y = e1, e2 -/
theorem sv_par (i j : Nat) (g1 g2 : Bool) (hp : PS X st (tPar i j (tCons (cEB g1 X N.H W ω c1) (tCons (cEB g2 X N.H W ω c2) tNil)))) (hij : i ≠ j := by decide) (hx : MdLe ωx ω = true := by rfl) (hi : i < ω.length := by decide) (hj : j < ω.length := by decide) :
    SV f X N W ωx ω st (sPar i j c1 c2) ((ω.set i (mdB g1)).set j (mdB g2)) :=
  PS.imp hp fun dn σ H ⟨Γ, m, ρ, Hs, t, b, en, o⟩ => by
    refine ⟨Γ, m, ρ, Hs, b, en, toS_outB t en hx o fun d m1 v ρ1 Hs1 H1 hq1 o1 t1 b1 r1 => ?_⟩
    refine ⟨Γ, m1, ρ1, Hs1, b1, en.mono t1, toS_outB (t.trans t1) (en.mono t1) hx (SOut.fwd t1.pre t1.sub o1) fun d2 m2 v2 ρ2 Hs2 H2 hq2 o2 t2 b2 r2 => ⟨v, v2, rfl, ?_⟩⟩
    have t12 := t1.trans t2
    have e1 := (en.mono t12).setB (g := g1) hi (r1.mono t2) (fun a h => t.dom a h) fun _ k a hk hs => en.owIn k a hk hs
    have e2 := e1.setB (g := g2) (H := H1) (by rw [List.length_set]; exact hj) r2 (fun a h => t.dom a (t1.dom a h)) fun _ k a hk hs => by
      by_cases z : i = k
      · subst z
        rw [List.getElem?_set_self (by rw [← en.wl]; exact hi)] at hs
        rw [List.getElem?_set_self hi] at hk
        cases hs
        cases g1 with
        | false => cases hk
        | true =>
          obtain ⟨a', q, _, _, _, _, q6⟩ := r1
          cases q
          exact q6
      · rw [List.getElem?_set_ne z] at hs hk
        exact fun h => en.owIn k a hk hs (t1.dom a h)
    exact o2 _ ρ2 Hs2 H2 ⟨t.trans t12, t2.pre, t2.sub⟩ b2 e2
end
end Pv
namespace Pv
open PySem L2 PySem.W PyProof.Rows PySem.SeqAt
/-! ### the slots of a comprehension -/
def wipeM (ω : List Md) : List Nat → List Md
  | [] => ω
  | v :: vs => (wipeM ω vs).set v .un
theorem wipeM_len (ω : List Md) : ∀ vs, (wipeM ω vs).length = ω.length
  | [] => rfl
  | v :: vs => by rw [wipeM, List.length_set, wipeM_len ω vs]
theorem mdLe_of {ω2 ω : List Md} (hl : ω2.length = ω.length) (h : ∀ (i : Nat) k, ω2[i]? = some k → k = .un ∨ ω[i]? = some k) : MdLe ω2 ω = true := by
  unfold MdLe
  rw [Bool.and_eq_true, beq_iff_eq, List.all_eq_true]
  refine ⟨hl, fun p hp => ?_⟩
  obtain ⟨i, hi⟩ := List.mem_iff_getElem?.mp hp
  rw [List.getElem?_zip_eq_some] at hi
  rw [Bool.or_eq_true, beq_iff_eq, beq_iff_eq]
  rcases h i p.1 hi.1 with z | z
  · exact .inl z
  · rw [hi.2] at z; exact .inr (Option.some.inj z).symm
theorem wipeM_le (ω : List Md) : ∀ vs, MdLe (wipeM ω vs) ω = true := fun vs => mdLe_of (wipeM_len ω vs) fun i k h => by
  induction vs with
  | nil => exact .inr h
  | cons v vs ih =>
    unfold wipeM at h
    by_cases z : v = i
    · subst z
      by_cases hl : v < (wipeM ω vs).length
      · rw [List.getElem?_set_self hl] at h; cases h; exact .inl rfl
      · rw [List.getElem?_eq_none (by rw [List.length_set]; omega)] at h; cases h
    · rw [List.getElem?_set_ne z] at h
      exact ih h
theorem wipeM_un (ω : List Md) : ∀ (vs : List Nat) (i : Nat), i ∈ vs → (wipeM ω vs)[i]? = some .un ∨ (wipeM ω vs)[i]? = none
  | v :: vs, i, h => by
    unfold wipeM
    by_cases z : v = i
    · subst z
      by_cases hl : v < (wipeM ω vs).length
      · exact .inl (List.getElem?_set_self hl)
      · exact .inr (List.getElem?_eq_none (by rw [List.length_set]; omega))
    · rw [List.getElem?_set_ne z]
      rcases List.mem_cons.mp h with q | q
      · exact absurd q.symm z
      · exact wipeM_un ω vs i q
section
variable {f : Bool} {X : Cx} {H0 : Hp} {N : Ent} {W : WX} {ωx ω ωt : List Md} {is : List Nat} {tg iter elt : Expr} {ifs : List Expr} {ci : IC} {ct : GC} {tt : TC} {ce : EC} {pos : Pos}
theorem ev_lcM {scope : Scope} (own : List (Str × Nat)) (hc : X.calm = true) (hN : X.N.Nodup) (hi : IV X H0 W ω tg iter ci) (ok : BlkOk X.N X.env.scope scope own)
    (hg : ∀ s H C cl fp, GV (Cx.bl X s H scope C cl fp) H0 is (wipeM ω (own.map (·.2))) tg ct ωt) (ht : ∀ s H C cl fp, PTs (Cx.bl X s H scope C cl fp) ifs (cT X H0 Wn ωt tt)) (he : ∀ s H C cl fp, EV (Cx.bl X s H scope C cl fp) H0 Wn ωt elt ce)
    (his : ∀ i ∈ is, i ∈ own.map (·.2) := by decide) (hs : ∀ x, foldedSetIterable iter X.env x = pure x := by intro _; rfl) :
    EB f X H0 W ω (.ListComp elt [⟨tg, iter, ifs, 0⟩] scope pos) (cLc ci ct tt ce) := ev_lc hc hN hi ok hg ht he (wipeM_le ω _) (fun i h => wipeM_un ω _ i h) his hs
theorem sv_setLcM (i : Nat) {y : Str} {py spos : Pos} {scope : Scope} (own : List (Str × Nat)) (hc : X.calm = true) (hN : X.N.Nodup) (hi : IV X N.H W ω tg iter ci) (ok : BlkOk X.N X.env.scope scope own)
    (hg : ∀ s H C cl fp, GV (Cx.bl X s H scope C cl fp) N.H is (wipeM ω (own.map (·.2))) tg ct ωt) (ht : ∀ s H C cl fp, PTs (Cx.bl X s H scope C cl fp) ifs (cT X N.H Wn ωt tt)) (he : ∀ s H C cl fp, EV (Cx.bl X s H scope C cl fp) N.H Wn ωt elt ce)
    (hsw : swapsWith (.ListComp elt [⟨tg, iter, ifs, 0⟩] scope pos) (some (.Name y py)) spos.line X.env = pure true) (his : ∀ i ∈ is, i ∈ own.map (·.2) := by decide) (hx : MdLe ωx ω = true := by rfl) (hwi : i < ω.length := by decide) (hy : X.N[i]? = some y := by rfl) (hyl : X.env.scope.names.lookup y = some .local := by rfl) (hs : ∀ x, foldedSetIterable iter X.env x = pure x := by intro _; rfl) :
    SV f X N W ωx ω (.Assign [.Name y py] (.ListComp elt [⟨tg, iter, ifs, 0⟩] scope pos) spos) (sSet i (cLc ci ct tt ce)) (ω.set i .ow) := sv_setLc i hc hN hi ok hg ht he (wipeM_le ω _) (fun i h => wipeM_un ω _ i h) his hsw hx hwi hy hyl hs
end
/-- a def that promises nothing -/
theorem fn_none {P : Program} {w : World} {K : PySem.W.Frag} {mg : Str → Option Value} {base : Heap} {CX : CXT} {k : Nat} {fa : Addr} {fd : FuncData} {ps : List Str} {f : Bool} : FnOk P w K mg base CX k fa fd ps (spD K mg f ps.length fun _ _ => .bad) :=
  ⟨fun vs H Q E ⟨_, _, _, _, _, _, _, o⟩ => o.elim, fun A outer s H args us vs Q E _ _ _ _ ⟨_, _, _, _, _, _, _, o⟩ => o.elim⟩
end Pv
namespace Pv
open PySem L2 PySem.W PyProof.Rows PySem.SeqAt
section
variable {f : Bool} {X : Cx} {N : Ent} {W : WX} {ωx ω ω2 : List Md} {st : Stmt} {a : SC} {pos : Pos}
/-- return x, x a list of one's own -/
theorem sv_retOwn (i : Nat) {x : Str} {p : Pos} (hi : ω[i]? = some .ow := by rfl) (hN : X.N[i]? = some x := by rfl) (hv : Vis X.env.scope x := by first | exact Or.inl rfl | exact Or.inr (Or.inl rfl) | exact Or.inr (Or.inr rfl)) (hd : (x == ("__debug__" : Str)) = false := by decide)
    (hcd : (x == ("__classdict__" : Str)) = false := by decide) : SV true X N W ωx ω (.Return (some (.Name x p)) pos) (sRet (cVar i)) ω2 :=
  PS.imp (ps_ret (pe_var hN hv hd hcd)) fun dn σ H ⟨Γ, m, ρ, Hs, t, b, en, o⟩ => by
    obtain ⟨a, h1, h2, h3, h4, h5, h6⟩ := en.ow i hi
    exact ⟨.ref a, h1, o a ρ Hs H t b h2 h3 h4 h5 h6⟩
/-- behind the statement the list in slot i is a value -/
theorem SV.frzA (i : Nat) (h : SV f X N W ωx ω st a ω2) (hi : ω2[i]? = some .ow := by rfl) : SV f X N W ωx ω st a (ω2.set i .sh) := PS.imp h fun dn σ H ⟨Γ, m, ρ, Hs, t, b, en, o⟩ => ⟨Γ, m, ρ, Hs, t, b, en, by
  cases hc : a Γ m with
  | nx Γ' m' =>
    rw [hc] at o
    intro σ' ρ' Hs' H' t' b' en'
    obtain ⟨Hs2, t2, s2, b2, en2⟩ := En.frz t'.1 b' en' hi
    exact o σ' ρ' Hs2 H' ⟨t2, t'.2.1, t'.2.2.trans s2⟩ b2 en2
  | rt d m' => rw [hc] at o; exact o
  | exc c fs Γ' m' => rw [hc] at o; exact o
  | bad => rw [hc] at o; exact o⟩
end
end Pv

end

section
set_option Elab.async false
set_option linter.all false
set_option maxRecDepth 100000
/-! Pv13: calls by keywords; the sum of a tuple. -/
namespace Pv
open PySem L2 PySem.W PyProof.Rows PySem.SeqAt

/-! ### f(k = v, ..) -/
def cK (X : Cx) (H0 : Hp) (W : WX) (ω : List Md) (c : Gam → Mu → R (List D)) : TA := cA X H0 W ω c
abbrev KV (X : Cx) (H0 : Hp) (W : WX) (ω : List Md) (kws : List Keyword) (c : Gam → Mu → R (List D)) : Prop := PK X kws (cA X H0 W ω c)
theorem PK.imp {X : Cx} {kws : List Keyword} {t t' : TA} (h : PK X kws t) (q : ∀ σ H Q, t' σ H Q → t σ H Q) : PK X kws t' := ⟨fun pos pins s σ H Q I z => h.run pos pins s σ H Q I (q _ _ _ z)⟩
section
variable {X : Cx} {H0 : Hp} {W : WX} {ω : List Md} {e a : Expr} {c ca : EC} {cs : Gam → Mu → R (List D)} {f : Bool} {pos p kpos : Pos} {x : Str} {kws : List Keyword} {nm : Option Str}
theorem kv_nil : KV X H0 W ω [] aNil := PK.imp pk_nil fun σ H Q ⟨Γ, m, ρ, Hs, b, en, o⟩ => o [] ρ Hs H (.refl ..) b .nil
theorem kv_cons (ha : EV X H0 W ω a ca) (hs : KV X H0 W ω kws cs) : KV X H0 W ω (⟨nm, a, kpos⟩ :: kws) (aCons ca cs) :=
  PK.imp (pk_cons ha hs) fun σ H Q ⟨Γ, m, ρ, Hs, b, en, o⟩ => ⟨Γ, m, ρ, Hs, b, en, Out.mono (Out.bind o) fun v H1 ⟨d, m1, ρ1, Hs1, t1, b1, r1, o1⟩ =>
    ⟨Γ, m1, ρ1, Hs1, b1, en.mono t1, Out.mono (Out.bind o1) fun vs H2 ⟨ds, m2, ρ2, Hs2, t2, b2, r2, o2⟩ => o2 _ ρ2 Hs2 H2 (.refl ..) b2 (.cons (r1.mono t2.pre t2.sub) r2)⟩⟩
/-- items by their places -/
def permL {α : Type} (is : List Nat) (xs : List α) : List α := is.filterMap fun i => xs[i]?
theorem permL_vals {is : List Nat} {xs : List V} {us : List Value} (r : Vals xs us) : Vals (permL is xs) (permL is us) := by
  induction is with
  | nil => exact .nil
  | cons i is ih =>
    unfold permL at ih ⊢
    cases hx : xs[i]? with
    | none => rw [List.filterMap_cons_none hx, List.filterMap_cons_none (r.none_of hx)]; exact ih
    | some v =>
      obtain ⟨u, hu, rv⟩ := r.get hx
      rw [List.filterMap_cons_some hx, List.filterMap_cons_some hu]
      exact .cons rv ih
theorem permL_rep {K : PySem.W.Frag} {ρ : List Addr} {H : Hp} {is : List Nat} {vs : List V} {ds : List D} (r : RepAll K ρ H vs ds) : RepAll K ρ H (permL is vs) (permL is ds) := by
  induction is with
  | nil => exact .nil
  | cons i is ih =>
    unfold permL at ih ⊢
    cases hx : vs[i]? with
    | none =>
      have hy : ds[i]? = none := by rw [List.getElem?_eq_none_iff] at hx ⊢; rw [← r.length]; exact hx
      rw [List.filterMap_cons_none hx, List.filterMap_cons_none hy]; exact ih
    | some v =>
      obtain ⟨d, hd, rv⟩ := r.get hx
      rw [List.filterMap_cons_some hx, List.filterMap_cons_some hd]
      exact .cons rv ih
/-- how the keywords' values come to the parameters -/
structure KPer (K : PySem.W.Frag) (fd : FuncData) (ps ks : List Str) (is : List Nat) : Prop where
  to : ∀ (s : Shared) (ws : List Value), ws.length = ps.length → BindsTo s fd ⟨[], ks.zip ws⟩ (ps.zip (permL is ws))
/-- a def called by keywords alone -/
structure FnK (P : Program) (w : World) (K : PySem.W.Frag) (mg : Str → Option Value) (base : Heap) (CX : CXT) (x : Str) (k : Nat) (ps ks : List Str) (is : List Nat) (f : Bool) (G : List D → Mu → R D) : Prop where
  ex : ∃ fa fd, mg x = some (.ref fa) ∧ PySem.W.keepIn K (.ref fa) = true ∧ KPer K fd ps ks is ∧ FnOk P w K mg base CX k fa fd ps (spD K mg f ps.length G)
def cCallK (is : List Nat) (G : List D → Mu → R D) (cs : Gam → Mu → R (List D)) : EC := fun Γ m => (cs Γ m).bind fun ds m1 => G (permL is ds) m1
theorem ev_fnK {k : Nat} {ps ks : List Str} {is : List Nat} {G : List D → Mu → R D} (F : FnK X.prog X.w X.K X.mg X.base CX0 x k ps ks is f G) (hr : Room k X.A) (ha : KV X H0 W ω kws cs) (hl : LenA cs ps.length) (hp : ∀ ws : List D, ws.length = ps.length → (permL is ws).length = ps.length) (hg : Gl X x := by rfl)
    (hall : (backToKw pos (keywordEach kws X.env)).all (·.1.isSome) = true := by rfl) (hks : (backToKw pos (keywordEach kws X.env)).filterMap (·.1) = ks := by rfl)
    (hpl : ((backTo pos (starEach [] X.env)).any (·.1) || (backToKw pos (keywordEach kws X.env)).any (·.1.isNone)) = false := by rfl) (hdb : (x == ("__debug__" : Str)) = false := by decide) :
    EB f X H0 W ω (.Call (.Name x p) [] kws pos) (cCallK is G cs) := by
  obtain ⟨fa, fd, h1, h2, h3, h4⟩ := F.ex
  refine ⟨fun pins s σ H Q I ⟨Γ, m, ρ, Hs, b, en, o⟩ => ?_⟩
  refine wpAny_Call_Name_kw (ld_glob I hg h1 ?_ hdb)
  unfold cCallK at o
  cases hc : cs Γ m with
  | bad => rw [hc] at o; exact o.elim
  | exc c fs m' =>
    rw [hc] at o
    refine PySem.W.callWith_KW0 (h₀ := X.base) I.ok.mod.kin h2 hall (thn (ha.run pos pins s σ H (fun _ _ => False) I ⟨Γ, m, ρ, Hs, b, en, ?_⟩) fun us s1 ⟨vs, H1, I1, r, q⟩ => q.elim) hpl
    rw [hc]
    exact o
  | ok ds m1 =>
    rw [hc] at o
    have o : OutB f X.K X.mg (fun cls dx H' => W cls dx σ H') (G (permL is ds) m1) ρ Hs H Q := o
    refine PySem.W.callWith_KW0 (h₀ := X.base) I.ok.mod.kin h2 hall (thn (ha.run pos pins s σ H (fun zs H2 => zs.length = ps.length ∧ spD X.K X.mg f ps.length G (permL is zs) H2 Q E0) I ⟨Γ, m, ρ, Hs, b, en, ?_⟩) fun ws s1 ⟨zs, H1, I1, r, hz, q⟩ => ⟨I1.kIn, ?_⟩) hpl
    · rw [hc]
      intro vs ρ1 Hs1 H1 t1 b1 r1
      refine ⟨r1.length.trans (hl _ _ _ _ hc), ρ1, m1, Hs1, permL is ds, b1, permL_rep r1, hp ds (hl _ _ _ _ hc), ?_⟩
      have o' := OutB.tr t1 o
      cases hG : G (permL is ds) m1 with
      | bad => rw [hG] at o'; exact o'
      | exc c fs m' => exact fun cls dx ρ' Hs' H' t' b' e' => e'
      | ok d m' => rw [hG] at o'; exact o'
    · rw [hks]
      have hw : ws.length = ps.length := r.length.symm.trans hz
      refine wpAny_call (codeAny_mono (h4.run X.A X.stack s1 H1 ⟨[], ks.zip ws⟩ (permL is ws) (permL is zs) Q E0 hr I1.env0 (h3.to s1 ws hw) (permL_vals r) q) fun r s' hq => ?_)
      cases r with
      | error e => exact (show False from hq).elim
      | ok fl =>
        cases fl with
        | ret u => exact I1.after hq
        | next => exact False.elim hq
        | brk => exact False.elim hq
        | cont => exact False.elim hq
end
/-- the facts of a def from its function object -/
theorem fn_of' {P : Program} {w : World} {K : PySem.W.Frag} {mg : Str → Option Value} {base : Heap} {CX : CXT} {x : Str} {st : Stmt} {fa : Addr} {fd : FuncData} {k : Nat} {ps : List Str} {f : Bool} {G : List D → Mu → R D} (F : FnP K x st fa fd) (hm : mg x = some (.ref fa))
    (h : ∀ (kV doc pm : Value) (an : Option Addr) (cdv ct : Value) (us : List Value), us.length = ps.length → bindArgs (PySem.W.fnOf x x (defArgs st) (defBody st) (defScope st) .none kV doc pm an cdv ct) ⟨us, []⟩ = pure (ps.zip us))
    (o : Binds K fd ps [] → FnOk P w K mg base CX k fa fd ps (spD K mg f ps.length G)) : Fn P w K mg base CX x k ps f G := by
  have hb : Binds K fd ps [] := FunD.bindsN F h
  exact ⟨fa, fd, hm, F.kp, hb, o hb⟩
theorem fnK_of {P : Program} {w : World} {K : PySem.W.Frag} {mg : Str → Option Value} {base : Heap} {CX : CXT} {x : Str} {st : Stmt} {fa : Addr} {fd : FuncData} {k : Nat} {ps ks : List Str} {is : List Nat} {f : Bool} {G : List D → Mu → R D} (F : FnP K x st fa fd) (hm : mg x = some (.ref fa))
    (h : ∀ (kV doc pm : Value) (an : Option Addr) (cdv ct : Value) (ws : List Value), ws.length = ps.length → bindArgs (PySem.W.fnOf x x (defArgs st) (defBody st) (defScope st) .none kV doc pm an cdv ct) ⟨[], ks.zip ws⟩ = pure (ps.zip (permL is ws)))
    (o : FnOk P w K mg base CX k fa fd ps (spD K mg f ps.length G)) : FnK P w K mg base CX x k ps ks is f G := by
  refine ⟨fa, fd, hm, F.kp, ⟨fun s ws hl => ?_⟩, o⟩
  obtain ⟨oc, od, dV, kV, doc, pm, an, cdv, ct, osl, rfl, lk, hcd, hD, hK⟩ := F.ex
  rcases hD with ⟨_, rfl⟩ | ⟨e, _⟩
  · exact .of_eq (h kV doc pm an cdv ct ws hl)
  · exact absurd rfl e

/-! ### sum(t) -/
section
variable {X : Cx}
theorem sum_tup {prog : Program} {w : World} {A : Around} {E : Value → Shared → Prop} {s : Shared} {t : Addr} {its : List Value} {ns : List Int} {Q : Value → Shared → Prop} (hh : A.handled = none) (ht : s.heap.IsTuple t its.toArray) (hi : IntsAre its ns)
    (h : ∀ h' tk t', (∀ b o, s.heap.get? b = some o → h'.get? b = some o) → Q (.int ns.sum t') { s with heap := h', toks := tk }) : wpAny (model prog w) A (call (.builtin "sum") [.ref t]) Q E s := by
  obtain ⟨xs, e⟩ := hi.allInts.items
  have hn : numsOf (intItems xs).toList = ns := by rw [← e]; exact hi.numsOf
  rw [nums_intItems] at hn
  rw [e] at ht
  have hlt : t < s.heap.objs.size := by obtain ⟨_, q, _⟩ := ht; exact Heap.lt_size q
  refine call_sum_walkG (wpAny_pyIter_tuple ht ?_)
  refine ⟨_, [_, t], [_], _, _, _, numAt xs, rfl, Walks.tuple (A := A.in1) hh s.heap.objs.size t (Nat.ne_of_lt hlt) (intItems xs), ⟨⟨_, Heap.get?_push_size _ rfl, rfl, rfl⟩, ht.push _⟩, fun b hb => ?_, fun _ _ => intItems_at, fun h' tk t' hk => ?_⟩
  · rw [Heap.size_push]
    rcases List.mem_cons.mp hb with z | z
    · rw [z]; exact Nat.lt_succ_self _
    · rw [List.mem_singleton.mp z]; exact Nat.lt_succ_of_lt hlt
  · have hold : ∀ b o, s.heap.get? b = some o → h'.get? b = some o := fun b o q => by
      refine hk b o (fun z => ?_) (Heap.get?_push_of_some _ q)
      rw [List.mem_singleton.mp z] at q
      exact absurd (Heap.lt_size q) (Nat.lt_irrefl _)
    have := h h' tk t' hold
    have hz : (intItems xs).size = xs.size := by simp [intItems]
    rw [hz, preSum_eq, List.take_of_length_le (by simp), hn]
    exact this
theorem cr_sumT (hc : X.calm = true) : CallR X (.builtin "sum") fun vs H Q => ∃ (a : Addr) (ns : List Int), vs = [V.ref a] ∧ SqT X.K H a (ns.map V.int) ∧ Q (.int ns.sum) H := by
  intro pins s σ H xs us Q I r ⟨a, ns, e, hs, q⟩
  subst e
  obtain ⟨u, rfl, ru⟩ := vals1 r
  cases ru
  obtain ⟨its, rv, pl, hz⟩ := I.tuple hs
  exact sum_tup (I.ok.hd hc) pl (intsAre_of rv) fun h' tk t' hk => ⟨.int _, H, I.kept (t' := tk) hk, ⟨_, rfl⟩, q⟩
def sumD' : Mu → D → Option D
  | _, .lst xs => (intsOf xs).map fun bs => .int bs.sum
  | _, .tup xs => (intsOf xs).map fun bs => .int bs.sum
  | _, _ => none
theorem CallR.or {f : Value} {r r' : List V → Hp → VK → Prop} (h : CallR X f r) (h' : CallR X f r') : CallR X f fun xs H Q => r xs H Q ∨ r' xs H Q := fun pins s σ H xs us Q I rv z => z.elim (h pins s σ H xs us Q I rv) (h' pins s σ H xs us Q I rv)
theorem ev_sum' {H0 : Hp} {W : WX} {ω : List Md} {a : Expr} {ca : EC} {p pos : Pos} (B : Bn X.mg) (hc : X.calm = true) (ha : BV X H0 W ω a ca) (hg : Gl X "sum" := by rfl) (he : starEach [a] X.env = [(false, eval a X.env)] := by rfl) : EV X H0 W ω (.Call (.Name "sum" p) [a] [] pos) (c1 sumD' ca) :=
  EB.ev (ev_callB (CallR.or (cr_sum hc) (cr_sumT hc)) (fun x H Q W ρ m Hs d z b hx hg o => by
    cases d <;> simp only [sumD'] at hg <;> try (cases hg; done)
    case lst ds =>
      obtain ⟨bs, hb, rfl⟩ := Option.map_eq_some_iff.mp hg
      obtain ⟨a, vs, rfl, h1, h2⟩ := hx.items b
      rw [intsOf_eq hb] at h2
      rw [h2.ints'] at h1
      exact .inl ⟨a, bs, rfl, .inl (.inl h1), o.val b (.int _)⟩
    case tup ds =>
      obtain ⟨bs, hb, rfl⟩ := Option.map_eq_some_iff.mp hg
      obtain ⟨a, vs, rfl, h1, h2, _⟩ := hx.itemsT b
      rw [intsOf_eq hb] at h2
      rw [h2.ints'] at h1
      exact .inr ⟨a, bs, rfl, h1, o.val b (.int _)⟩) hg B.sum (by decide +kernel) ha (by decide) (by decide) he)
end
end Pv

end

section
set_option Elab.async false
set_option linter.all false
set_option maxRecDepth 100000
/-! Pv14: a value taken apart into several names; several names at once. -/
namespace Pv
open PySem L2 PySem.W PyProof.Rows PySem.SeqAt
section
variable {f : Bool} {X : Cx} {N : Ent} {W : WX} {ωx ω ω' : List Md} {st : Stmt} {tg e : Expr} {c : EC} {ct : GC} {is : List Nat} {pos : Pos}
/-- target = value -/
def sAsg (c : EC) (ct : GC) : SC := fun Γ m => toS (c Γ m) Γ fun d m' => match ct d Γ with
  | some Γ' => .nx Γ' m'
  | none => .bad
theorem sv_asg (he : EV X N.H W ω e c) (hg : GV X N.H is ω tg ct ω') (hx : MdLe ωx ω = true := by rfl) (hs : swapsWithSole [tg] e pos.line X.env = pure false := by rfl) (hw : swappedStores [tg] e X.env = pure none := by rfl)
    (h1 : (assignEach [tg] X.env).map (·.2) = [assign tg X.env] := by rfl) : SV f X N W ωx ω (.Assign [tg] e pos) (sAsg c ct) ω' :=
  PS.imp (ps_asg he hg hs hw h1) fun dn σ H ⟨Γ, m, ρ, Hs, t, b, en, o⟩ => ⟨Γ, m, ρ, Hs, b, en, toS_out t en hx o fun d m' v ρ' Hs' H' _ o' t' b' r' => by
    cases hq : ct d Γ with
    | none => rw [hq] at o'; exact o'.elim
    | some Γ' =>
      rw [hq] at o'
      exact ⟨Γ, m', ρ', Hs', d, Γ', b', en.mono t', r', hq, fun σ' _ en' => o' σ' ρ' Hs' H' (.mk t t') b' en'⟩⟩

/-! several names at once: each value is one's own new list or a value -/
def setAll {α : Type} : List α → List Nat → List α → List α
  | xs, i :: is, d :: ds => setAll (xs.set i d) is ds
  | xs, _, _ => xs
def sParN (is : List Nat) (cs : Gam → Mu → R (List D)) : SC := fun Γ m => toSL (cs Γ m) Γ fun ds m' => .nx (setAll Γ is ds) m'
/-- the values, one behind the other -/
def cAB (X : Cx) (H0 : Hp) (W : WX) (ω : List Md) : List (Bool × EC) → TA
  | [] => tNil
  | (g, c) :: r => tCons (cEB g X H0 W ω c) (cAB X H0 W ω r)
def cAll : List (Bool × EC) → Gam → Mu → R (List D)
  | [] => aNil
  | (_, c) :: r => aCons c (cAll r)
theorem parN_go : ∀ (l : List (Bool × EC)) (is : List Nat) {Γ Γk : Gam} {σ σk : L2.St} {m : Mu} {ρ : List Addr} {Hs H : Hp} {ωk : List Md} {dn : Ends} {Q : List V → Hp → Prop}, l.length = is.length → (∀ i ∈ is, i < ωk.length) → N.tr ρ Hs H → Bs X.K ρ m Hs H → En X.K N.H ω Γ ρ Hs H σ → En X.K N.H ωk Γk ρ Hs H σk → MdLe ωx ω = true →
    SOut f X N W ωx (setAll ωk is (l.map fun p => mdB p.1)) ρ Hs (toSL (cAll l Γ m) Γ fun ds m' => .nx (setAll Γk is ds) m') dn → (∀ vs ρ' m' Γ' Hs' H', vs.length = is.length → Fwd N ρ Hs ρ' Hs' H' → Bs X.K ρ' m' Hs' H' → En X.K N.H (setAll ωk is (l.map fun p => mdB p.1)) Γ' ρ' Hs' H' (setAll σk is (vs.map some)) → SOut f X N W ωx (setAll ωk is (l.map fun p => mdB p.1)) ρ' Hs' (.nx Γ' m') dn → Q vs H') → cAB X N.H W ω l σ H Q
  | [], [], Γ, Γk, σ, σk, m, ρ, Hs, H, ωk, dn, Q, _, _, t, b, en, ek, hx, o, q => q [] ρ m Γk Hs H rfl (.same t) b ek o
  | [], _ :: _, _, _, _, _, _, _, _, _, _, _, _, h, _, _, _, _, _, _, _, _ => by cases h
  | _ :: _, [], _, _, _, _, _, _, _, _, _, _, _, h, _, _, _, _, _, _, _, _ => by cases h
  | (g, c) :: l, i :: is, Γ, Γk, σ, σk, m, ρ, Hs, H, ωk, dn, Q, hl, hi, t, b, en, ek, hx, o, q => by
    refine ⟨Γ, m, ρ, Hs, b, en, ?_⟩
    have o : SOut f X N W ωx (setAll ωk (i :: is) (mdB g :: l.map fun p => mdB p.1)) ρ Hs (toSL ((c Γ m).bind fun d m1 => (cAll l Γ m1).bind fun ds m2 => .ok (d :: ds) m2) Γ fun ds m' => .nx (setAll Γk (i :: is) ds) m') dn := o
    have e : toSL ((c Γ m).bind fun d m1 => (cAll l Γ m1).bind fun ds m2 => .ok (d :: ds) m2) Γ (fun ds m' => .nx (setAll Γk (i :: is) ds) m') = toS (c Γ m) Γ fun d m1 => toSL (cAll l Γ m1) Γ fun ds m' => .nx (setAll (Γk.set i d) is ds) m' := by
      cases c Γ m with
      | ok d m1 => show toSL ((cAll l Γ m1).bind _) Γ _ = toSL (cAll l Γ m1) Γ _; cases cAll l Γ m1 <;> rfl
      | exc _ _ _ => rfl
      | bad => rfl
    rw [e] at o
    refine toS_outB t en hx o fun d m1 v ρ1 Hs1 H1 hq1 o1 t1 b1 r1 => ?_
    have e1 := (ek.mono t1).setB (g := g) (hi i List.mem_cons_self) r1 (fun a h => t.dom a h) fun _ k a hk hs => ek.owIn k a hk hs
    refine parN_go l is (Γk := Γk.set i d) (σk := σk.set i (some v)) (ωk := ωk.set i (mdB g)) (dn := dn) (by simpa using hl) (fun j hj => by rw [List.length_set]; exact hi j (List.mem_cons_of_mem _ hj)) (t.trans t1) b1 (en.mono t1) e1 hx (SOut.fwd t1.pre t1.sub o1) fun vs ρ2 m2 Γ2 Hs2 H2 h1 h2 h3 h4 h5 => ?_
    exact q (v :: vs) ρ2 m2 Γ2 Hs2 H2 (by simpa using h1) ⟨h2.1, t1.pre.trans h2.2.1, t1.sub.trans h2.2.2⟩ h3 h4 h5
theorem cAll_toSL {l : List (Bool × EC)} {is : List Nat} {Γ : Gam} {m : Mu} : sParN is (cAll l) Γ m = toSL (cAll l Γ m) Γ fun ds m' => .nx (setAll Γ is ds) m' := rfl
/-- by the stores from the right: two names -/
theorem sv_par2 (i j : Nat) (l : List (Bool × EC)) (hl : l.length = 2) (hp : PS X st (tPar i j (cAB X N.H W ω l))) (hx : MdLe ωx ω = true := by rfl) (hi : i < ω.length := by decide) (hj : j < ω.length := by decide) :
    SV f X N W ωx ω st (sParN [i, j] (cAll l)) (setAll ω [i, j] (l.map fun p => mdB p.1)) :=
  PS.imp hp fun dn σ H ⟨Γ, m, ρ, Hs, t, b, en, o⟩ => parN_go l [i, j] hl (fun k hk => by simp at hk; rcases hk with rfl | rfl <;> assumption) t b en en hx o fun vs ρ' m' Γ' Hs' H' h1 h2 h3 h4 h5 =>
    match vs, h1, h4 with
    | [v, w], _, h4 => ⟨v, w, rfl, h5 _ ρ' Hs' H' (.same h2.1) h3 h4⟩
theorem sv_par3 (i j k : Nat) (l : List (Bool × EC)) (hl : l.length = 3) (hp : PS X st (tPar3 i j k (cAB X N.H W ω l))) (hx : MdLe ωx ω = true := by rfl) (hi : i < ω.length := by decide) (hj : j < ω.length := by decide) (hk : k < ω.length := by decide) :
    SV f X N W ωx ω st (sParN [i, j, k] (cAll l)) (setAll ω [i, j, k] (l.map fun p => mdB p.1)) :=
  PS.imp hp fun dn σ H ⟨Γ, m, ρ, Hs, t, b, en, o⟩ => parN_go l [i, j, k] hl (fun n hn => by simp at hn; rcases hn with rfl | rfl | rfl <;> assumption) t b en en hx o fun vs ρ' m' Γ' Hs' H' h1 h2 h3 h4 h5 =>
    match vs, h1, h4 with
    | [u, v, w], _, h4 => ⟨u, v, w, rfl, h5 _ ρ' Hs' H' (.same h2.1) h3 h4⟩
/-- the plain stores -/
def gNames : List Nat → TGs
  | [] => gNil
  | i :: is => gCons (gName i) (gNames is)
theorem gNames_run {Q : L2.St → Hp → Prop} {H : Hp} : ∀ (is : List Nat) (vs : List V) (σ : L2.St), vs.length = is.length → Q (setAll σ is (vs.map some)) H → gNames is vs σ H Q
  | [], [], σ, _, q => ⟨rfl, q⟩
  | [], _ :: _, _, h, _ => by cases h
  | _ :: _, [], _, h, _ => by cases h
  | i :: is, v :: vs, σ, h, q => ⟨v, vs, rfl, gNames_run is vs _ (by simpa using h) q⟩
theorem sv_parN {es ts : List Expr} {kt k2 : Nat} {pt pt2 : Pos} (is : List Nat) (l : List (Bool × EC)) (hc : X.calm = true) (hl : l.length = is.length) (ha : PA X es (cAB X N.H W ω l)) (hg : PGs X ts (gNames is)) (hsz : is.length ≤ sizeLine := by decide) (hx : MdLe ωx ω = true := by rfl) (hi : ∀ i ∈ is, i < ω.length := by decide)
    (hn : (assignEach ts X.env).length = is.length := by rfl) (hst : (assignEach ts X.env).findIdx? (·.1) = none := by rfl) (hs : swapsWithSole [.Tuple ts kt pt] (.Tuple es k2 pt2) pos.line X.env = pure false := by rfl) (hw : swappedStores [.Tuple ts kt pt] (.Tuple es k2 pt2) X.env = pure none := by rfl)
    (h1 : (assignEach [.Tuple ts kt pt] X.env).map (·.2) = [assign (.Tuple ts kt pt) X.env] := by rfl) : SV f X N W ωx ω (.Assign [.Tuple ts kt pt] (.Tuple es k2 pt2) pos) (sParN is (cAll l)) (setAll ω is (l.map fun p => mdB p.1)) :=
  PS.imp (ps_asg (pe_tup ha) (pg_tup hc hg hn hst) hs hw h1) fun dn σ H ⟨Γ, m, ρ, Hs, t, b, en, o⟩ => parN_go l is hl hi t b en en hx o fun vs ρ' m' Γ' Hs' H' z1 h2 h3 h4 h5 => by
    refine ⟨by rw [z1]; exact hsz, fun q hq => ⟨q, vs, rfl, .inl (.inl (upd_same ..)), z1, gNames_run is vs σ z1 ?_⟩⟩
    have tq : Tr ρ' Hs' H' ρ' Hs' (upd H' q (.tup vs)) := tr_newF hq
    exact h5 _ ρ' Hs' _ ⟨h2.1.trans tq, .refl _, .refl _⟩ (h3.newF hq) (h4.mono tq)
end
end Pv

end

section
set_option Elab.async false
set_option linter.all false
set_option maxRecDepth 100000
/-! Pv15: sorted. -/
namespace Pv
open PySem L2 PySem.W PyProof.Rows PySem.SeqAt PySem.Calls
/-! ### any alike data can be sorted, empty tuples too -/
section
variable {prog : Program} {w : World} {A : Around} {s : Shared} {M : Model} {E : Value → Shared → Prop}
theorem call_tuple_lt {Q : Value → Shared → Prop} {l b : Addr} {items items2 : Array Value} {e r : Nat → Bool} (hl : s.heap.IsTuple l items) (hb : s.heap.IsTuple b items2)
    (he : ∀ j (h1 : j < items.size) (h2 : j < items2.size), EqAt A.in1 s items[j] items2[j] (e j)) (hr : ∀ j (h1 : j < items.size) (h2 : j < items2.size), e j = false → RcLt A.in1 s items[j] items2[j] (r j))
    (h : Q (.bool (firstLt e r (decide (items.size < items2.size)) (List.range (min items.size items2.size)))) s) : wpAny (model prog w) A (call (.builtin "tuple.__lt__") [.ref l, .ref b]) Q E s := by
  obtain ⟨⟨k1, k2, k3, k4⟩, ho, q1, n, q2⟩ := id hl
  obtain ⟨⟨z1, z2, z3, z4⟩, ho2, y1, n2, y2⟩ := id hb
  simp only at q1 q2 y1 y2
  subst q1 q2 y1 y2
  exact call_meets F.slot_tuple_lt ⟨_, ho, rfl⟩ F.entry_tuple_lt (F.args_tuple_lt_2 _ _) (tuple_ltAt l b items items2 n n2 k2 z2 k4 z4 e r) ⟨ho, ho2, he, hr, h⟩
theorem oneLt_tup {xs ys : List PyData} {a b : Value} {as bs : List Addr} {Q : Bool → Shared → Prop} (ra : Reads s.heap a (.tuple xs) as) (rb : Reads s.heap b (.tuple ys) bs) (h : alike (.tuple xs) (.tuple ys) = true)
    (hu : A.units + min (PyData.tuple xs).depth (PyData.tuple ys).depth < cLine) (hq : Q (dataLt (.tuple xs) (.tuple ys)) s) : wpAny (model prog w) A (oneLt' true a b) Q E s := by
  have hal : alikeAll xs ys = true := by simpa [alike] using h
  cases ra with
  | @tuple l o vs n _ as₁ h1 h2 h3 h4 =>
    cases rb with
    | @tuple l' o' vs' n' _ bs₁ k1 k2 k3 k4 =>
      have n1 : vs.size = xs.length := by simpa using SeqAt.ReadsAll.length _ _ _ h4
      have n2 : vs'.size = ys.length := by simpa using SeqAt.ReadsAll.length _ _ _ k4
      rw [dataLt_tuple, ← firstLt_toks xs ys hal, ← n1, ← n2] at hq
      rw [oneLt'_eq]
      simp only [if_true]
      refine wpAny_bind (wpAny_cRoomFor (room_here hu) ?_)
      refine wpAny_bind (wpAny_callSpecialIfBound?_slot (T := "tuple") ⟨_, h1, h2⟩ F.slot_tuple_lt (call_tuple_lt (e := pairEq xs ys) (r := fun j => dataLt (xs.getD j .none) (ys.getD j .none)) ⟨_, h1, h2, _, h3⟩ ⟨_, k1, k2, _, k3⟩ (fun j j1 j2 => ?_) (fun j j1 j2 hj => ?_) ?_))
      · have := eqAt_alikeAll xs ys A.in1 s vs.toList vs'.toList _ _ h4 k4 hal (room_in hu) j (by simpa using j1) (by simpa using j2)
        simpa using this
      · have := rcLt_alikeAll xs ys A.in1 s vs.toList vs'.toList _ _ h4 k4 hal (room_in hu) j (by simpa using j1) (by simpa using j2) hj
        simpa using this
      · exact wpAny_truthy_bool hq
theorem first_tups : ∀ (vs : List Value) (ds : List PyData) {Q : List (Option Value) → Shared → Prop}, EachIs (fun v d => ∃ as, Reads s.heap v d as) vs ds → (∀ d ∈ ds, ∃ xs, d = .tuple xs) → (∀ fs, EachIs (fun (f : Option Value) d => f.isSome = true ↔ ∃ x r, d = PyData.tuple (x :: r)) fs ds → Q fs s) → wpAny M A (vs.mapM firstOfTuple') Q E s
  | _, _, Q, .nil, _, h => by rw [List.mapM_nil]; exact wpAny_pure (h [] .nil)
  | _, _, Q, .cons (as := vs) (bs := ds) (a := v) (b := d) ⟨as, r⟩ t, ht, h => by
    rw [List.mapM_cons]
    refine wpAny_bind ?_
    rw [kas_first_eq]
    obtain ⟨xs, rfl⟩ := ht d List.mem_cons_self
    cases r with
    | @tuple a o vs' n _ as₁ h1 h2 h3 h4 =>
      refine wpAny_bind (Looks.here (show Looks M s.heap (typeOf (.ref a)) o.cls from (Looks.ld h1).andThen .now) ?_)
      rw [h2, if_neg (by first | decide | simp)]
      refine wpAny_bind (listItems_at h1 h3 (wpAny_pure ?_))
      refine wpAny_bind (first_tups vs ds t (fun d hd => ht d (List.mem_cons_of_mem _ hd)) fun fs hf => wpAny_pure (h _ (.cons ?_ hf)))
      have n1 : vs'.size = xs.length := by simpa using SeqAt.ReadsAll.length _ _ _ h4
      constructor
      · intro q
        cases xs with
        | nil => rw [Array.getElem?_eq_none (by rw [n1]; exact Nat.le_refl _)] at q; cases q
        | cons x r => exact ⟨x, r, rfl⟩
      · rintro ⟨x, r, e⟩
        cases e
        rw [Array.getElem?_eq_getElem (by rw [n1]; exact Nat.succ_pos _)]
        rfl
theorem EachIs_right {α β : Type} {R : α → β → Prop} : ∀ {as : List α} {bs : List β}, EachIs R as bs → ∀ b ∈ bs, ∃ a ∈ as, R a b
  | _, _, .nil, _, h => by cases h
  | _, _, .cons h t, b, hb => by
    rcases List.mem_cons.mp hb with rfl | hb
    · exact ⟨_, List.mem_cons_self, h⟩
    · obtain ⟨a, ha, q⟩ := EachIs_right t b hb
      exact ⟨a, List.mem_cons_of_mem _ ha, q⟩
open Classical in
theorem kind_tups {vs : List Value} {ds : List PyData} {kd : SortKind} {Q : SortKind → Shared → Prop} (e : EachIs (fun v d => ∃ as, Reads s.heap v d as) vs ds) (ht : ∀ d ∈ ds, ∃ xs, d = .tuple xs) (d₀ : PyData) (ds₀ : List PyData) (hds : ds = d₀ :: ds₀)
    (hbad : ¬ ∀ d ∈ ds, ∃ x r, d = PyData.tuple (x :: r)) (hk : kd = if (∃ x r, d₀ = PyData.tuple (x :: r)) then general' else oneType') (h : Q kd s) : wpAny M A (keyKind' vs.toArray) Q E s := by
  subst hds
  rw [keyKind'_eq, List.mapM_toArray, map_eq_pure_bind]
  refine wpAny_bind (wpAny_bind (first_tups vs _ e ht fun fs hf => wpAny_pure ?_))
  have hnall : ¬ (fs.toArray.all fun x => x.isSome) = true := by
    intro q
    simp only [List.all_toArray, List.all_eq_true] at q
    apply hbad
    intro d hd
    obtain ⟨f, hfm, hi⟩ := EachIs_right hf d hd
    exact hi.mp (q f hfm)
  rw [if_neg hnall]
  cases hf with
  | @cons f fs _ _ hi hf =>
    by_cases h0 : ∃ x r, d₀ = PyData.tuple (x :: r)
    · rw [if_pos (by simpa using hi.mpr h0)]
      rw [if_pos h0] at hk
      subst hk
      exact wpAny_pure h
    · rw [if_neg (by simpa using fun z => h0 (hi.mp z))]
      rw [if_neg h0] at hk
      subst hk
      rw [oneTypeOnly'_eq, List.mapM_toArray, map_eq_pure_bind]
      have hT : ∀ v ∈ vs, Looks M s.heap (typeOf v) (Value.type "tuple") := fun v hv => by
        obtain ⟨d, hd, as, r⟩ := e.left v hv
        obtain ⟨xs, rfl⟩ := ht d hd
        exact looks_reads r
      refine wpAny_bind (wpAny_bind (wpAny_bind (kas_mapM (r := Value.type "tuple") _ (fun v hv Q' hq => (hT v hv).here hq) (wpAny_pure ?_))))
      obtain ⟨v, vs, rfl⟩ : ∃ v vs', vs = v :: vs' := by cases e; exact ⟨_, _, rfl⟩
      · have hall : ((List.map (fun _ => Value.type "tuple") (v :: vs)).toArray.all fun x => x == Value.type "tuple") = true := by
          simp only [List.all_toArray, List.all_map, List.all_eq_true]
          intro _ _
          exact beq_self_eq_true _
        have h0 : (List.map (fun _ => Value.type "tuple") (v :: vs)).toArray[0]? = some (Value.type "tuple") := by simp
        rw [h0]
        simp only [hall, if_true]
        exact wpAny_pure (wpAny_pure h)
theorem alike_tup {d d' : PyData} (h : alike d d' = true) {xs : List PyData} (e : d = .tuple xs) : ∃ ys, d' = .tuple ys := by
  subst e
  cases d' <;> first | exact ⟨_, rfl⟩ | (exact absurd h (by simp [alike]))
/-- values that read as alike data, none of them None, can be sorted -/
theorem sortsAt_any {vs : List Value} {ds : List PyData} (e : EachIs (fun v d => ∃ as, Reads s.heap v d as) vs ds) (hal : AllAlike ds) (hn : ∀ d ∈ ds, d ≠ .none) (hu : ∀ d, d ∈ ds → A.units + d.depth < cLine) : SortsAt prog w A s (dataKind s.heap ds) vs := by
  by_cases hT : ∀ d ∈ ds, ∀ xs, d ≠ .tuple xs
  · exact SortsAt.data e hal (.inr fun d hd => ⟨hn d hd, hT d hd⟩) hu
  by_cases hne : ∀ d ∈ ds, ∃ x r, d = PyData.tuple (x :: r)
  · exact SortsAt.data e hal (.inl hne) hu
  have ht : ∀ d ∈ ds, ∃ xs, d = .tuple xs := by
    intro d hd
    apply Classical.byContradiction
    intro hc
    apply hT
    intro d' hd' xs hx
    exact hc (alike_tup (hal d' hd' d hd) hx)
  have room : ∀ {d d' : PyData}, d ∈ ds → A.units + min d.depth d'.depth < cLine := fun {d d'} hd => Nat.lt_of_le_of_lt (Nat.add_le_add_left (Nat.min_le_left _ _) _) (hu d hd)
  refine ⟨fun v hv => ?_, ?_⟩
  · obtain ⟨d, hd, as, r⟩ := e.left v hv
    exact ⟨_, dataKind_some hal hd r⟩
  · cases hds : ds with
    | nil => subst hds; exact absurd (fun d hd => by cases hd) hne
    | cons d₀ ds₀ =>
      rw [← hds]
      open Classical in
      refine ⟨if (∃ x r, d₀ = PyData.tuple (x :: r)) then general' else oneType', ?_, fun _ E' Q hq => kind_tups e ht d₀ ds₀ hds hne rfl hq⟩
      intro E' x y a b Q ha hb hq
      obtain ⟨d, as, hd, ra, rfl⟩ := dataKind_inv ha
      obtain ⟨d', as', hd', rb, rfl⟩ := dataKind_inv hb
      split
      · show wpAny _ _ (oneLt' false x y) _ _ _
        exact oneLt_alike (fun z => nomatch z) ra rb (hal d hd d' hd') (hn d hd) (room hd) hq
      · rw [keyLt'_oneType]
        obtain ⟨xs, rfl⟩ := ht d hd
        obtain ⟨ys, rfl⟩ := ht d' hd'
        exact oneLt_tup ra rb (hal _ hd _ hd') (room hd) hq
end
/-! ### the sorted list -/
mutual
theorem alk_eqv : ∀ {d e : D}, d.alk e = true → d.eqv e = true → d = e
  | .non, e, h, q => by cases e <;> simp [D.alk] at h; rfl
  | .bl a, e, h, q => by cases e <;> simp [D.alk] at h; simp [D.eqv] at q; rw [q]
  | .int a, e, h, q => by cases e <;> simp [D.alk] at h; simp [D.eqv] at q; rw [q]
  | .str a, e, h, q => by cases e <;> simp [D.alk] at h; simp [D.eqv] at q; rw [q]
  | .lst xs, e, h, q => by cases e <;> simp [D.alk] at h; simp only [D.eqv] at q; rw [alkAll_eqv h q]
  | .tup xs, e, h, q => by cases e <;> simp [D.alk] at h; simp only [D.eqv] at q; rw [alkAll_eqv h q]
  | .dct _, _, h, _ | .set _, _, h, _ | .exc _ _, _, h, _ | .box _, _, h, _ | .scr _, _, h, _ => by simp [D.alk] at h
theorem alkAll_eqv : ∀ {xs ys : List D}, alkAll xs ys = true → eqvAll xs ys = true → xs = ys
  | [], [], _, _ => rfl
  | [], _ :: _, _, q => by simp [eqvAll] at q
  | _ :: _, [], _, q => by simp [eqvAll] at q
  | x :: xs, y :: ys, h, q => by
    simp only [alkAll, Bool.and_eq_true] at h
    simp only [eqvAll, Bool.and_eq_true] at q
    rw [alk_eqv h.1 q.1, alkAll_eqv h.2 q.2]
end
mutual
theorem eqv_self : ∀ {d : D}, d.alk d = true → d.eqv d = true
  | .non, _ => by simp [D.eqv]
  | .bl a, _ => by simp [D.eqv]
  | .int a, _ => by simp [D.eqv]
  | .str a, _ => by simp [D.eqv]
  | .lst xs, h => by simp only [D.alk] at h; simp only [D.eqv]; exact eqvAll_self h
  | .tup xs, h => by simp only [D.alk] at h; simp only [D.eqv]; exact eqvAll_self h
  | .dct _, h | .set _, h | .exc _ _, h | .box _, h | .scr _, h => by simp [D.alk] at h
theorem eqvAll_self : ∀ {xs : List D}, alkAll xs xs = true → eqvAll xs xs = true
  | [], _ => by simp [eqvAll]
  | x :: xs, h => by
    simp only [alkAll, Bool.and_eq_true] at h
    simp only [eqvAll, Bool.and_eq_true]
    exact ⟨eqv_self h.1, eqvAll_self h.2⟩
end
mutual
theorem alk_tri : ∀ {d e : D}, d.alk e = true → d.lt e = false → e.lt d = false → d = e
  | .non, e, h, p, q => by cases e <;> simp [D.alk] at h; rfl
  | .bl a, e, h, p, q => by cases e <;> simp [D.alk] at h; rename_i b; cases a <;> cases b <;> simp [D.lt] at p q <;> rfl
  | .int a, e, h, p, q => by cases e <;> simp [D.alk] at h; simp [D.lt] at p q; congr; omega
  | .str a, e, h, p, q => by
    cases e <;> simp [D.alk] at h
    rename_i b
    simp only [D.lt, decide_eq_false_iff_not] at p q
    have := List.le_antisymm (List.not_lt.mp q) (List.not_lt.mp p)
    congr
    cases a; cases b
    simp at this
    congr
  | .lst xs, e, h, p, q => by cases e <;> simp [D.alk] at h; simp only [D.lt] at p q; rw [alkAll_tri h p q]
  | .tup xs, e, h, p, q => by cases e <;> simp [D.alk] at h; simp only [D.lt] at p q; rw [alkAll_tri h p q]
  | .dct _, _, h, _, _ | .set _, _, h, _, _ | .exc _ _, _, h, _, _ | .box _, _, h, _, _ | .scr _, _, h, _, _ => by simp [D.alk] at h
theorem alkAll_tri : ∀ {xs ys : List D}, alkAll xs ys = true → ltAll xs ys = false → ltAll ys xs = false → xs = ys
  | [], [], _, _, _ => rfl
  | [], _ :: _, _, p, _ => by simp [ltAll] at p
  | _ :: _, [], _, _, q => by simp [ltAll] at q
  | x :: xs, y :: ys, h, p, q => by
    simp only [alkAll, Bool.and_eq_true] at h
    simp only [ltAll] at p q
    by_cases z : x.eqv y = true
    · have e := alk_eqv h.1 z
      subst e
      rw [if_pos z] at p q
      rw [alkAll_tri h.2 p q]
    · rw [if_neg z] at p
      by_cases z' : y.eqv x = true
      · have e := alk_eqv (alk_comm h.1) z'
        subst e
        exact absurd z' z
      · rw [if_neg z'] at q
        have e := alk_tri h.1 p q
        subst e
        exact (by
          have : x.eqv x = true := eqv_self h.1
          exact absurd this z)
end
def insD (x : D) : List D → List D
  | [] => [x]
  | y :: ys => if y.lt x then y :: insD x ys else x :: y :: ys
def isort : List D → List D
  | [] => []
  | x :: xs => insD x (isort xs)
def alkP (xs : List D) : Bool := xs.all fun x => xs.all fun y => x.alk y
def sortOk (xs : List D) : Bool := plAll PLN xs && alkP xs && !xs.any isNone
theorem insD_perm (x : D) : ∀ ys : List D, (insD x ys).Perm (x :: ys)
  | [] => .refl _
  | y :: ys => by
    unfold insD
    split
    · exact ((insD_perm x ys).cons y).trans (.swap x y ys)
    · exact .refl _
theorem isort_perm : ∀ xs : List D, (isort xs).Perm xs
  | [] => .refl _
  | x :: xs => (insD_perm x _).trans ((isort_perm xs).cons x)
/-- not e < d -/
def leD' (d e : D) : Prop := e.lt d = false
section
variable {S : List D} (hp : plAll PLN S = true) (ha : alkP S = true)
include hp ha
theorem alkP_get {d e : D} (hd : d ∈ S) (he : e ∈ S) : d.alk e = true := by
  unfold alkP at ha
  rw [List.all_eq_true] at ha
  have := ha d hd
  rw [List.all_eq_true] at this
  exact this e he
theorem le_py {d e : D} (hd : d ∈ S) (he : e ∈ S) : dataLe false D.toPy d e = !(e.lt d) := by
  rw [dataLe_eq]
  show (!dataLt e.toPy d.toPy) = _
  rw [lt_py (plAll_mem hp e he) (plAll_mem hp d hd) (alkP_get hp ha he hd)]
theorem le_trans' {a b c : D} (h1 : a ∈ S) (h2 : b ∈ S) (h3 : c ∈ S) (p : leD' a b) (q : leD' b c) : leD' a c := by
  have := (sortLe_total (listOrd itemOrd) false fun b : D => keyToks b.toPy).trans a b c
  have e1 := le_py hp ha h1 h2
  have e2 := le_py hp ha h2 h3
  have e3 := le_py hp ha h1 h3
  unfold dataLe at e1 e2 e3
  rw [e1, e2, e3] at this
  unfold leD' at p q ⊢
  rw [p, q] at this
  simpa using this
theorem le_total' {a b : D} (h1 : a ∈ S) (h2 : b ∈ S) : leD' a b ∨ leD' b a := by
  have := (sortLe_total (listOrd itemOrd) false fun b : D => keyToks b.toPy).total a b
  have e1 := le_py hp ha h1 h2
  have e2 := le_py hp ha h2 h1
  unfold dataLe at e1 e2
  rw [e1, e2] at this
  unfold leD'
  simpa using this
theorem insD_sorted {x : D} (hx : x ∈ S) : ∀ {ys : List D}, (∀ y ∈ ys, y ∈ S) → ys.Pairwise leD' → (insD x ys).Pairwise leD'
  | [], _, _ => by simp [insD]
  | y :: ys, hm, h => by
    have hy := hm y List.mem_cons_self
    have hz : ∀ z ∈ ys, z ∈ S := fun z q => hm z (List.mem_cons_of_mem _ q)
    rw [List.pairwise_cons] at h
    unfold insD
    split
    · rename_i q
      rw [List.pairwise_cons]
      refine ⟨fun z hq => ?_, insD_sorted hx hz h.2⟩
      rcases List.mem_cons.mp ((insD_perm x ys).mem_iff.mp hq) with rfl | hq
      · rcases le_total' hp ha hy hx with r | r
        · exact r
        · unfold leD' at r; rw [q] at r; cases r
      · exact h.1 z hq
    · rename_i q
      have q : leD' x y := by unfold leD'; simpa using q
      rw [List.pairwise_cons, List.pairwise_cons]
      refine ⟨fun z hq => ?_, h⟩
      rcases List.mem_cons.mp hq with rfl | hq
      · exact q
      · exact le_trans' hp ha hx hy (hz z hq) q (h.1 z hq)
theorem isort_sorted : ∀ {xs : List D}, (∀ y ∈ xs, y ∈ S) → (isort xs).Pairwise leD'
  | [], _ => .nil
  | x :: xs, h => insD_sorted hp ha (h x List.mem_cons_self) (fun y hy => h y (List.mem_cons_of_mem _ ((isort_perm xs).mem_iff.mp hy))) (isort_sorted fun y hy => h y (List.mem_cons_of_mem _ hy))
theorem isort_unique {xs ys : List D} (hx : ∀ y ∈ xs, y ∈ S) (pm : ys.Perm xs) (h : ys.Pairwise leD') : ys = isort xs := by
  refine List.Perm.eq_of_pairwise (le := leD') (fun a b m1 m2 p q => ?_) h (isort_sorted hp ha hx) (pm.trans (isort_perm xs).symm)
  have a1 := hx a (pm.mem_iff.mp m1)
  have a2 := hx b ((isort_perm xs).mem_iff.mp m2)
  exact alk_tri (alkP_get hp ha a1 a2) q p
end
theorem isort_merge {bs : List (V × D)} (hp : plAll PLN (bs.map (·.2)) = true) (ha : alkP (bs.map (·.2)) = true) : (bs.mergeSort (dataLe false fun p => p.2.toPy)).map (·.2) = isort (bs.map (·.2)) := by
  refine isort_unique hp ha (fun y hy => hy) ((List.mergeSort_perm ..).map _) ?_
  have := sort_pairwise (sortLe_total (listOrd itemOrd) false fun b : V × D => keyToks b.2.toPy) bs
  rw [List.pairwise_map]
  refine List.Pairwise.imp_of_mem (fun {a b} m1 m2 q => ?_) this
  have n1 : a.2 ∈ bs.map (·.2) := List.mem_map.mpr ⟨a, List.mem_mergeSort.mp m1, rfl⟩
  have n2 : b.2 ∈ bs.map (·.2) := List.mem_map.mpr ⟨b, List.mem_mergeSort.mp m2, rfl⟩
  have e := le_py hp ha n1 n2
  unfold dataLe at e
  have q : sortLe (listOrd itemOrd) false (fun b : D => keyToks b.toPy) a.2 b.2 = true := q
  rw [e] at q
  unfold leD'
  simpa using q
/-! ### sorted(xs) -/
section
variable {X : Cx} {f : Bool}
def rSortD (K : PySem.W.Frag) : List V → Hp → VK → Prop := fun vs H Q => ∃ (p : Addr) (bs : List (V × D)) (ρ : List Addr), vs = [V.ref p] ∧ SqL K H p (bs.map (·.1)) ∧ (∀ b ∈ bs, Rep K ρ H b.1 b.2) ∧ sortOk (bs.map (·.2)) = true ∧
  ∀ (cs : List (V × D)) (l : Addr), cs.Perm bs → cs.map (·.2) = isort (bs.map (·.2)) → H l = none → Q (.ref l) (upd H l (.lst (cs.map (·.1))))
theorem each_vals : ∀ {bs : List (V × D)} {us : List Value}, Vals (bs.map (·.1)) us → EachIs (fun u (b : V × D) => RelV b.1 u) us bs
  | [], _, h => by cases h; exact .nil
  | b :: bs, _, h => by cases h with
    | cons r t => exact .cons r (each_vals t)
theorem vals_each : ∀ {bs : List (V × D)} {us : List Value}, EachIs (fun u (b : V × D) => RelV b.1 u) us bs → Vals (bs.map (·.1)) us
  | [], _, h => by cases h; exact .nil
  | b :: bs, _, h => by cases h with
    | cons r t => exact .cons r (vals_each t)
theorem sortOk_pl {ds : List D} (h : sortOk ds = true) : plAll PLN ds = true ∧ alkP ds = true ∧ ∀ d ∈ ds, isNone d = false := by
  unfold sortOk at h
  simp only [Bool.and_eq_true, Bool.not_eq_true', List.any_eq_false] at h
  exact ⟨h.1.1, h.1.2, fun d hd => by simpa using h.2 d hd⟩
theorem py_none {d : D} {n : Nat} (hp : d.pl n = true) (h : isNone d = false) : d.toPy ≠ .none := by
  cases d <;> simp [isNone] at h <;> cases n <;> simp [D.pl, D.toPy] at hp ⊢
theorem cr_sortD (hu : X.A.units + 64 < cLine) : CallR X (.builtin "sorted") (rSortD X.K) := by
  intro pins s σ H vs us Q I r h
  obtain ⟨p, bs, ρ, rfl, hs, hr, hok, q⟩ := h
  obtain ⟨its, rv, hl, hz⟩ := I.list hs
  rw [Vals.ref1 r]
  obtain ⟨hp, ha, hn⟩ := sortOk_pl hok
  have e := each_vals rv
  have mem : ∀ b ∈ bs, b.2 ∈ bs.map (·.2) := fun b hb => List.mem_map.mpr ⟨b, hb, rfl⟩
  have er : EachIs (fun v (b : V × D) => ∃ as, Reads s.heap v (b.2.toPy) as) its bs := (each_mem e).mono fun v b ⟨rb, hb⟩ => Rep.reads I (plAll_mem hp _ (mem b hb)) (hr b hb) rb
  have er' : EachIs (fun v (b : V × D) => ∃ as, Reads (sortingHeap (copyHeap s.heap its) (s.heap.objs.size + 1) its) v (b.2.toPy) as) its bs := er.mono fun _ _ ⟨as, r⟩ => ⟨as, PyProof.Rows.Reads.keeps (fun _ _ => sorting_copy_old) r⟩
  have hal : AllAlike (bs.map fun b => b.2.toPy) := by
    intro d hd d' hd'
    obtain ⟨b, hb, rfl⟩ := List.mem_map.mp hd
    obtain ⟨b', hb', rfl⟩ := List.mem_map.mp hd'
    rw [alk_py (plAll_mem hp _ (mem b hb)) (plAll_mem hp _ (mem b' hb'))]
    exact alkP_get hp ha (mem b hb) (mem b' hb')
  have hnn : ∀ d ∈ bs.map (fun b => b.2.toPy), d ≠ .none := by
    intro d hd
    obtain ⟨b, hb, rfl⟩ := List.mem_map.mp hd
    exact py_none (plAll_mem hp _ (mem b hb)) (hn _ (mem b hb))
  have hd : ∀ d ∈ bs.map (fun b => b.2.toPy), X.A.in1.in1.units + d.depth < cLine := by
    intro d hd
    obtain ⟨b, hb, rfl⟩ := List.mem_map.mp hd
    have := depth_of (plAll_mem hp _ (mem b hb))
    have e1 : X.A.in1.in1.units = X.A.units + 2 := rfl
    rw [e1]
    unfold PLN at this
    omega
  have hlen : its.length = bs.length := by rw [e.length]
  refine sorted_vals hl.isList (sortsAt_any (s := { s with heap := sortingHeap (copyHeap s.heap its) (s.heap.objs.size + 1) its }) (each_map (R := fun v d => ∃ as, Reads (sortingHeap (copyHeap s.heap its) (s.heap.objs.size + 1) its) v d as) (fun b : V × D => b.2.toPy) er') hal hnn hd) (by rw [hlen]; simpa using hz) ?_
  have eo := sortVals_data (h' := sortingHeap (copyHeap s.heap its) (s.heap.objs.size + 1) its) false e er' hal
  obtain ⟨ep, he'⟩ := PyProof.Rows.sortedAll_at s.heap its (sortVals (dataKind (sortingHeap (copyHeap s.heap its) (s.heap.objs.size + 1) its) (bs.map fun b => b.2.toPy)) false its its).toArray
  refine ⟨.ref _, upd H (s.heap.objs.size + 1) (.lst ((bs.mergeSort (dataLe false fun b => b.2.toPy)).map (·.1))), I.laid (t' := s.toks) (fun _ _ => PyProof.Rows.sortedAll_old) (Nat.le_succ _) ⟨?_, _, ep, vals_each eo, he'⟩, rfl, q _ _ (List.mergeSort_perm ..) (isort_merge hp ha) (I.hok.fresh (Nat.le_succ _))⟩
  rw [List.length_map, List.length_mergeSort]
  simpa using hz
def sortD : Mu → D → Option D
  | _, .lst xs => if sortOk xs then some (.lst (isort xs)) else none
  | _, _ => none
theorem RepAll.zip {K : PySem.W.Frag} {ρ : List Addr} {H : Hp} : ∀ {vs : List V} {ds : List D}, RepAll K ρ H vs ds → (vs.zip ds).map (·.1) = vs ∧ (vs.zip ds).map (·.2) = ds ∧ ∀ b ∈ vs.zip ds, Rep K ρ H b.1 b.2
  | _, _, .nil => ⟨rfl, rfl, fun b hb => by cases hb⟩
  | _, _, .cons h t => by
    obtain ⟨h1, h2, h3⟩ := RepAll.zip t
    refine ⟨by simp [h1], by simp [h2], fun b hb => ?_⟩
    rcases List.mem_cons.mp hb with rfl | hb
    · exact h
    · exact h3 b hb
theorem RepAll.unzip {K : PySem.W.Frag} {ρ : List Addr} {H : Hp} : ∀ {bs : List (V × D)}, (∀ b ∈ bs, Rep K ρ H b.1 b.2) → RepAll K ρ H (bs.map (·.1)) (bs.map (·.2))
  | [], _ => .nil
  | b :: bs, h => .cons (h b List.mem_cons_self) (RepAll.unzip fun c hc => h c (List.mem_cons_of_mem _ hc))
theorem rd_sort : RdD f X (fun x H Q => rSortD X.K [x] H Q) sortD := by
  intro x H Q W ρ m Hs d z b hx hg o
  cases d <;> simp only [sortD] at hg <;> try (cases hg; done)
  case lst ds =>
    obtain ⟨hok, rfl⟩ := of_if hg
    obtain ⟨a, vs, rfl, h1, h2⟩ := hx.items b
    obtain ⟨z1, z2, z3⟩ := h2.zip
    refine ⟨a, vs.zip ds, ρ, rfl, .inl (.inl (by rw [z1]; exact h1)), fun c hc => (z3 c hc).mono (.refl _) b.sub, by rw [z2]; exact hok, fun cs l pm e hl => ?_⟩
    rw [z2] at e
    refine OutB.newL b ?_ o hl
    rw [← e]
    exact RepAll.unzip fun c hc => z3 c (pm.mem_iff.mp hc)
theorem ev_sorted {H0 : Hp} {W : WX} {ω : List Md} {a : Expr} {ca : EC} {p pos : Pos} (B : Bn X.mg) (hu : X.A.units + 64 < cLine) (ha : BV X H0 W ω a ca) (hg : Gl X "sorted" := by rfl) (he : starEach [a] X.env = [(false, eval a X.env)] := by rfl) : EB f X H0 W ω (.Call (.Name "sorted" p) [a] [] pos) (c1 sortD ca) :=
  ev_callB (cr_sortD hu) rd_sort hg B.sorted (by decide +kernel) ha (he := he)
end
end Pv

end

section
set_option Elab.async false
set_option linter.all false
set_option maxRecDepth 100000
/-! Pv16: list(range), tuple(range), list.count of whole numbers. -/
namespace Pv
open PySem L2 PySem.W PyProof.Rows PySem.SeqAt
section
variable {X : Cx} {f : Bool} {H0 : Hp} {W : WX} {ω : List Md} {a b : Expr} {ca cb : EC} {p q pos pos2 : Pos}
theorem rgV_rep {K : PySem.W.Frag} {ρ : List Addr} {H : Hp} : ∀ (n : Nat) (lo : Int) (g : Nat → Int), (∀ i, g i = lo + (i : Nat)) → RepAll K ρ H ((List.range n).map fun i => V.int (g i)) (rangeI lo n)
  | 0, _, _, _ => .nil
  | n + 1, lo, g, hg => by
    rw [List.range_succ_eq_map, List.map_cons, List.map_map, rangeI]
    have e := hg 0
    refine .cons (by rw [e, show lo + ((0 : Nat) : Int) = lo by omega]; exact .int _) (rgV_rep n (lo + 1) (fun i => g (i + 1)) fun i => by rw [hg]; omega)
theorem R.bind_bind {α β γ : Type} {r : R α} {g : α → Mu → R β} {h : β → Mu → R γ} : (r.bind g).bind h = r.bind fun x m => (g x m).bind h := by cases r <;> rfl
/-- the row of whole numbers as a list, as a tuple -/
def cRgL (cs : Gam → Mu → R (List D)) : EC := fun Γ m => (iRg cs Γ m).bind fun ds m1 => if szOk ds.length then .ok (.lst ds) m1 else .bad
def cRgT (cs : Gam → Mu → R (List D)) : EC := fun Γ m => (iRg cs Γ m).bind fun ds m1 => if szOk ds.length then .ok (.tup ds) m1 else .bad
theorem rg_fin {W' : Value → Option Addr → Hp → Prop} {ρ : List Addr} {Hs H : Hp} {Q : VK} {m : Mu} {tp : Bool} (hf : tp = true → f = false) (b : Bs X.K ρ m Hs H) {i n : Int} (hz : rgOk i n = true) (o : OutB f X.K X.mg W' (if szOk (rangeI i (n - i).toNat).length then .ok (if tp then .tup (rangeI i (n - i).toNat) else .lst (rangeI i (n - i).toNat)) m else .bad) ρ Hs H Q) :
    RgOk i n ∧ ∀ l, H l = none → Q (.ref l) (upd H l (if tp then .tup (rgV i n) else .lst (rgV i n))) := by
  obtain ⟨hs, o⟩ := OutB.guardR o
  have hs := szOk_le hs
  rw [rangeI_length, sizeLine_eq] at hs
  simp only [rgOk, Bool.and_eq_true, decide_eq_true_eq] at hz
  refine ⟨⟨by omega, by omega, by omega, by omega, by omega⟩, fun l hl => ?_⟩
  have rr : RepAll X.K ρ Hs (rgV i n) (rangeI i (n - i).toNat) := rgV_rep _ i _ fun _ => rfl
  cases tp with
  | false => exact OutB.newL b rr o hl
  | true => have := hf rfl; subst this; exact OutB.newT b rr o hl
def cRg (tp : Bool) (cs : Gam → Mu → R (List D)) : EC := fun Γ m => (iRg cs Γ m).bind fun ds m1 => if szOk ds.length then .ok (if tp then .tup ds else .lst ds) m1 else .bad
theorem cRg1 {tp : Bool} {Γ : Gam} {m : Mu} : cRg tp (aCons ca aNil) Γ m = (ca Γ m).bind fun d m1 => (R.of (rg2 [d]) m1).bind fun ds m1 => if szOk ds.length then .ok (if tp then .tup ds else .lst ds) m1 else .bad := by
  unfold cRg iRg aCons aNil; cases ca Γ m <;> rfl
theorem cRg2 {tp : Bool} {Γ : Gam} {m : Mu} : cRg tp (aCons ca (aCons cb aNil)) Γ m = (ca Γ m).bind fun d m1 => (cb Γ m1).bind fun e m2 => (R.of (rg2 [d, e]) m2).bind fun ds m1 => if szOk ds.length then .ok (if tp then .tup ds else .lst ds) m1 else .bad := by
  unfold cRg iRg aCons aNil
  cases ca Γ m with
  | ok d m1 => cases h2 : cb Γ m1 <;> simp [R.bind, h2]
  | exc _ _ _ => rfl
  | bad => rfl
theorem rg_one {tp : Bool} {t : (L2.St → Hp → (Int → Int → Hp → Prop) → Prop) → TE} (ht : t = fun te σ H Q => te σ H fun a b H1 => RgOk a b ∧ ∀ q, H1 q = none → Q (.ref q) (upd H1 q (if tp then .tup (rgV a b) else .lst (rgV a b)))) (hf : tp = true → f = false) {e : Expr} (h : PE X e (t (tRg1 (cE X H0 W ω ca)))) : EB f X H0 W ω e (cRg tp (aCons ca aNil)) :=
  PE.imp h fun σ H Q ⟨Γ, m, ρ, Hs, b, en, o⟩ => by
    subst ht
    rw [cRg1] at o
    refine ⟨Γ, m, ρ, Hs, b, en, Out.mono (OutB.bind o) fun v H1 ⟨d, m1, ρ1, Hs1, t1, b1, r1, o1⟩ => ?_⟩
    cases d <;> first | exact o1.elim | skip
    rename_i j
    cases r1
    simp only [rg2] at o1
    by_cases hz : rgOk 0 j = true
    · rw [if_pos hz] at o1
      have e : (j - 0).toNat = j.toNat := by rw [Int.sub_zero]
      exact ⟨j, rfl, rg_fin (tp := tp) hf b1 hz (by rw [e]; exact o1)⟩
    · rw [if_neg hz] at o1; exact o1.elim
theorem rg_two {tp : Bool} {t : (L2.St → Hp → (Int → Int → Hp → Prop) → Prop) → TE} (ht : t = fun te σ H Q => te σ H fun a b H1 => RgOk a b ∧ ∀ q, H1 q = none → Q (.ref q) (upd H1 q (if tp then .tup (rgV a b) else .lst (rgV a b)))) (hf : tp = true → f = false) {e : Expr} (h : PE X e (t (tRg2 (cE X H0 W ω ca) (cE X H0 W ω cb)))) : EB f X H0 W ω e (cRg tp (aCons ca (aCons cb aNil))) :=
  PE.imp h fun σ H Q ⟨Γ, m, ρ, Hs, b, en, o⟩ => by
    subst ht
    rw [cRg2] at o
    refine ⟨Γ, m, ρ, Hs, b, en, Out.mono (OutB.bind o) fun v H1 ⟨d, m1, ρ1, Hs1, t1, b1, r1, o1⟩ => ?_⟩
    refine ⟨Γ, m1, ρ1, Hs1, b1, en.mono t1, Out.mono (OutB.bind o1) fun v2 H2 ⟨d2, m2, ρ2, Hs2, t2, b2, r2, o2⟩ => ?_⟩
    have hij : ∃ i j, d = .int i ∧ d2 = .int j := by cases d <;> cases d2 <;> first | exact o2.elim | exact ⟨_, _, rfl, rfl⟩
    obtain ⟨i, j, rfl, rfl⟩ := hij
    cases r1; cases r2
    simp only [rg2] at o2
    by_cases hz : rgOk i j = true
    · rw [if_pos hz] at o2
      exact ⟨i, j, rfl, rfl, rg_fin (tp := tp) hf b2 hz o2⟩
    · rw [if_neg hz] at o2; exact o2.elim
variable (B : Bn X.mg)
include B
theorem ev_listRg1 (hc : X.calm = true) (ha : EV X H0 W ω a ca) (hg : Gl X "list" := by rfl) (hgr : Gl X "range" := by rfl) (na : starEach [.Call (.Name "range" q) [a] [] pos2] X.env = (false, eval (.Call (.Name "range" q) [a] [] pos2) X.env) :: starEach [] X.env := by rfl) (na2 : starEach [a] X.env = (false, eval a X.env) :: starEach [] X.env := by rfl) :
    EB f X H0 W ω (.Call (.Name "list" p) [.Call (.Name "range" q) [a] [] pos2] [] pos) (cRg false (aCons ca aNil)) := rg_one (tp := false) (t := tLstRg) rfl (fun z => nomatch z) (pe_listRg hc hg B.list (prg_1 hgr B.range ha na2) na)
theorem ev_tupRg1 (hc : X.calm = true) (ha : EV X H0 W ω a ca) (hg : Gl X "tuple" := by rfl) (hgr : Gl X "range" := by rfl) (na : starEach [.Call (.Name "range" q) [a] [] pos2] X.env = (false, eval (.Call (.Name "range" q) [a] [] pos2) X.env) :: starEach [] X.env := by rfl) (na2 : starEach [a] X.env = (false, eval a X.env) :: starEach [] X.env := by rfl) :
    EV X H0 W ω (.Call (.Name "tuple" p) [.Call (.Name "range" q) [a] [] pos2] [] pos) (cRg true (aCons ca aNil)) := EB.ev (rg_one (t := tTupRg) rfl (fun _ => rfl) (pe_tupRg hc hg B.tuple (prg_1 hgr B.range ha na2) na))
theorem ev_listRg2 (hc : X.calm = true) (ha : EV X H0 W ω a ca) (hb : EV X H0 W ω b cb) (hg : Gl X "list" := by rfl) (hgr : Gl X "range" := by rfl) (na : starEach [.Call (.Name "range" q) [a, b] [] pos2] X.env = (false, eval (.Call (.Name "range" q) [a, b] [] pos2) X.env) :: starEach [] X.env := by rfl) (na2 : starEach [a, b] X.env = (false, eval a X.env) :: starEach [b] X.env := by rfl)
    (nb : starEach [b] X.env = (false, eval b X.env) :: starEach [] X.env := by rfl) (hp : (backTo pos2 (starEach [b] X.env)).any (·.1) = false := by rfl) :
    EB f X H0 W ω (.Call (.Name "list" p) [.Call (.Name "range" q) [a, b] [] pos2] [] pos) (cRg false (aCons ca (aCons cb aNil))) := rg_two (tp := false) (t := tLstRg) rfl (fun z => nomatch z) (pe_listRg hc hg B.list (prg_2 hgr B.range ha hb na2 nb hp) na)
theorem ev_tupRg2 (hc : X.calm = true) (ha : EV X H0 W ω a ca) (hb : EV X H0 W ω b cb) (hg : Gl X "tuple" := by rfl) (hgr : Gl X "range" := by rfl) (na : starEach [.Call (.Name "range" q) [a, b] [] pos2] X.env = (false, eval (.Call (.Name "range" q) [a, b] [] pos2) X.env) :: starEach [] X.env := by rfl) (na2 : starEach [a, b] X.env = (false, eval a X.env) :: starEach [b] X.env := by rfl)
    (nb : starEach [b] X.env = (false, eval b X.env) :: starEach [] X.env := by rfl) (hp : (backTo pos2 (starEach [b] X.env)).any (·.1) = false := by rfl) :
    EV X H0 W ω (.Call (.Name "tuple" p) [.Call (.Name "range" q) [a, b] [] pos2] [] pos) (cRg true (aCons ca (aCons cb aNil))) := EB.ev (rg_two (t := tTupRg) rfl (fun _ => rfl) (pe_tupRg hc hg B.tuple (prg_2 hgr B.range ha hb na2 nb hp) na))
end
section
variable {X : Cx} {H0 : Hp} {W : WX} {ω : List Md} {a o : Expr} {ca co : EC} {apos cpos : Pos}
/-- xs.count(k), whole numbers -/
def cntD : Mu → D → D → Option D
  | _, .lst xs, .int k => (intsOf xs).map fun ns => .int (ns.count k : Nat)
  | _, _, _ => none
def cCnt (co ca : EC) : EC := fun Γ m => (co Γ m).bind fun d m1 => match d with
  | .lst xs => (ca Γ m1).bind fun e m2 => R.of (cntD m2 (.lst xs) e) m2
  | _ => .bad
theorem ev_count (ho : EV X H0 W ω o co) (ha : EV X H0 W ω a ca) (hbase : attributeBase o "count" X.env (eval o X.env) = eval o X.env := by rfl)
    (hfew : ((backTo cpos (starEach [a] X.env)).all (fun x => !x.1) && (backToKw cpos (keywordEach [] X.env)).all (fun x => x.1.isSome)
      && decide ([a].length + ([] : List Keyword).length + (if ([] : List Keyword).isEmpty then 0 else 1) < 30)) = true := by rfl)
    (hline : (apos.endLine == cpos.line) = true := by rfl) (hs : starEach [a] X.env = [(false, eval a X.env)] := by rfl) : EV X H0 W ω (.Call (.Attribute o "count" apos) [a] [] cpos) (cCnt co ca) :=
  EB.ev (PE.imp (pe_bm PySem.F.plainAttrs_list PySem.F.slot_list_count PySem.F.type_list_count mt_lcount ho (pa_cons ha pa_nil hs) hbase hfew hline hs (by rfl)) fun σ H Q ⟨Γ, m, ρ, Hs, b, en, o⟩ => ⟨Γ, m, ρ, Hs, b, en, Out.mono (OutB.bind o) fun v H1 ⟨d, m1, ρ1, Hs1, t1, b1, r1, o1⟩ => by
    cases d <;> first | exact o1.elim | skip
    rename_i xs
    cases r1 with
    | @lst p vs _ hl hr =>
    refine ⟨.inl ⟨rfl, vs, .inl (.inl (b1.sub _ _ hl))⟩, Γ, m1, ρ1, Hs1, b1, en.mono t1, Out.mono (OutB.bind o1) fun v2 H2 ⟨d2, m2, ρ2, Hs2, t2, b2, r2, o2⟩ => ?_⟩
    obtain ⟨z, hz, o3⟩ := OutB.of o2
    cases d2 <;> simp only [cntD] at hz <;> try (cases hz; done)
    rename_i k
    cases r2
    obtain ⟨ns, hn, rfl⟩ := Option.map_eq_some_iff.mp hz
    have e := intsOf_eq hn
    subst e
    have hv := RepAll.ints' hr
    exact (show rCntI X.K (.ref p) [.int k] H2 Q from ⟨p, ns, k, rfl, rfl, .inl (.inl (by rw [← hv]; exact b2.sub _ _ (t2.sub _ _ hl))), o3.val b2 (.int _)⟩)⟩)
end
end Pv

end

section
namespace Pv
open PySem L2
/-- the end of a law -/
theorem law_end {K : PySem.W.Frag} {mg : Str → Option Value} {H : Hp} {a : Addr} {ns : List Int} {G : List D → Mu → R D} (hS : SqL K H a (ns.map V.int)) (h : ∃ m, G [.scr ns] [] = .ok (.bl true) m) : spD K mg false 1 G [.ref a] H (fun v _ => v = .bl true) fun _ _ _ => False := by
  obtain ⟨m, h⟩ := h
  refine ⟨[], [], H, [.scr ns], ⟨.refl _, fun n ds q => by simp at q, fun i j a q => by simp at q, rfl⟩, .one (.scr hS), rfl, ?_⟩
  rw [h]
  intro v ρ' Hs' H' _ _ r
  cases r
  rfl
end Pv

end

section
set_option linter.all false
set_option maxRecDepth 100000
/-! Pm: how the mirrors are reckoned with. -/
namespace Pv
open PySem

def WR0 {α : Type} (r : R α) (Q : α → Mu → Prop) : Prop := match r with
  | .ok a m => Q a m
  | _ => False
def WO0 {α : Type} (o : Option α) (Q : α → Prop) : Prop := match o with
  | some a => Q a
  | none => False
def WS0 (r : SR) (Qn : Gam → Mu → Prop) (Qr : D → Mu → Prop) : Prop := match r with
  | .nx Γ m => Qn Γ m
  | .rt d m => Qr d m
  | _ => False
theorem WR0.mono {α : Type} {r : R α} {Q Q' : α → Mu → Prop} (h : WR0 r Q) (q : ∀ a m, Q a m → Q' a m) : WR0 r Q' := by
  cases r with
  | ok a m => exact q a m h
  | exc c fs m => exact h
  | bad => exact h
theorem WO0.mono {α : Type} {r : Option α} {Q Q' : α → Prop} (h : WO0 r Q) (q : ∀ a, Q a → Q' a) : WO0 r Q' := by
  cases r with
  | some a => exact q a h
  | none => exact h
theorem WS0.mono {r : SR} {Qn Qn' : Gam → Mu → Prop} {Qr Qr' : D → Mu → Prop} (h : WS0 r Qn Qr) (q : ∀ a m, Qn a m → Qn' a m) (q' : ∀ a m, Qr a m → Qr' a m) : WS0 r Qn' Qr' := by
  cases r with
  | nx Γ m => exact q _ _ h
  | rt d m => exact q' _ _ h
  | exc c fs Γ m => exact h
  | bad => exact h
theorem WR0.get {α : Type} {r : R α} {Q : α → Mu → Prop} (h : WR0 r Q) : ∃ a m, r = .ok a m ∧ Q a m := by
  cases r with
  | ok a m => exact ⟨a, m, rfl, h⟩
  | exc c fs m => exact h.elim
  | bad => exact h.elim
theorem WR0.of {α : Type} {r : R α} {a : α} {m : Mu} {Q : α → Mu → Prop} (e : r = .ok a m) (h : Q a m) : WR0 r Q := by rw [e]; exact h
section
variable {α β : Type} {Γ : Gam} {m : Mu} {Q : D → Mu → Prop} {QL : List D → Mu → Prop} {QB : Bool → Mu → Prop} {Qn : Gam → Mu → Prop} {Qr : D → Mu → Prop}
theorem wr0_ok {a : α} {Q : α → Mu → Prop} : WR0 (.ok a m) Q = Q a m := (rfl)
theorem wr0_bad {Q : α → Mu → Prop} : WR0 (.bad : R α) Q = False := (rfl)
theorem wo0_some {a : α} {Q : α → Prop} : WO0 (some a) Q = Q a := (rfl)
theorem wo0_none {Q : α → Prop} : WO0 (none : Option α) Q = False := (rfl)
theorem wr0_bind {r : R α} {f : α → Mu → R β} {Q : β → Mu → Prop} : WR0 (r.bind f) Q = WR0 r fun a m => WR0 (f a m) Q := by cases r <;> rfl
theorem wr0_of {o : Option α} {Q : α → Mu → Prop} : WR0 (R.of o m) Q = WO0 o fun a => Q a m := by cases o <;> rfl
theorem wr0_ite {k : Bool} {a b : R α} {Q : α → Mu → Prop} : WR0 (if k = true then a else b) Q = if k = true then WR0 a Q else WR0 b Q := by cases k <;> rfl
theorem ws0_ite {k : Bool} {a b : SR} : WS0 (if k = true then a else b) Qn Qr = if k = true then WS0 a Qn Qr else WS0 b Qn Qr := by cases k <;> rfl
theorem wo0_ite {k : Bool} {a b : Option α} {Q : α → Prop} : WO0 (if k = true then a else b) Q = if k = true then WO0 a Q else WO0 b Q := by cases k <;> rfl
theorem wr0_var {i : Nat} : WR0 (cVar i Γ m) Q = Q (Γ.getD i .non) m := (rfl)
theorem wr0_c {d : D} : WR0 (cC d Γ m) Q = Q d m := (rfl)
theorem wr0_c2 {g : Mu → D → D → Option D} {ca cb : EC} : WR0 (c2 g ca cb Γ m) Q = WR0 (ca Γ m) fun d m1 => WR0 (cb Γ m1) fun e m2 => WO0 (g m2 d e) fun z => Q z m2 := by
  unfold c2; rw [wr0_bind]; congr; funext d m1; rw [wr0_bind]; congr; funext e m2; rw [wr0_of]
theorem wr0_c1 {g : Mu → D → Option D} {ca : EC} : WR0 (c1 g ca Γ m) Q = WR0 (ca Γ m) fun d m1 => WO0 (g m1 d) fun z => Q z m1 := by
  unfold c1; rw [wr0_bind]; congr; funext d m1; rw [wr0_of]
theorem wr0_anil : WR0 (aNil Γ m) QL = QL [] m := (rfl)
theorem wr0_acons {ca : EC} {cs : Gam → Mu → R (List D)} : WR0 (aCons ca cs Γ m) QL = WR0 (ca Γ m) fun d m1 => WR0 (cs Γ m1) fun ds m2 => QL (d :: ds) m2 := by
  unfold aCons; rw [wr0_bind]; congr; funext d m1; rw [wr0_bind]; rfl
theorem wr0_astar {ca : EC} {cs : Gam → Mu → R (List D)} : WR0 (aStar ca cs Γ m) QL = WR0 (ca Γ m) fun d m1 => WO0 (itemsD m1 d) fun xs => WR0 (cs Γ m1) fun ds m2 => QL (xs ++ ds) m2 := by
  unfold aStar; rw [wr0_bind]; congr; funext d m1; rw [wr0_bind, wr0_of]; congr; funext xs; rw [wr0_bind]; rfl
theorem wr0_lst {cs : Gam → Mu → R (List D)} : WR0 (cLst cs Γ m) Q = WR0 (cs Γ m) fun ds m1 => if szOk ds.length = true then Q (.lst ds) m1 else False := by
  unfold cLst; rw [wr0_bind]; congr; funext d m1; rw [wr0_ite]; rfl
theorem wr0_tup {cs : Gam → Mu → R (List D)} : WR0 (cTup cs Γ m) Q = WR0 (cs Γ m) fun ds m1 => if szOk ds.length = true then Q (.tup ds) m1 else False := by
  unfold cTup; rw [wr0_bind]; congr; funext d m1; rw [wr0_ite]; rfl
theorem wr0_call {G : List D → Mu → R D} {cs : Gam → Mu → R (List D)} : WR0 (cCall G cs Γ m) Q = WR0 (cs Γ m) fun ds m1 => WR0 (G ds m1) Q := by unfold cCall; rw [wr0_bind]
theorem wr0_call0 {G : List D → Mu → R D} : WR0 (cCall0 G Γ m) Q = WR0 (G [] m) Q := (rfl)
theorem wr0_callK {is : List Nat} {G : List D → Mu → R D} {cs : Gam → Mu → R (List D)} : WR0 (cCallK is G cs Γ m) Q = WR0 (cs Γ m) fun ds m1 => WR0 (G (permL is ds) m1) Q := by unfold cCallK; rw [wr0_bind]
theorem wr0_sl {g : Mu → D → Option Int → Option Int → Option D} {ca : EC} {cl ch : Gam → Mu → R (Option Int)} : WR0 (cSl g ca cl ch Γ m) Q = WR0 (ca Γ m) fun d m1 => WR0 (cl Γ m1) fun lo m2 => WR0 (ch Γ m2) fun hi m3 => WO0 (g m3 d lo hi) fun z => Q z m3 := by
  unfold cSl; rw [wr0_bind]; congr; funext d m1; rw [wr0_bind]; congr; funext d m1; rw [wr0_bind]; congr; funext e m2; rw [wr0_of]
theorem wr0_onone {Q : Option Int → Mu → Prop} : WR0 (oNone Γ m) Q = Q none m := (rfl)
theorem wr0_osome {c : EC} {Q : Option Int → Mu → Prop} : WR0 (oSome c Γ m) Q = WR0 (c Γ m) fun d m1 => WO0 (asInt d) fun i => Q (some i) m1 := by
  unfold oSome; rw [wr0_bind]; congr; funext d m1; rw [wr0_bind, wr0_of]; rfl
theorem wr0_if {t : TC} {ca cb : EC} : WR0 (cIf t ca cb Γ m) Q = WR0 (t Γ m) fun k m1 => if k = true then WR0 (ca Γ m1) Q else WR0 (cb Γ m1) Q := by
  unfold cIf; rw [wr0_bind]; congr; funext d m1; rw [wr0_ite]
theorem wr0_cAnd {ca cb : EC} : WR0 (cAnd ca cb Γ m) Q = WR0 (ca Γ m) fun d m1 => WO0 (truD m1 d) fun k => if k = true then WR0 (cb Γ m1) Q else Q d m1 := by
  unfold cAnd; rw [wr0_bind]; congr; funext d m1; rw [wr0_bind, wr0_of]; congr; funext k; rw [wr0_ite]; rfl
theorem wr0_cOr {ca cb : EC} : WR0 (cOr ca cb Γ m) Q = WR0 (ca Γ m) fun d m1 => WO0 (truD m1 d) fun k => if k = true then Q d m1 else WR0 (cb Γ m1) Q := by
  unfold cOr; rw [wr0_bind]; congr; funext d m1; rw [wr0_bind, wr0_of]; congr; funext k; rw [wr0_ite]; rfl
theorem wr0_tru {c : EC} : WR0 (tTru c Γ m) QB = WR0 (c Γ m) fun d m1 => WO0 (truD m1 d) fun k => QB k m1 := by
  unfold tTru; rw [wr0_bind]; congr; funext d m1; rw [wr0_of]
theorem wr0_tcmp {g : Mu → D → D → Option D} {ca cb : EC} : WR0 (tCmp g ca cb Γ m) QB = WR0 (c2 g ca cb Γ m) fun d m1 => WO0 (asBl d) fun k => QB k m1 := by
  unfold tCmp; rw [wr0_bind]; congr; funext d m1; rw [wr0_of]
theorem wr0_tand {ta tb : TC} : WR0 (tAnd' ta tb Γ m) QB = WR0 (ta Γ m) fun k m1 => if k = true then WR0 (tb Γ m1) QB else QB false m1 := by
  unfold tAnd'; rw [wr0_bind]; congr; funext d m1; rw [wr0_ite]; rfl
theorem wr0_tor {ta tb : TC} : WR0 (tOr' ta tb Γ m) QB = WR0 (ta Γ m) fun k m1 => if k = true then QB true m1 else WR0 (tb Γ m1) QB := by
  unfold tOr'; rw [wr0_bind]; congr; funext d m1; rw [wr0_ite]; rfl
theorem wr0_tnot {ta : TC} : WR0 (tNot' ta Γ m) QB = WR0 (ta Γ m) fun k m1 => QB (!k) m1 := by unfold tNot'; rw [wr0_bind]; rfl
theorem wr0_iseq {c : EC} : WR0 (iSeq c Γ m) QL = WR0 (c Γ m) fun d m1 => WO0 (itemsD m1 d) fun xs => QL xs m1 := by unfold iSeq; rw [wr0_bind]; congr; funext d m1; rw [wr0_of]
theorem wr0_irg {c : Gam → Mu → R (List D)} : WR0 (iRg c Γ m) QL = WR0 (c Γ m) fun ds m1 => WO0 (rg2 ds) fun xs => QL xs m1 := by unfold iRg; rw [wr0_bind]; congr; funext d m1; rw [wr0_of]
theorem wr0_ien {c : EC} : WR0 (iEn c Γ m) QL = WR0 (c Γ m) fun d m1 => WO0 (enD d) fun xs => QL xs m1 := by unfold iEn; rw [wr0_bind]; congr; funext d m1; rw [wr0_of]
theorem wr0_izp {c : Gam → Mu → R (List D)} : WR0 (iZp c Γ m) QL = WR0 (c Γ m) fun ds m1 => WO0 (zipD ds) fun xs => QL xs m1 := by unfold iZp; rw [wr0_bind]; congr; funext d m1; rw [wr0_of]
theorem wr0_box {c : EC} : WR0 (cBox c Γ m) Q = WR0 (c Γ m) fun d m1 => match d with
  | .lst xs => Q (.box m1.length) (m1 ++ [xs])
  | _ => False := by unfold cBox; rw [wr0_bind]; congr; funext d m1; cases d <;> rfl
theorem wr0_lc {ci : IC} {ct : GC} {tt : TC} {ce : EC} : WR0 (cLc ci ct tt ce Γ m) Q = WR0 (ci Γ m) fun ds m1 => if szOk ds.length = true then WR0 (lcGo ct tt ce Γ ds m1) fun ys m2 => Q (.lst ys) m2 else False := by
  unfold cLc; rw [wr0_bind]; congr; funext d m1; rw [wr0_ite, wr0_bind]; rfl
theorem wr0_noX {r : R α} {Q : α → Mu → Prop} : WR0 (noX r) Q = WR0 r Q := by cases r <;> rfl
theorem ws0_toS {r : R D} {k : D → Mu → SR} : WS0 (toS r Γ k) Qn Qr = WR0 r fun d m1 => WS0 (k d m1) Qn Qr := by cases r <;> rfl
theorem ws0_toSB {r : R Bool} {k : Bool → Mu → SR} : WS0 (toSB r Γ k) Qn Qr = WR0 r fun d m1 => WS0 (k d m1) Qn Qr := by cases r <;> rfl
theorem ws0_toSL {r : R (List D)} {k : List D → Mu → SR} : WS0 (toSL r Γ k) Qn Qr = WR0 r fun d m1 => WS0 (k d m1) Qn Qr := by cases r <;> rfl
theorem ws0_nx : WS0 (.nx Γ m) Qn Qr = Qn Γ m := (rfl)
theorem ws0_rt {d : D} : WS0 (.rt d m) Qn Qr = Qr d m := (rfl)
theorem ws0_bad : WS0 .bad Qn Qr = False := (rfl)
theorem ws0_seq {a b : SC} : WS0 (sSeq a b Γ m) Qn Qr = WS0 (a Γ m) (fun Γ' m' => WS0 (b Γ' m') Qn Qr) Qr := by unfold sSeq; cases a Γ m <;> rfl
theorem ws0_nil : WS0 (sNil Γ m) Qn Qr = Qn Γ m := (rfl)
theorem ws0_set {i : Nat} {c : EC} : WS0 (sSet i c Γ m) Qn Qr = WR0 (c Γ m) fun d m1 => Qn (Γ.set i d) m1 := by unfold sSet; rw [ws0_toS]; rfl
theorem ws0_ret {c : EC} : WS0 (sRet c Γ m) Qn Qr = WR0 (c Γ m) Qr := by unfold sRet; rw [ws0_toS]; rfl
theorem ws0_drop {c : EC} : WS0 (sDrop c Γ m) Qn Qr = WR0 (c Γ m) fun _ m1 => Qn Γ m1 := by unfold sDrop; rw [ws0_toS]; rfl
theorem ws0_if {t : TC} {a b : SC} : WS0 (sIf t a b Γ m) Qn Qr = WR0 (t Γ m) fun k m1 => if k = true then WS0 (a Γ m1) Qn Qr else WS0 (b Γ m1) Qn Qr := by
  unfold sIf; rw [ws0_toSB]; congr; funext k m1; rw [ws0_ite]
theorem ws0_par {i j : Nat} {c1 c2 : EC} : WS0 (sPar i j c1 c2 Γ m) Qn Qr = WR0 (c1 Γ m) fun d m1 => WR0 (c2 Γ m1) fun e m2 => Qn ((Γ.set i d).set j e) m2 := by
  unfold sPar; rw [ws0_toS]; congr; funext d m1; rw [ws0_toS]; rfl
theorem ws0_app {i : Nat} {c : EC} {xs : List D} (h : Γ.getD i .non = .lst xs) : WS0 (sApp i c Γ m) Qn Qr = WR0 (c Γ m) fun d m1 => if szOk (xs.length + 1) = true then Qn (Γ.set i (.lst (xs ++ [d]))) m1 else False := by
  unfold sApp; rw [h]; show WS0 (toS _ _ _) _ _ = _; rw [ws0_toS]; congr; funext d m1; rw [ws0_ite]; rfl
theorem ws0_put {i : Nat} {c ck : EC} : WS0 (sPut i c ck Γ m) Qn Qr = WR0 (c Γ m) fun d m1 => WR0 (ck Γ m1) fun k m2 => match Γ.getD i .non, k with
  | .lst xs, .int j => WO0 (L2.ixN xs.length j) fun n => Qn (Γ.set i (.lst (xs.set n d))) m2
  | _, _ => False := by
  unfold sPut; rw [ws0_toS]; congr; funext d m1; rw [ws0_toS]; congr; funext k m2
  cases Γ.getD i .non <;> try rfl
  cases k <;> try rfl
  rename_i xs j
  show WS0 (match L2.ixN xs.length j with
    | some n => .nx (Γ.set i (.lst (xs.set n d))) m2
    | none => .bad) Qn Qr = WO0 (L2.ixN xs.length j) _
  cases L2.ixN xs.length j <;> rfl
theorem ws0_putB {i : Nat} {c ck : EC} : WS0 (sPutB i c ck Γ m) Qn Qr = WR0 (c Γ m) fun d m1 => WR0 (ck Γ m1) fun k m2 => match Γ.getD i .non, k with
  | .box n, .int j => WO0 m2[n]? fun xs => WO0 (L2.ixN xs.length j) fun l => Qn Γ (m2.set n (xs.set l d))
  | _, _ => False := by
  unfold sPutB; rw [ws0_toS]; congr; funext d m1; rw [ws0_toS]; congr; funext k m2
  cases Γ.getD i .non <;> try rfl
  cases k <;> try rfl
  rename_i n j
  show WS0 (match m2[n]? with
    | some xs => match L2.ixN xs.length j with
      | some l => .nx Γ (m2.set n (xs.set l d))
      | none => .bad
    | none => .bad) Qn Qr = WO0 m2[n]? _
  cases m2[n]? with
  | none => rfl
  | some xs =>
    show WS0 (match L2.ixN xs.length j with
      | some l => .nx Γ (m2.set n (xs.set l d))
      | none => .bad) Qn Qr = WO0 (L2.ixN xs.length j) _
    cases L2.ixN xs.length j <;> rfl
theorem ws0_for {ci : IC} {ct : GC} {cb : SC} : WS0 (sFor ci ct cb Γ m) Qn Qr = WR0 (ci Γ m) fun ds m1 => WS0 (loopS ct cb ds Γ m1) Qn Qr := by unfold sFor; rw [ws0_toSL]
theorem wr0_fnC {n : Nat} {c : SC} {ds : List D} : WR0 (fnC n c ds m) Q = WS0 (c (ds ++ List.replicate n .non) m) (fun _ m' => Q .non m') Q := by unfold fnC; cases c (ds ++ List.replicate n .non) m <;> rfl
theorem wr0_fnF {n : Nat} {c : SC} {ds : List D} : WR0 (fnF n c ds m) Q = WS0 (c (ds ++ List.replicate n .non) m) (fun _ _ => False) Q := by unfold fnF; cases c (ds ++ List.replicate n .non) m <;> rfl
/-- a loop by an invariant over the items that are left -/
theorem ws0_loop {ct : GC} {cb : SC} (I : List D → Gam → Mu → Prop) (hs : ∀ d ds Γ m, I (d :: ds) Γ m → WO0 (ct d Γ) fun Γ1 => WS0 (cb Γ1 m) (fun Γ2 m2 => I ds Γ2 m2) Qr) (he : ∀ Γ m, I [] Γ m → Qn Γ m) : ∀ (ds : List D) (Γ : Gam) (m : Mu), I ds Γ m → WS0 (loopS ct cb ds Γ m) Qn Qr
  | [], Γ, m, h => he Γ m h
  | d :: ds, Γ, m, h => by
    have q := hs d ds Γ m h
    unfold loopS
    cases hc : ct d Γ with
    | none => rw [hc] at q; exact q.elim
    | some Γ1 =>
      rw [hc] at q
      have q : WS0 (cb Γ1 m) (fun Γ2 m2 => I ds Γ2 m2) Qr := q
      show WS0 (match cb Γ1 m with
        | .nx Γ2 m2 => loopS ct cb ds Γ2 m2
        | r => r) Qn Qr
      cases hb : cb Γ1 m with
      | nx Γ2 m2 => rw [hb] at q; exact ws0_loop I hs he ds Γ2 m2 q
      | rt d m' => rw [hb] at q; exact q
      | exc c fs Γ' m' => rw [hb] at q; exact q.elim
      | bad => rw [hb] at q; exact q.elim
/-- a comprehension by an invariant over the items that are left and those that were made -/
theorem wr0_lcGo {ct : GC} {tt : TC} {ce : EC} {Γ : Gam} {QL : List D → Mu → Prop} (I : List D → List D → Mu → Prop) (hs : ∀ d ds acc m, I (d :: ds) acc m → WO0 (ct d Γ) fun Γ1 => WR0 (tt Γ1 m) fun k m1 => if k = true then WR0 (ce Γ1 m1) fun y m2 => I ds (acc ++ [y]) m2 else I ds acc m1) :
    ∀ (ds acc : List D) (m : Mu), I ds acc m → (∀ ys m, I [] (acc ++ ys) m → QL ys m) → WR0 (lcGo ct tt ce Γ ds m) QL
  | [], acc, m, h, q => q [] m (by rw [List.append_nil]; exact h)
  | d :: ds, acc, m, h, q => by
    have z := hs d ds acc m h
    unfold lcGo
    cases hc : ct d Γ with
    | none => rw [hc] at z; exact z.elim
    | some Γ1 =>
      rw [hc] at z
      have z : WR0 (tt Γ1 m) fun k m1 => if k = true then WR0 (ce Γ1 m1) fun y m2 => I ds (acc ++ [y]) m2 else I ds acc m1 := z
      show WR0 ((noX (tt Γ1 m)).bind _) QL
      rw [wr0_bind, wr0_noX]
      refine z.mono fun k m1 hk => ?_
      cases k with
      | false => exact wr0_lcGo I hs ds acc m1 hk q
      | true =>
        show WR0 ((noX (ce Γ1 m1)).bind _) QL
        rw [wr0_bind, wr0_noX]
        refine WR0.mono (show WR0 (ce Γ1 m1) fun y m2 => I ds (acc ++ [y]) m2 from hk) fun y m2 hy => ?_
        rw [wr0_bind]
        exact wr0_lcGo I hs ds (acc ++ [y]) m2 hy fun ys m3 h3 => q (y :: ys) m3 (by rw [List.append_assoc] at h3; exact h3)
end
/-! the same as structures, so that nothing runs the mirrors by unfolding -/
structure WR {α : Type} (r : R α) (Q : α → Mu → Prop) : Prop where go : WR0 r Q
structure WO {α : Type} (o : Option α) (Q : α → Prop) : Prop where go : WO0 o Q
structure WS (r : SR) (Qn : Gam → Mu → Prop) (Qr : D → Mu → Prop) : Prop where go : WS0 r Qn Qr
theorem wr_eq {α : Type} {r : R α} {Q : α → Mu → Prop} : WR r Q = WR0 r Q := propext ⟨fun h => h.go, fun h => ⟨h⟩⟩
theorem wo_eq {α : Type} {o : Option α} {Q : α → Prop} : WO o Q = WO0 o Q := propext ⟨fun h => h.go, fun h => ⟨h⟩⟩
theorem ws_eq {r : SR} {Qn : Gam → Mu → Prop} {Qr : D → Mu → Prop} : WS r Qn Qr = WS0 r Qn Qr := propext ⟨fun h => h.go, fun h => ⟨h⟩⟩
theorem WR.mono {α : Type} {r : R α} {Q Q' : α → Mu → Prop} (h : WR r Q) (q : ∀ a m, Q a m → Q' a m) : WR r Q' := ⟨h.go.mono q⟩
theorem WO.mono {α : Type} {r : Option α} {Q Q' : α → Prop} (h : WO r Q) (q : ∀ a, Q a → Q' a) : WO r Q' := ⟨h.go.mono q⟩
theorem WS.mono {r : SR} {Qn Qn' : Gam → Mu → Prop} {Qr Qr' : D → Mu → Prop} (h : WS r Qn Qr) (q : ∀ a m, Qn a m → Qn' a m) (q' : ∀ a m, Qr a m → Qr' a m) : WS r Qn' Qr' := ⟨h.go.mono q q'⟩
theorem WR.get {α : Type} {r : R α} {Q : α → Mu → Prop} (h : WR r Q) : ∃ a m, r = .ok a m ∧ Q a m := h.go.get
theorem WR.of {α : Type} {r : R α} {a : α} {m : Mu} {Q : α → Mu → Prop} (e : r = .ok a m) (h : Q a m) : WR r Q := ⟨WR0.of e h⟩
section
variable {α β : Type} {Γ : Gam} {m : Mu} {Q : D → Mu → Prop} {QL : List D → Mu → Prop} {QB : Bool → Mu → Prop} {Qn : Gam → Mu → Prop} {Qr : D → Mu → Prop}
@[simp ↓, simp] theorem wr_ok {a : α} {Q : α → Mu → Prop} : WR (.ok a m) Q = Q a m := by simp only [wr_eq, wo_eq, ws_eq]; exact wr0_ok
@[simp ↓, simp] theorem wr_bad {Q : α → Mu → Prop} : WR (.bad : R α) Q = False := by simp only [wr_eq, wo_eq, ws_eq]; exact wr0_bad
@[simp ↓, simp] theorem wo_some {a : α} {Q : α → Prop} : WO (some a) Q = Q a := by simp only [wr_eq, wo_eq, ws_eq]; exact wo0_some
@[simp ↓, simp] theorem wo_none {Q : α → Prop} : WO (none : Option α) Q = False := by simp only [wr_eq, wo_eq, ws_eq]; exact wo0_none
@[simp ↓, simp] theorem wr_bind {r : R α} {f : α → Mu → R β} {Q : β → Mu → Prop} : WR (r.bind f) Q = WR r fun a m => WR (f a m) Q := by simp only [wr_eq, wo_eq, ws_eq]; exact wr0_bind
@[simp ↓, simp] theorem wr_of {o : Option α} {Q : α → Mu → Prop} : WR (R.of o m) Q = WO o fun a => Q a m := by simp only [wr_eq, wo_eq, ws_eq]; exact wr0_of
@[simp ↓, simp] theorem wr_ite {k : Bool} {a b : R α} {Q : α → Mu → Prop} : WR (if k = true then a else b) Q = if k = true then WR a Q else WR b Q := by simp only [wr_eq, wo_eq, ws_eq]; exact wr0_ite
@[simp ↓, simp] theorem ws_ite {k : Bool} {a b : SR} : WS (if k = true then a else b) Qn Qr = if k = true then WS a Qn Qr else WS b Qn Qr := by simp only [wr_eq, wo_eq, ws_eq]; exact ws0_ite
@[simp ↓, simp] theorem wo_ite {k : Bool} {a b : Option α} {Q : α → Prop} : WO (if k = true then a else b) Q = if k = true then WO a Q else WO b Q := by simp only [wr_eq, wo_eq, ws_eq]; exact wo0_ite
@[simp ↓, simp] theorem wr_var {i : Nat} : WR (cVar i Γ m) Q = Q (Γ.getD i .non) m := by simp only [wr_eq, wo_eq, ws_eq]; exact wr0_var
@[simp ↓, simp] theorem wr_c {d : D} : WR (cC d Γ m) Q = Q d m := by simp only [wr_eq, wo_eq, ws_eq]; exact wr0_c
@[simp ↓, simp] theorem wr_c2 {g : Mu → D → D → Option D} {ca cb : EC} : WR (c2 g ca cb Γ m) Q = WR (ca Γ m) fun d m1 => WR (cb Γ m1) fun e m2 => WO (g m2 d e) fun z => Q z m2 := by simp only [wr_eq, wo_eq, ws_eq]; exact wr0_c2
@[simp ↓, simp] theorem wr_c1 {g : Mu → D → Option D} {ca : EC} : WR (c1 g ca Γ m) Q = WR (ca Γ m) fun d m1 => WO (g m1 d) fun z => Q z m1 := by simp only [wr_eq, wo_eq, ws_eq]; exact wr0_c1
@[simp ↓, simp] theorem wr_anil : WR (aNil Γ m) QL = QL [] m := by simp only [wr_eq, wo_eq, ws_eq]; exact wr0_anil
@[simp ↓, simp] theorem wr_acons {ca : EC} {cs : Gam → Mu → R (List D)} : WR (aCons ca cs Γ m) QL = WR (ca Γ m) fun d m1 => WR (cs Γ m1) fun ds m2 => QL (d :: ds) m2 := by simp only [wr_eq, wo_eq, ws_eq]; exact wr0_acons
@[simp ↓, simp] theorem wr_astar {ca : EC} {cs : Gam → Mu → R (List D)} : WR (aStar ca cs Γ m) QL = WR (ca Γ m) fun d m1 => WO (itemsD m1 d) fun xs => WR (cs Γ m1) fun ds m2 => QL (xs ++ ds) m2 := by simp only [wr_eq, wo_eq, ws_eq]; exact wr0_astar
@[simp ↓, simp] theorem wr_lst {cs : Gam → Mu → R (List D)} : WR (cLst cs Γ m) Q = WR (cs Γ m) fun ds m1 => if szOk ds.length = true then Q (.lst ds) m1 else False := by simp only [wr_eq, wo_eq, ws_eq]; exact wr0_lst
@[simp ↓, simp] theorem wr_tup {cs : Gam → Mu → R (List D)} : WR (cTup cs Γ m) Q = WR (cs Γ m) fun ds m1 => if szOk ds.length = true then Q (.tup ds) m1 else False := by simp only [wr_eq, wo_eq, ws_eq]; exact wr0_tup
@[simp ↓, simp] theorem wr_call {G : List D → Mu → R D} {cs : Gam → Mu → R (List D)} : WR (cCall G cs Γ m) Q = WR (cs Γ m) fun ds m1 => WR (G ds m1) Q := by simp only [wr_eq, wo_eq, ws_eq]; exact wr0_call
@[simp ↓, simp] theorem wr_call0 {G : List D → Mu → R D} : WR (cCall0 G Γ m) Q = WR (G [] m) Q := by simp only [wr_eq, wo_eq, ws_eq]; exact wr0_call0
@[simp ↓, simp] theorem wr_callK {is : List Nat} {G : List D → Mu → R D} {cs : Gam → Mu → R (List D)} : WR (cCallK is G cs Γ m) Q = WR (cs Γ m) fun ds m1 => WR (G (permL is ds) m1) Q := by simp only [wr_eq, wo_eq, ws_eq]; exact wr0_callK
@[simp ↓, simp] theorem wr_sl {g : Mu → D → Option Int → Option Int → Option D} {ca : EC} {cl ch : Gam → Mu → R (Option Int)} : WR (cSl g ca cl ch Γ m) Q = WR (ca Γ m) fun d m1 => WR (cl Γ m1) fun lo m2 => WR (ch Γ m2) fun hi m3 => WO (g m3 d lo hi) fun z => Q z m3 := by simp only [wr_eq, wo_eq, ws_eq]; exact wr0_sl
@[simp ↓, simp] theorem wr_onone {Q : Option Int → Mu → Prop} : WR (oNone Γ m) Q = Q none m := by simp only [wr_eq, wo_eq, ws_eq]; exact wr0_onone
@[simp ↓, simp] theorem wr_osome {c : EC} {Q : Option Int → Mu → Prop} : WR (oSome c Γ m) Q = WR (c Γ m) fun d m1 => WO (asInt d) fun i => Q (some i) m1 := by simp only [wr_eq, wo_eq, ws_eq]; exact wr0_osome
@[simp ↓, simp] theorem wr_if {t : TC} {ca cb : EC} : WR (cIf t ca cb Γ m) Q = WR (t Γ m) fun k m1 => if k = true then WR (ca Γ m1) Q else WR (cb Γ m1) Q := by simp only [wr_eq, wo_eq, ws_eq]; exact wr0_if
@[simp ↓, simp] theorem wr_cAnd {ca cb : EC} : WR (cAnd ca cb Γ m) Q = WR (ca Γ m) fun d m1 => WO (truD m1 d) fun k => if k = true then WR (cb Γ m1) Q else Q d m1 := by simp only [wr_eq, wo_eq, ws_eq]; exact wr0_cAnd
@[simp ↓, simp] theorem wr_cOr {ca cb : EC} : WR (cOr ca cb Γ m) Q = WR (ca Γ m) fun d m1 => WO (truD m1 d) fun k => if k = true then Q d m1 else WR (cb Γ m1) Q := by simp only [wr_eq, wo_eq, ws_eq]; exact wr0_cOr
@[simp ↓, simp] theorem wr_tru {c : EC} : WR (tTru c Γ m) QB = WR (c Γ m) fun d m1 => WO (truD m1 d) fun k => QB k m1 := by simp only [wr_eq, wo_eq, ws_eq]; exact wr0_tru
@[simp ↓, simp] theorem wr_tcmp {g : Mu → D → D → Option D} {ca cb : EC} : WR (tCmp g ca cb Γ m) QB = WR (c2 g ca cb Γ m) fun d m1 => WO (asBl d) fun k => QB k m1 := by simp only [wr_eq, wo_eq, ws_eq]; exact wr0_tcmp
@[simp ↓, simp] theorem wr_tand {ta tb : TC} : WR (tAnd' ta tb Γ m) QB = WR (ta Γ m) fun k m1 => if k = true then WR (tb Γ m1) QB else QB false m1 := by simp only [wr_eq, wo_eq, ws_eq]; exact wr0_tand
@[simp ↓, simp] theorem wr_tor {ta tb : TC} : WR (tOr' ta tb Γ m) QB = WR (ta Γ m) fun k m1 => if k = true then QB true m1 else WR (tb Γ m1) QB := by simp only [wr_eq, wo_eq, ws_eq]; exact wr0_tor
@[simp ↓, simp] theorem wr_tnot {ta : TC} : WR (tNot' ta Γ m) QB = WR (ta Γ m) fun k m1 => QB (!k) m1 := by simp only [wr_eq, wo_eq, ws_eq]; exact wr0_tnot
@[simp ↓, simp] theorem wr_iseq {c : EC} : WR (iSeq c Γ m) QL = WR (c Γ m) fun d m1 => WO (itemsD m1 d) fun xs => QL xs m1 := by simp only [wr_eq, wo_eq, ws_eq]; exact wr0_iseq
@[simp ↓, simp] theorem wr_irg {c : Gam → Mu → R (List D)} : WR (iRg c Γ m) QL = WR (c Γ m) fun ds m1 => WO (rg2 ds) fun xs => QL xs m1 := by simp only [wr_eq, wo_eq, ws_eq]; exact wr0_irg
@[simp ↓, simp] theorem wr_ien {c : EC} : WR (iEn c Γ m) QL = WR (c Γ m) fun d m1 => WO (enD d) fun xs => QL xs m1 := by simp only [wr_eq, wo_eq, ws_eq]; exact wr0_ien
@[simp ↓, simp] theorem wr_izp {c : Gam → Mu → R (List D)} : WR (iZp c Γ m) QL = WR (c Γ m) fun ds m1 => WO (zipD ds) fun xs => QL xs m1 := by simp only [wr_eq, wo_eq, ws_eq]; exact wr0_izp
@[simp ↓, simp] theorem wr_box {c : EC} : WR (cBox c Γ m) Q = WR (c Γ m) fun d m1 => match d with
  | .lst xs => Q (.box m1.length) (m1 ++ [xs])
  | _ => False := by simp only [wr_eq, wo_eq, ws_eq]; exact wr0_box
@[simp ↓, simp] theorem wr_lc {ci : IC} {ct : GC} {tt : TC} {ce : EC} : WR (cLc ci ct tt ce Γ m) Q = WR (ci Γ m) fun ds m1 => if szOk ds.length = true then WR (lcGo ct tt ce Γ ds m1) fun ys m2 => Q (.lst ys) m2 else False := by simp only [wr_eq, wo_eq, ws_eq]; exact wr0_lc
@[simp ↓, simp] theorem wr_noX {r : R α} {Q : α → Mu → Prop} : WR (noX r) Q = WR r Q := by simp only [wr_eq, wo_eq, ws_eq]; exact wr0_noX
@[simp ↓, simp] theorem ws_toS {r : R D} {k : D → Mu → SR} : WS (toS r Γ k) Qn Qr = WR r fun d m1 => WS (k d m1) Qn Qr := by simp only [wr_eq, wo_eq, ws_eq]; exact ws0_toS
@[simp ↓, simp] theorem ws_toSB {r : R Bool} {k : Bool → Mu → SR} : WS (toSB r Γ k) Qn Qr = WR r fun d m1 => WS (k d m1) Qn Qr := by simp only [wr_eq, wo_eq, ws_eq]; exact ws0_toSB
@[simp ↓, simp] theorem ws_toSL {r : R (List D)} {k : List D → Mu → SR} : WS (toSL r Γ k) Qn Qr = WR r fun d m1 => WS (k d m1) Qn Qr := by simp only [wr_eq, wo_eq, ws_eq]; exact ws0_toSL
@[simp ↓, simp] theorem ws_nx : WS (.nx Γ m) Qn Qr = Qn Γ m := by simp only [wr_eq, wo_eq, ws_eq]; exact ws0_nx
@[simp ↓, simp] theorem ws_rt {d : D} : WS (.rt d m) Qn Qr = Qr d m := by simp only [wr_eq, wo_eq, ws_eq]; exact ws0_rt
@[simp ↓, simp] theorem ws_bad : WS .bad Qn Qr = False := by simp only [wr_eq, wo_eq, ws_eq]; exact ws0_bad
@[simp ↓, simp] theorem ws_seq {a b : SC} : WS (sSeq a b Γ m) Qn Qr = WS (a Γ m) (fun Γ' m' => WS (b Γ' m') Qn Qr) Qr := by simp only [wr_eq, wo_eq, ws_eq]; exact ws0_seq
@[simp ↓, simp] theorem ws_nil : WS (sNil Γ m) Qn Qr = Qn Γ m := by simp only [wr_eq, wo_eq, ws_eq]; exact ws0_nil
@[simp ↓, simp] theorem ws_set {i : Nat} {c : EC} : WS (sSet i c Γ m) Qn Qr = WR (c Γ m) fun d m1 => Qn (Γ.set i d) m1 := by simp only [wr_eq, wo_eq, ws_eq]; exact ws0_set
@[simp ↓, simp] theorem ws_ret {c : EC} : WS (sRet c Γ m) Qn Qr = WR (c Γ m) Qr := by simp only [wr_eq, wo_eq, ws_eq]; exact ws0_ret
@[simp ↓, simp] theorem ws_drop {c : EC} : WS (sDrop c Γ m) Qn Qr = WR (c Γ m) fun _ m1 => Qn Γ m1 := by simp only [wr_eq, wo_eq, ws_eq]; exact ws0_drop
@[simp ↓, simp] theorem ws_if {t : TC} {a b : SC} : WS (sIf t a b Γ m) Qn Qr = WR (t Γ m) fun k m1 => if k = true then WS (a Γ m1) Qn Qr else WS (b Γ m1) Qn Qr := by simp only [wr_eq, wo_eq, ws_eq]; exact ws0_if
@[simp ↓, simp] theorem ws_par {i j : Nat} {c1 c2 : EC} : WS (sPar i j c1 c2 Γ m) Qn Qr = WR (c1 Γ m) fun d m1 => WR (c2 Γ m1) fun e m2 => Qn ((Γ.set i d).set j e) m2 := by simp only [wr_eq, wo_eq, ws_eq]; exact ws0_par
@[simp ↓, simp] theorem ws_app {i : Nat} {c : EC} {xs : List D} (h : Γ.getD i .non = .lst xs) : WS (sApp i c Γ m) Qn Qr = WR (c Γ m) fun d m1 => if szOk (xs.length + 1) = true then Qn (Γ.set i (.lst (xs ++ [d]))) m1 else False := by simp only [wr_eq, wo_eq, ws_eq]; exact ws0_app h
@[simp ↓, simp] theorem ws_put {i : Nat} {c ck : EC} : WS (sPut i c ck Γ m) Qn Qr = WR (c Γ m) fun d m1 => WR (ck Γ m1) fun k m2 => match Γ.getD i .non, k with
  | .lst xs, .int j => WO (L2.ixN xs.length j) fun n => Qn (Γ.set i (.lst (xs.set n d))) m2
  | _, _ => False := by simp only [wr_eq, wo_eq, ws_eq]; exact ws0_put
@[simp ↓, simp] theorem ws_putB {i : Nat} {c ck : EC} : WS (sPutB i c ck Γ m) Qn Qr = WR (c Γ m) fun d m1 => WR (ck Γ m1) fun k m2 => match Γ.getD i .non, k with
  | .box n, .int j => WO m2[n]? fun xs => WO (L2.ixN xs.length j) fun l => Qn Γ (m2.set n (xs.set l d))
  | _, _ => False := by simp only [wr_eq, wo_eq, ws_eq]; exact ws0_putB
@[simp ↓, simp] theorem ws_for {ci : IC} {ct : GC} {cb : SC} : WS (sFor ci ct cb Γ m) Qn Qr = WR (ci Γ m) fun ds m1 => WS (loopS ct cb ds Γ m1) Qn Qr := by simp only [wr_eq, wo_eq, ws_eq]; exact ws0_for
@[simp ↓, simp] theorem wr_fnC {n : Nat} {c : SC} {ds : List D} : WR (fnC n c ds m) Q = WS (c (ds ++ List.replicate n .non) m) (fun _ m' => Q .non m') Q := by simp only [wr_eq, wo_eq, ws_eq]; exact wr0_fnC
@[simp ↓, simp] theorem wr_fnF {n : Nat} {c : SC} {ds : List D} : WR (fnF n c ds m) Q = WS (c (ds ++ List.replicate n .non) m) (fun _ _ => False) Q := by simp only [wr_eq, wo_eq, ws_eq]; exact wr0_fnF
theorem ws_loop {ct : GC} {cb : SC} (I : List D → Gam → Mu → Prop) (hs : ∀ d ds Γ m, I (d :: ds) Γ m → WO (ct d Γ) fun Γ1 => WS (cb Γ1 m) (fun Γ2 m2 => I ds Γ2 m2) Qr) (he : ∀ Γ m, I [] Γ m → Qn Γ m) : ∀ (ds : List D) (Γ : Gam) (m : Mu), I ds Γ m → WS (loopS ct cb ds Γ m) Qn Qr := by
  simp only [wo_eq, ws_eq] at hs ⊢
  exact ws0_loop I hs he
theorem wr_lcGo {ct : GC} {tt : TC} {ce : EC} {Γ : Gam} {QL : List D → Mu → Prop} (I : List D → List D → Mu → Prop) (hs : ∀ d ds acc m, I (d :: ds) acc m → WO (ct d Γ) fun Γ1 => WR (tt Γ1 m) fun k m1 => if k = true then WR (ce Γ1 m1) fun y m2 => I ds (acc ++ [y]) m2 else I ds acc m1) :
    ∀ (ds acc : List D) (m : Mu), I ds acc m → (∀ ys m, I [] (acc ++ ys) m → QL ys m) → WR (lcGo ct tt ce Γ ds m) QL := by
  simp only [wo_eq, wr_eq] at hs ⊢
  exact wr0_lcGo I hs
end
end Pv

end

section
set_option linter.all false
set_option maxRecDepth 100000
/-! Pn: the operators' values at data whose kind is known. -/
namespace Pv
open PySem L2
variable {m : Mu} {Q : D → Prop} {i j : Int} {n : Nat} {xs ys : List D} {QB : Bool → Prop} {QL : List D → Prop}
@[simp ↓, simp] theorem wo_add : WO (addD m (.int i) (.int j)) Q = Q (.int (i + j)) := wo_eq.trans (rfl)
@[simp ↓, simp] theorem wo_sub : WO (subD m (.int i) (.int j)) Q = Q (.int (i - j)) := wo_eq.trans (rfl)
theorem wo_if {α : Type} {c : Bool} {a : α} {Q : α → Prop} : WO (if c = true then some a else none) Q = (c = true ∧ Q a) := by rw [wo_eq]; cases c <;> simp [WO0]
@[simp ↓, simp] theorem wo_mul : WO (mulD m (.int i) (.int j)) Q = (mulOk i j = true ∧ Q (.int (i * j))) := wo_if
@[simp ↓, simp] theorem wo_mod : WO (modD m (.int i) (.int j)) Q = (0 < j ∧ Q (.int (i % j))) := by unfold modD; rw [wo_if, decide_eq_true_eq]
@[simp ↓, simp] theorem wo_fdiv : WO (fdivD m (.int i) (.int j)) Q = ((0 < j ∧ j.natAbs.log2 < 9000) ∧ Q (.int (i / j))) := by
  unfold fdivD; rw [wo_if, Bool.and_eq_true, decide_eq_true_eq]
  have : Nat.blt j.natAbs.log2 9000 = true ↔ j.natAbs.log2 < 9000 := by rw [Nat.blt_eq]
  rw [this]
@[simp ↓, simp] theorem wo_pow : WO (powD m (.int i) (.int j)) Q = ((0 ≤ j ∧ (i.natAbs.log2 + 1) * j.toNat ≤ 134217728) ∧ Q (.int (i ^ j.toNat))) := by
  unfold powD; rw [wo_if, Bool.and_eq_true, decide_eq_true_eq, Nat.ble_eq]
@[simp ↓, simp] theorem wo_lt : WO (ltD m (.int i) (.int j)) Q = Q (.bl (decide (i < j))) := wo_eq.trans (rfl)
@[simp ↓, simp] theorem wo_gt : WO (gtD m (.int i) (.int j)) Q = Q (.bl (decide (j < i))) := wo_eq.trans (rfl)
@[simp ↓, simp] theorem wo_le : WO (leD m (.int i) (.int j)) Q = Q (.bl (!decide (j < i))) := wo_eq.trans (rfl)
@[simp ↓, simp] theorem wo_ge : WO (geD m (.int i) (.int j)) Q = Q (.bl (!decide (i < j))) := wo_eq.trans (rfl)
@[simp ↓, simp] theorem wo_eqi : WO (eqD m (.int i) (.int j)) Q = Q (.bl (i == j)) := wo_eq.trans (rfl)
@[simp ↓, simp] theorem wo_nei : WO (neD m (.int i) (.int j)) Q = Q (.bl (!(i == j))) := wo_eq.trans (rfl)
@[simp ↓, simp] theorem wo_eqb {a b : Bool} : WO (eqD m (.bl a) (.bl b)) Q = Q (.bl (a == b)) := wo_eq.trans (rfl)
@[simp ↓, simp] theorem wo_neb {a b : Bool} : WO (neD m (.bl a) (.bl b)) Q = Q (.bl (!(a == b))) := wo_eq.trans (rfl)
@[simp ↓, simp] theorem wo_isn {d : D} : WO (isD m d .non) Q = Q (.bl (isNone d)) := wo_eq.trans (rfl)
@[simp ↓, simp] theorem wo_isnn {d : D} : WO (isnD m d .non) Q = Q (.bl (!isNone d)) := wo_eq.trans (rfl)
@[simp ↓, simp] theorem wo_bl {k : Bool} : WO (asBl (.bl k)) QB = QB k := wo_eq.trans (rfl)
@[simp ↓, simp] theorem wo_asint {Q : Int → Prop} : WO (asInt (.int i)) Q = Q i := wo_eq.trans (rfl)
@[simp ↓, simp] theorem wo_len_l : WO (lenD m (.lst xs)) Q = Q (.int xs.length) := wo_eq.trans (rfl)
@[simp ↓, simp] theorem wo_len_t : WO (lenD m (.tup xs)) Q = Q (.int xs.length) := wo_eq.trans (rfl)
@[simp ↓, simp] theorem wo_len_s {ns : List Int} : WO (lenD m (.scr ns)) Q = Q (.int ns.length) := wo_eq.trans (rfl)
@[simp ↓, simp] theorem wo_abs : WO (absD m (.int i)) Q = Q (.int (if i < 0 then -i else i)) := wo_eq.trans (rfl)
@[simp ↓, simp] theorem wo_int : WO (intD m (.int i)) Q = Q (.int i) := wo_eq.trans (rfl)
@[simp ↓, simp] theorem wo_intb {k : Bool} : WO (intD m (.bl k)) Q = Q (.int (if k then 1 else 0)) := wo_eq.trans (rfl)
@[simp ↓, simp] theorem wo_tru_b {k : Bool} : WO (truD m (.bl k)) QB = QB k := wo_eq.trans (rfl)
@[simp ↓, simp] theorem wo_tru_i : WO (truD m (.int i)) QB = QB (i != 0) := wo_eq.trans (rfl)
@[simp ↓, simp] theorem wo_tru_l : WO (truD m (.lst xs)) QB = QB (!xs.isEmpty) := wo_eq.trans (rfl)
@[simp ↓, simp] theorem wo_tru_t : WO (truD m (.tup xs)) QB = QB (!xs.isEmpty) := wo_eq.trans (rfl)
@[simp ↓, simp] theorem wo_tru_n : WO (truD m .non) QB = QB false := wo_eq.trans (rfl)
@[simp ↓, simp] theorem wo_not_b {k : Bool} : WO (notD m (.bl k)) Q = Q (.bl (!k)) := wo_eq.trans (rfl)
@[simp ↓, simp] theorem wo_list_l : WO (listD m (.lst xs)) Q = Q (.lst xs) := wo_eq.trans (rfl)
@[simp ↓, simp] theorem wo_list_t : WO (listD m (.tup xs)) Q = Q (.lst xs) := wo_eq.trans (rfl)
@[simp ↓, simp] theorem wo_tuple_l : WO (tupleD m (.lst xs)) Q = Q (.tup xs) := wo_eq.trans (rfl)
@[simp ↓, simp] theorem wo_tuple_t : WO (tupleD m (.tup xs)) Q = Q (.tup xs) := wo_eq.trans (rfl)
@[simp ↓, simp] theorem wo_items_l : WO (itemsD m (.lst xs)) QL = QL xs := wo_eq.trans (rfl)
@[simp ↓, simp] theorem wo_items_t : WO (itemsD m (.tup xs)) QL = QL xs := wo_eq.trans (rfl)
@[simp ↓, simp] theorem wo_en : WO (enD (.lst xs)) QL = QL (enumI 0 xs) := wo_eq.trans (rfl)
@[simp ↓, simp] theorem wo_zip_l : WO (zipD [.lst xs, .lst ys]) QL = QL (zipI xs ys) := wo_eq.trans (rfl)
@[simp ↓, simp] theorem wo_zip_t : WO (zipD [.tup xs, .tup ys]) QL = QL (zipI xs ys) := wo_eq.trans (rfl)
@[simp ↓, simp] theorem wo_add_l : WO (addD m (.lst xs) (.lst ys)) Q = (szOk (xs.length + ys.length) = true ∧ Q (.lst (xs ++ ys))) := wo_if
@[simp ↓, simp] theorem wo_add_t : WO (addD m (.tup xs) (.tup ys)) Q = (szOk (xs.length + ys.length) = true ∧ Q (.tup (xs ++ ys))) := wo_if
@[simp ↓, simp] theorem wo_ix_l : WO (ixD m (.lst xs) (.int i)) Q = WO (atI xs i) Q := by simp only [wo_eq]; exact (rfl)
@[simp ↓, simp] theorem wo_ix_t : WO (ixD m (.tup xs) (.int i)) Q = WO (atI xs i) Q := by simp only [wo_eq]; exact (rfl)
@[simp ↓, simp] theorem wo_ix_b : WO (ixD m (.box n) (.int i)) Q = WO m[n]? fun xs => WO (atI xs i) Q := by
  simp only [wo_eq]; show WO0 ((m[n]?).bind _) Q = _
  cases m[n]? <;> rfl
@[simp ↓, simp] theorem wo_sl_l {a b : Option Int} : WO (slD m (.lst xs) a b) Q = Q (.lst (cutG xs a b)) := wo_eq.trans (rfl)
@[simp ↓, simp] theorem wo_sl_t {a b : Option Int} : WO (slD m (.tup xs) a b) Q = Q (.tup (cutG xs a b)) := wo_eq.trans (rfl)
@[simp ↓, simp] theorem wo_sl_s {a b : Option Int} {ns : List Int} : WO (slD m (.scr ns) a b) Q = Q (.lst ((cutG ns a b).map .int)) := wo_eq.trans (rfl)
@[simp ↓, simp] theorem wo_gn {Γ : Gam} {d : D} {a : Nat} {Q : Gam → Prop} : WO (gN a d Γ) Q = Q (Γ.set a d) := wo_eq.trans (rfl)
theorem mulOk_l (h : -18446744073709551616 < i) (h' : i < 18446744073709551616) : mulOk i j = true := by unfold mulOk; rw [decide_eq_true (show _ ∧ _ from ⟨h, h'⟩)]; rfl
theorem mulOk_r (h : -18446744073709551616 < j) (h' : j < 18446744073709551616) : mulOk i j = true := by unfold mulOk; rw [decide_eq_true (p := -(18446744073709551616) < j ∧ j < 18446744073709551616) ⟨h, h'⟩, Bool.or_true]; rfl
theorem szOk_of {n : Nat} (h : n ≤ 16777216) : szOk n = true := Nat.ble_eq_true_of_le h
theorem atI_nat {α : Type} {xs : List α} {i : Int} (h : 0 ≤ i) (h' : i < xs.length) : ∃ a, atI xs i = some a ∧ a ∈ xs ∧ xs[i.toNat]? = some a := by
  have hl : i.toNat < xs.length := by omega
  refine ⟨xs[i.toNat], ?_, List.getElem_mem hl, List.getElem?_eq_getElem hl⟩
  unfold atI ixN; rw [if_pos h, if_pos h']; exact List.getElem?_eq_getElem hl
theorem log2_lt {k : Int} (h : 0 ≤ k) (h' : k ≤ 1000000000000000000000000000000000000000000000000000000000000) : k.natAbs.log2 < 9000 := by
  by_cases hz : k.natAbs = 0
  · rw [hz]; decide
  · rw [Nat.log2_lt hz]
    have : k.natAbs ≤ 1000000000000000000000000000000000000000000000000000000000000 := by omega
    exact Nat.lt_of_le_of_lt this (by decide +kernel)
/-- the box of draws: n is its name, t the draws that are left -/
def Bx (t n : Nat) (m : Mu) : Prop := ∃ a b c : Int, m[n]? = some [.int a, .int b, .int c] ∧ 0 ≤ a ∧ 0 ≤ b ∧ 0 ≤ c ∧ c + t ≤ 9223372036854775808
theorem Bx.mono {t u n : Nat} {m : Mu} (h : Bx t n m) (hu : u ≤ t) : Bx u n m := by
  obtain ⟨a, b, c, h1, h2, h3, h4, h5⟩ := h
  exact ⟨a, b, c, h1, h2, h3, h4, by omega⟩
end Pv

end

section
set_option linter.all false
set_option maxRecDepth 100000
/-! Pq: more equations, and rules for comprehensions and loops over rows of things. -/
namespace Pv
open PySem L2
section
variable {α β : Type} {Γ : Gam} {m : Mu} {Q : D → Mu → Prop} {QL : List D → Mu → Prop} {QB : Bool → Mu → Prop} {Qn : Gam → Mu → Prop} {Qr : D → Mu → Prop} {QO : D → Prop}
@[simp ↓, simp] theorem wr_all_nil : WR (cAll [] Γ m) QL = QL [] m := wr_anil
@[simp ↓, simp] theorem wr_all_cons {b : Bool} {c : EC} {r : List (Bool × EC)} : WR (cAll ((b, c) :: r) Γ m) QL = WR (c Γ m) fun d m1 => WR (cAll r Γ m1) fun ds m2 => QL (d :: ds) m2 := wr_acons
@[simp ↓, simp] theorem ws_parN {is : List Nat} {cs : Gam → Mu → R (List D)} : WS (sParN is cs Γ m) Qn Qr = WR (cs Γ m) fun ds m1 => Qn (setAll Γ is ds) m1 := by unfold sParN; rw [ws_toSL]; simp only [ws_nx]
@[simp ↓, simp] theorem setAll_cons {i : Nat} {is : List Nat} {d : D} {ds : List D} : setAll Γ (i :: is) (d :: ds) = setAll (Γ.set i d) is ds := (rfl)
@[simp ↓, simp] theorem setAll_nil : setAll Γ [] [] = Γ := (rfl)
@[simp ↓, simp] theorem ws_asg {c : EC} {ct : GC} : WS (sAsg c ct Γ m) Qn Qr = WR (c Γ m) fun d m1 => WO (ct d Γ) fun Γ1 => Qn Γ1 m1 := by
  unfold sAsg; rw [ws_toS]; congr; funext d m1; cases ct d Γ <;> simp
@[simp ↓, simp] theorem wr_rgL {cs : Gam → Mu → R (List D)} : WR (cRg false cs Γ m) Q = WR (cs Γ m) fun ds m1 => WO (rg2 ds) fun xs => if szOk xs.length = true then Q (.lst xs) m1 else False := by
  unfold cRg; rw [wr_bind, wr_irg]; congr; funext d m1; congr; funext xs; rw [wr_ite]; simp
@[simp ↓, simp] theorem wr_rgT {cs : Gam → Mu → R (List D)} : WR (cRg true cs Γ m) Q = WR (cs Γ m) fun ds m1 => WO (rg2 ds) fun xs => if szOk xs.length = true then Q (.tup xs) m1 else False := by
  unfold cRg; rw [wr_bind, wr_irg]; congr; funext d m1; congr; funext xs; rw [wr_ite]; simp
@[simp ↓, simp] theorem wo_sort {xs : List D} : WO (sortD m (.lst xs)) QO = (sortOk xs = true ∧ QO (.lst (isort xs))) := wo_if
@[simp ↓, simp] theorem wo_gT {ds : List D} {n : Nat} {u : GCs} {Q : Gam → Prop} : WO (gT n u (.tup ds) Γ) Q = (ds.length = n ∧ WO (u ds Γ) Q) := by
  unfold gT; by_cases h : ds.length = n <;> simp [h]
@[simp ↓, simp] theorem wo_gTl {ds : List D} {n : Nat} {u : GCs} {Q : Gam → Prop} : WO (gT n u (.lst ds) Γ) Q = (ds.length = n ∧ WO (u ds Γ) Q) := by
  unfold gT; by_cases h : ds.length = n <;> simp [h]
@[simp ↓, simp] theorem wo_gsNil {Q : Gam → Prop} : WO (gsNil [] Γ) Q = Q Γ := wo_some
@[simp ↓, simp] theorem wo_gsCons {t : GC} {u : GCs} {d : D} {r : List D} {Q : Gam → Prop} : WO (gsCons t u (d :: r) Γ) Q = WO (t d Γ) fun Γ1 => WO (u r Γ1) Q := by
  show WO ((t d Γ).bind fun Γ' => u r Γ') Q = _
  cases t d Γ <;> simp
theorem WR.eq {r : R α} {a : α} (h : WR r fun d m' => d = a ∧ m' = m) : r = .ok a m := by
  obtain ⟨d, m', e, rfl, rfl⟩ := h.get; exact e
theorem WR.eq' {r : R α} {a : α} (h : WR r fun d m' => m' = m ∧ d = a) : r = .ok a m := by
  obtain ⟨d, m', e, rfl, rfl⟩ := h.get; exact e
theorem WO.eq {o : Option α} {a : α} (h : WO o fun d => d = a) : o = some a := by
  cases o with
  | none => rw [wo_none] at h; exact h.elim
  | some b => rw [wo_some] at h; rw [h]
/-- two rows of the same length, place by place -/
inductive All2 (P : α → β → Prop) : List α → List β → Prop
  | nil : All2 P [] []
  | cons {a : α} {b : β} {as : List α} {bs : List β} : P a b → All2 P as bs → All2 P (a :: as) (b :: bs)
theorem All2.len {P : α → β → Prop} : ∀ {as : List α} {bs : List β}, All2 P as bs → as.length = bs.length
  | _, _, .nil => rfl
  | _, _, .cons _ h => by simp [h.len]
theorem All2.map {P : α → β → Prop} {f : β → α} (h : ∀ b, P (f b) b) : ∀ bs : List β, All2 P (bs.map f) bs
  | [] => .nil
  | b :: bs => .cons (h b) (All2.map h bs)
theorem All2.mapM {P : α → β → Prop} {f : β → α} : ∀ {bs : List β}, (∀ b ∈ bs, P (f b) b) → All2 P (bs.map f) bs
  | [], _ => .nil
  | b :: bs, h => .cons (h b List.mem_cons_self) (All2.mapM fun c hc => h c (List.mem_cons_of_mem _ hc))
theorem All2.imp {P P' : α → β → Prop} (h : ∀ a b, P a b → P' a b) : ∀ {as : List α} {bs : List β}, All2 P as bs → All2 P' as bs
  | _, _, .nil => .nil
  | _, _, .cons a r => .cons (h _ _ a) (r.imp h)
theorem All2.eq {f : β → α} : ∀ {as : List α} {bs : List β}, All2 (fun a b => a = f b) as bs → as = bs.map f
  | _, _, .nil => rfl
  | _, _, .cons h r => by rw [h, r.eq]; rfl
theorem All2.app {P : α → β → Prop} : ∀ {as cs : List α} {bs ds : List β}, All2 P as bs → All2 P cs ds → All2 P (as ++ cs) (bs ++ ds)
  | _, _, _, _, .nil, h => h
  | _, _, _, _, .cons a r, h => .cons a (r.app h)
/-- a comprehension over a row that stands for xs: those with p, each by f; nothing is drawn -/
theorem wr_lcR {P : D → α → Prop} {ct : GC} {tt : TC} {ce : EC} (p : α → Bool) (f : α → D) : ∀ {ds : List D} {xs : List α} (h : All2 P ds xs)
    (hs : ∀ d, ∀ x ∈ xs, P d x → WO (ct d Γ) fun Γ1 => WR (tt Γ1 m) fun k m1 => (m1 = m ∧ k = p x) ∧ (p x = true → WR (ce Γ1 m) fun y m2 => m2 = m ∧ y = f x)), lcGo ct tt ce Γ ds m = .ok ((xs.filter p).map f) m
  | _, _, .nil, _ => rfl
  | d :: ds, x :: xs, .cons hp r, hs => by
    have z := hs d x List.mem_cons_self hp
    have ih := wr_lcR p f r fun d' x' hx => hs d' x' (List.mem_cons_of_mem _ hx)
    cases hc : ct d Γ with
    | none => rw [hc, wo_none] at z; exact z.elim
    | some Γ1 =>
      rw [hc, wo_some] at z
      obtain ⟨k, m1, ek, ⟨rfl, rfl⟩, hz⟩ := z.get
      unfold lcGo
      rw [hc]
      simp only [ek]
      show R.bind (R.ok (p x) m1) _ = _
      show (if p x = true then _ else _) = _
      cases hpx : p x
      · rw [if_neg (by decide), List.filter_cons_of_neg (by rw [hpx]; decide)]; exact ih
      · obtain ⟨y, m2, ey, rfl, rfl⟩ := (hz hpx).get
        rw [if_pos rfl, List.filter_cons_of_pos hpx, ey]
        show R.bind (lcGo ct tt ce Γ ds m2) _ = _
        rw [ih]; rfl
/-- the same without a test -/
theorem wr_lcM {P : D → α → Prop} {ct : GC} {ce : EC} (f : α → D) {ds : List D} {xs : List α} (h : All2 P ds xs)
    (hs : ∀ d, ∀ x ∈ xs, P d x → WO (ct d Γ) fun Γ1 => WR (ce Γ1 m) fun y m2 => m2 = m ∧ y = f x) : lcGo ct (fun _ m => .ok true m) ce Γ ds m = .ok (xs.map f) m := by
  have := wr_lcR (m := m) (Γ := Γ) (ct := ct) (tt := fun _ m => .ok true m) (ce := ce) (fun _ => true) f h fun d x hx hp => (hs d x hx hp).mono fun Γ1 h => by rw [wr_ok]; exact ⟨⟨rfl, rfl⟩, fun _ => h⟩
  rwa [List.filter_eq_self.mpr fun _ _ => rfl] at this
/-- a loop over a row that stands for xs, by an invariant over what is done -/
theorem ws_loopR {P : D → α → Prop} {ct : GC} {cb : SC} (I : List α → Gam → Mu → Prop) {ds : List D} {xs : List α} (h : All2 P ds xs)
    (hs : ∀ l x r d, xs = l ++ x :: r → P d x → ∀ Γ m, I l Γ m → WO (ct d Γ) fun Γ1 => WS (cb Γ1 m) (fun Γ2 m2 => I (l ++ [x]) Γ2 m2) Qr) (he : ∀ Γ m, I xs Γ m → Qn Γ m) (h0 : I [] Γ m) : WS (loopS ct cb ds Γ m) Qn Qr := by
  refine ws_loop (fun ds Γ m => ∃ l r, xs = l ++ r ∧ All2 P ds r ∧ I l Γ m) ?_ ?_ ds Γ m ⟨[], xs, rfl, h, h0⟩
  · rintro d ds Γ m ⟨l, r, hx, ha, hi⟩
    cases ha with
    | cons hp ha =>
      refine (hs l _ _ d hx hp Γ m hi).mono fun Γ1 h1 => h1.mono (fun Γ2 m2 h2 => ⟨_, _, ?_, ha, h2⟩) fun _ _ h => h
      rw [hx]; simp
  · rintro Γ m ⟨l, r, hx, ha, hi⟩
    cases ha
    rw [List.append_nil] at hx
    rw [hx] at he
    exact he Γ m hi
end
end Pv

end

section
set_option Elab.async false
set_option linter.all false
set_option maxRecDepth 100000
set_option maxHeartbeats 4000000
namespace Lw
open PySem L2 PySem.W Pv
def topS (i : Nat) : Stmt := PySem.Challenge.pw_surelyposted_k38_what_is_learned_of_shar.main.body.getD i (.Pass ⟨0, 0, 0, 0⟩)
section
variable {P : Program} {w : World} {K : PySem.W.Frag} {mg : Str → Option Value} {base : Heap}
def m_told_number : List D → Mu → R D := fnC 0 ((sRet (c2 modD (c1 sumD' (cVar 0)) (cVar 1))))
abbrev s_told_number : Stmt := topS 1
theorem S_told_number : FnScope ["shares", "modulus"] ["shares", "modulus"] (defScope s_told_number) := ⟨rfl, rfl, rfl, by decide +kernel, rfl, by decide +kernel, by decide +kernel⟩
theorem o_told_number (B : Bn mg) {fa : Addr} {fd : FuncData} (F : FnP K "told_number" s_told_number fa fd) : FnOk P w K mg base CX0 1 fa fd ["shares", "modulus"] (spD K mg false 2 m_told_number) :=
  have S := S_told_number
  fn_ok (k := 0) (n := 0) (f := false) (ω' := []) F S rfl rfl fun cdv A outer s H E M hr =>
    have hu : A.units + 3 + 64 < cLine := hr.units
    svs_one (sv_ret (EV.eb (EB.ev (ev_op opD_mod (ev_sum' B rfl (EV.bv (ev_var 0))) (ev_var 1)))))
def m_how_many_shares : List D → Mu → R D := fnC 4 ((sSeq (sIf (tCmp eqD (c1 lenD (cVar 2)) (cVar 1)) (sRet (c1 intD (c2 eqD (cCall m_told_number (aCons (cLc (iSeq (cVar 2)) (gT 2 (gsCons (gN 6) (gsCons (gN 7) gsNil))) (fun _ m => .ok true m) (cVar 7)) (aCons (cVar 0) aNil))) (cVar 3)))) sNil)
    (sSeq (sSet 4 (cC (.int 1)))
    (sSeq (sFor (iRg (aCons (c2 subD (c2 subD (cVar 1) (cC (.int 1))) (c1 lenD (cVar 2))) aNil)) (gN 5)
    (sSet 4 (c2 mulD (cVar 4) (cVar 0))))
    (sRet (cVar 4))))))
abbrev s_how_many_shares : Stmt := topS 2
theorem S_how_many_shares : FnScope ["modulus", "many", "heard", "number", "found", "turn", "place", "share"] ["modulus", "many", "heard", "number"] (defScope s_how_many_shares) := ⟨rfl, rfl, rfl, by decide +kernel, rfl, by decide +kernel, by decide +kernel⟩
theorem o_how_many_shares (B : Bn mg) (C_told_number : Fn P w K mg base CX0 "told_number" 1 ["shares", "modulus"] false m_told_number) {fa : Addr} {fd : FuncData} (F : FnP K "how_many_shares" s_how_many_shares fa fd) : FnOk P w K mg base CX0 2 fa fd ["modulus", "many", "heard", "number"] (spD K mg false 4 m_how_many_shares) :=
  have S := S_how_many_shares
  fn_ok (k := 1) (n := 4) (f := false) (ω' := []) F S rfl rfl fun cdv A outer s H E M hr =>
    have hu : A.units + 3 + 64 < cLine := hr.units
    svs_cons (sv_if (tv_cmpB (bop_eq hu) (EV.bv (ev_len B (EV.bv (ev_var 2)))) (EV.bv (ev_var 1)) (nomark _)) (svs_one (sv_ret (EV.eb (ev_int' B (EV.bv (bv_cmp (bop_eq hu) (EV.bv (EB.ev (ev_fn C_told_number (hr.mono (by decide)) (av_cons (EB.ev (ev_lcM [("place", 6), ("share", 7)] rfl S.nd (iv_seq (ev_var 2)) (blkOk_by (N := ["modulus", "many", "heard", "number", "found", "turn", "place", "share"]) (sc := defScope s_how_many_shares) (by decide +kernel)) (fun _ _ _ _ _ => gv_tup rfl (gvs_cons (gv_name 6 S.nd) (gvs_cons (gv_name 7 S.nd) (gvs_nil)))) (fun _ _ _ _ _ => tts_nil) (fun _ _ _ _ _ => ev_var 7))) (av_cons (ev_var 0) av_nil)) (len_cons (len_cons len_nil))))) (EV.bv (ev_var 3)) (nomark _))))))) (svs_nil))
      (svs_cons (sv_set 4 S.nd (ev_int))
      (svs_cons (sv_for PassesOwn.never rfl (iv_range1 (av_cons (EB.ev (ev_op opD_sub (EB.ev (ev_op opD_sub (ev_var 1) (ev_int))) (ev_len B (EV.bv (ev_var 2))))) av_nil) (len_cons len_nil) B.range) (gv_name 5 S.nd) (svs_one (sv_set 4 S.nd (EB.ev (ev_op opD_mul (ev_var 4) (ev_var 0))))))
      (svs_one (sv_ret (EV.eb (ev_var 4))))))
def m_learned : List D → Mu → R D := fnC 2 ((sSeq (sIf (tOr' (tCmp eqD (c1 lenD (cVar 2)) (cVar 1)) (tCmp eqD (cVar 0) (cC (.int 1)))) (sRet (cCall m_told_number (aCons (cLc (iSeq (cVar 2)) (gT 2 (gsCons (gN 3) (gsCons (gN 4) gsNil))) (fun _ m => .ok true m) (cVar 4)) (aCons (cVar 0) aNil)))) sNil)
    (sRet (cC .non))))
abbrev s_learned : Stmt := topS 3
theorem S_learned : FnScope ["modulus", "many", "heard", "place", "share"] ["modulus", "many", "heard"] (defScope s_learned) := ⟨rfl, rfl, rfl, by decide +kernel, rfl, by decide +kernel, by decide +kernel⟩
theorem o_learned (B : Bn mg) (C_told_number : Fn P w K mg base CX0 "told_number" 1 ["shares", "modulus"] false m_told_number) {fa : Addr} {fd : FuncData} (F : FnP K "learned" s_learned fa fd) : FnOk P w K mg base CX0 2 fa fd ["modulus", "many", "heard"] (spD K mg false 3 m_learned) :=
  have S := S_learned
  fn_ok (k := 1) (n := 2) (f := false) (ω' := []) F S rfl rfl fun cdv A outer s H E M hr =>
    have hu : A.units + 3 + 64 < cLine := hr.units
    svs_cons (sv_if (tv_bool (wv_or (tv_cmpB (bop_eq hu) (EV.bv (ev_len B (EV.bv (ev_var 2)))) (EV.bv (ev_var 1)) (nomark _)) (wv_or1 (tv_cmpB (bop_eq hu) (EV.bv (ev_var 0)) (EV.bv (ev_int)) (nomark _))))) (svs_one (sv_ret (EV.eb (EB.ev (ev_fn C_told_number (hr.mono (by decide)) (av_cons (EB.ev (ev_lcM [("place", 3), ("share", 4)] rfl S.nd (iv_seq (ev_var 2)) (blkOk_by (N := ["modulus", "many", "heard", "place", "share"]) (sc := defScope s_learned) (by decide +kernel)) (fun _ _ _ _ _ => gv_tup rfl (gvs_cons (gv_name 3 S.nd) (gvs_cons (gv_name 4 S.nd) (gvs_nil)))) (fun _ _ _ _ _ => tts_nil) (fun _ _ _ _ _ => ev_var 4))) (av_cons (ev_var 0) av_nil)) (len_cons (len_cons len_nil))))))) (svs_nil))
      (svs_one (sv_ret (EV.eb (ev_non))))
def m_law_box : List D → Mu → R D := fnF 1 ((sSeq (sSet 2 (cIf (tCmp ltD (cVar 1) (c1 lenD (cVar 0))) (c2 ixD (cVar 0) (cVar 1)) (cC (.int 0))))
    (sRet (cLst (aCons (c2 mulD (c1 absD (cVar 2)) (c1 intD (c2 geD (c1 absD (cVar 2)) (c2 powD (cC (.int 10)) (cC (.int 18)))))) (aCons (c2 addD (c2 addD (c2 modD (c1 intD (cVar 2)) (cC (.int 2305843009213693951))) (c2 mulD (cC (.int 39373)) (cVar 1))) (cC (.int 49020))) (aCons (cC (.int 0)) aNil)))))))
abbrev s_law_box : Stmt := topS 5
theorem S_law_box : FnScope ["_law_script", "_law_k", "_law_cell"] ["_law_script", "_law_k"] (defScope s_law_box) := ⟨rfl, rfl, rfl, by decide +kernel, rfl, by decide +kernel, by decide +kernel⟩
theorem o_law_box (B : Bn mg) {fa : Addr} {fd : FuncData} (F : FnP K "_law_box" s_law_box fa fd) : FnOk P w K mg base CX0 1 fa fd ["_law_script", "_law_k"] (spD K mg true 2 m_law_box) :=
  have S := S_law_box
  fn_ok (k := 0) (n := 1) (f := true) (ω' := []) F S rfl rfl fun cdv A outer s H E M hr =>
    have hu : A.units + 3 + 64 < cLine := hr.units
    svs_cons (sv_set 2 S.nd (EB.ev (ev_if (tv_cmpB (bop_lt hu) (EV.bv (ev_var 1)) (EV.bv (ev_len B (EV.bv (ev_var 0)))) (nomark _)) (EV.eb (ev_ix (EV.bv (ev_var 0)) (EV.bv (ev_var 1)))) (EV.eb (ev_int)))))
      (svs_one (sv_ret (ev_lst (av_cons (EB.ev (ev_op opD_mul (ev_abs B (EV.bv (ev_var 2))) (ev_int' B (EV.bv (bv_cmp (bop_ge hu) (EV.bv (ev_abs B (EV.bv (ev_var 2)))) (EV.bv (EB.ev (ev_op opD_pow (ev_int) (ev_int)))) (nomark _)))))) (av_cons (EB.ev (ev_op opD_add (EB.ev (ev_op opD_add (EB.ev (ev_op opD_mod (ev_int' B (EV.bv (ev_var 2))) (ev_int))) (EB.ev (ev_op opD_mul (ev_int) (ev_var 1))))) (ev_int))) (av_cons (ev_int) av_nil))))))
def m_law_take : List D → Mu → R D := fnC 4 ((sSeq (sIf (tCmp gtD (c2 ixD (cVar 0) (cC (.int 0))) (cC (.int 0))) (sSeq (sSet 5 (c2 modD (c1 intD (c2 ixD (cVar 0) (cC (.int 0)))) (cVar 1)))
    (sSeq (sPutB 0 (c2 fdivD (c2 ixD (cVar 0) (cC (.int 0))) (cVar 1)) (cC (.int 0)))
    (sRet (cVar 5)))) sNil)
    (sSeq (sPutB 0 (c2 addD (c2 ixD (cVar 0) (cC (.int 2))) (cC (.int 1))) (cC (.int 2)))
    (sSeq (sSet 2 (c2 modD (c1 intD (c2 mulD (c2 addD (c2 ixD (cVar 0) (cC (.int 1))) (c2 mulD (cC (.int 48271)) (c2 ixD (cVar 0) (cC (.int 2))))) (c2 addD (cC (.int 39373)) (c2 ixD (cVar 0) (cC (.int 2)))))) (cC (.int 2147483647))))
    (sSeq (sSet 3 (c2 addD (c2 modD (c1 intD (cVar 2)) (cC (.int 40009))) (cC (.int 7))))
    (sSeq (sSet 4 (c2 modD (c1 intD (c2 mulD (c2 addD (c2 addD (cVar 2) (c2 ixD (cVar 0) (cC (.int 2)))) (c2 fdivD (c2 ixD (cVar 0) (cC (.int 1))) (cC (.int 1000003)))) (cVar 3))) (cC (.int 2147483629))))
    (sRet (c2 modD (c1 intD (c2 fdivD (c2 modD (c1 intD (c2 addD (c2 mulD (cVar 4) (cC (.int 48271))) (cVar 2))) (cC (.int 2147483587))) (cC (.int 64)))) (cVar 1)))))))))
abbrev s_law_take : Stmt := topS 6
theorem S_law_take : FnScope ["_law_box_here", "_law_below_so", "_law_once", "_law_far_so", "_law_twice_so", "_law_drawn_so"] ["_law_box_here", "_law_below_so"] (defScope s_law_take) := ⟨rfl, rfl, rfl, by decide +kernel, rfl, by decide +kernel, by decide +kernel⟩
theorem o_law_take (B : Bn mg) {fa : Addr} {fd : FuncData} (F : FnP K "_law_take" s_law_take fa fd) : FnOk P w K mg base CX0 1 fa fd ["_law_box_here", "_law_below_so"] (spD K mg false 2 m_law_take) :=
  have S := S_law_take
  fn_ok (k := 0) (n := 4) (f := false) (ω' := []) F S rfl rfl fun cdv A outer s H E M hr =>
    have hu : A.units + 3 + 64 < cLine := hr.units
    svs_cons (sv_if (tv_cmpB (bop_gt hu) (EV.bv (ev_ix (EV.bv (ev_var 0)) (EV.bv (ev_int)))) (EV.bv (ev_int)) (nomark _)) (svs_cons (sv_set 5 S.nd (EB.ev (ev_op opD_mod (ev_int' B (EV.bv (ev_ix (EV.bv (ev_var 0)) (EV.bv (ev_int))))) (ev_var 1))))
      (svs_cons (sv_putB 0 (EB.ev (ev_op opD_fdiv (ev_ix (EV.bv (ev_var 0)) (EV.bv (ev_int))) (ev_var 1))) (ev_int) rfl rfl (ps_asg (EB.ev (ev_op opD_fdiv (ev_ix (EV.bv (ev_var 0)) (EV.bv (ev_int))) (ev_var 1))) (pg_sub (pv 0) (ev_int) set_list)))
      (svs_one (sv_ret (EV.eb (ev_var 5)))))) (svs_nil))
      (svs_cons (sv_putB 0 (EB.ev (ev_op opD_add (ev_ix (EV.bv (ev_var 0)) (EV.bv (ev_int))) (ev_int))) (ev_int) rfl rfl (ps_asg (EB.ev (ev_op opD_add (ev_ix (EV.bv (ev_var 0)) (EV.bv (ev_int))) (ev_int))) (pg_sub (pv 0) (ev_int) set_list)))
      (svs_cons (sv_set 2 S.nd (EB.ev (ev_op opD_mod (ev_int' B (EV.bv (EB.ev (ev_op opD_mul (EB.ev (ev_op opD_add (ev_ix (EV.bv (ev_var 0)) (EV.bv (ev_int))) (EB.ev (ev_op opD_mul (ev_int) (ev_ix (EV.bv (ev_var 0)) (EV.bv (ev_int))))))) (EB.ev (ev_op opD_add (ev_int) (ev_ix (EV.bv (ev_var 0)) (EV.bv (ev_int))))))))) (ev_int))))
      (svs_cons (sv_set 3 S.nd (EB.ev (ev_op opD_add (EB.ev (ev_op opD_mod (ev_int' B (EV.bv (ev_var 2))) (ev_int))) (ev_int))))
      (svs_cons (sv_set 4 S.nd (EB.ev (ev_op opD_mod (ev_int' B (EV.bv (EB.ev (ev_op opD_mul (EB.ev (ev_op opD_add (EB.ev (ev_op opD_add (ev_var 2) (ev_ix (EV.bv (ev_var 0)) (EV.bv (ev_int))))) (EB.ev (ev_op opD_fdiv (ev_ix (EV.bv (ev_var 0)) (EV.bv (ev_int))) (ev_int))))) (ev_var 3))))) (ev_int))))
      (svs_one (sv_ret (EV.eb (EB.ev (ev_op opD_mod (ev_int' B (EV.bv (EB.ev (ev_op opD_fdiv (EB.ev (ev_op opD_mod (ev_int' B (EV.bv (EB.ev (ev_op opD_add (EB.ev (ev_op opD_mul (ev_var 4) (ev_int))) (ev_var 2))))) (ev_int))) (ev_int))))) (ev_var 1))))))))))
def m_law_cells : List D → Mu → R D := fnF 4 ((sSeq (sSet 2 (cOr (c1 listD (cSl slD (cVar 0) oNone (oSome (cVar 1)))) (cLst (aCons (cC (.int 0)) aNil))))
    (sSeq (sFor (iEn (cSl slD (cVar 0) (oSome (cVar 1)) (oSome (cC (.int 63))))) (gT 2 (gsCons (gN 3) (gsCons (gN 4) gsNil)))
    (sSeq (sSet 5 (c2 modD (c1 intD (cVar 3)) (cVar 1)))
    (sPut 2 (c2 addD (c2 ixD (cVar 2) (cVar 5)) (c2 mulD (cVar 4) (c2 addD (cVar 3) (cC (.int 2))))) (cVar 5))))
    (sRet (cVar 2)))))
abbrev s_law_cells : Stmt := topS 7
theorem S_law_cells : FnScope ["_law_script", "_law_most_so", "_law_cells_here", "_law_k", "_law_cell", "_law_at_so"] ["_law_script", "_law_most_so"] (defScope s_law_cells) := ⟨rfl, rfl, rfl, by decide +kernel, rfl, by decide +kernel, by decide +kernel⟩
theorem o_law_cells (B : Bn mg) {fa : Addr} {fd : FuncData} (F : FnP K "_law_cells" s_law_cells fa fd) : FnOk P w K mg base CX0 1 fa fd ["_law_script", "_law_most_so"] (spD K mg true 2 m_law_cells) :=
  have S := S_law_cells
  fn_ok (k := 0) (n := 4) (f := true) (ω' := []) F S rfl rfl fun cdv A outer s H E M hr =>
    have hu : A.units + 3 + 64 < cLine := hr.units
    svs_cons (sv_setF 2 S.nd (ev_orF (ev_list B (EV.bv (EB.ev (ev_sl sl_all (EV.bv (ev_var 0)) ov_none (ov_some (ev_var 1)))))) (ev_one (ev_lst (av_cons (ev_int) av_nil)))))
      (svs_cons (sv_for PassesOwn.never rfl (iv_enum B (EB.ev (ev_sl sl_all (EV.bv (ev_var 0)) (ov_some (ev_var 1)) (ov_some (ev_int))))) (gv_tup rfl (gvs_cons (gv_name 3 S.nd) (gvs_cons (gv_name 4 S.nd) (gvs_nil)))) (svs_cons (sv_set 5 S.nd (EB.ev (ev_op opD_mod (ev_int' B (EV.bv (ev_var 3))) (ev_var 1))))
      (svs_one (sv_put 2 (EB.ev (ev_op opD_add (ev_ix (bv_own 2) (EV.bv (ev_var 5))) (EB.ev (ev_op opD_mul (ev_var 4) (EB.ev (ev_op opD_add (ev_var 3) (ev_int))))))) (ev_var 5) rfl rfl (ps_asg (EB.ev (ev_op opD_add (ev_ix (bv_own 2) (EV.bv (ev_var 5))) (EB.ev (ev_op opD_mul (ev_var 4) (EB.ev (ev_op opD_add (ev_var 3) (ev_int))))))) (pg_sub (pv 2) (ev_var 5) set_list))))))
      (svs_one (sv_retOwn 2)))
def m_law_lists : Nat → List D → Mu → R D
  | 0 => fun _ _ => .bad
  | n + 1 => fnC 1 ((sRet (cIf (tTru (c1 (isi2D .list .tuple) (cVar 0))) (cLc (iSeq (cVar 0)) (gN 1) (fun _ m => .ok true m) (cCall (m_law_lists n) (aCons (cVar 1) aNil))) (cVar 0))))
abbrev s_law_lists : Stmt := topS 8
theorem S_law_lists : FnScope ["_law_matter", "_law_bit"] ["_law_matter"] (defScope s_law_lists) := ⟨rfl, rfl, rfl, by decide +kernel, rfl, by decide +kernel, by decide +kernel⟩
theorem o_law_lists (B : Bn mg) {fa : Addr} {fd : FuncData} (F : FnP K "_law_lists" s_law_lists fa fd) (hm : mg "_law_lists" = some (.ref fa)) (hb : Binds K fd ["_law_matter"] []) : ∀ n : Nat, FnOk P w K mg base CX0 (1 + n) fa fd ["_law_matter"] (spD K mg false 1 (m_law_lists n))
  | 0 => fn_none
  | n + 1 =>
    have C_law_lists : Fn P w K mg base CX0 "_law_lists" (1 + n) ["_law_matter"] false (m_law_lists n) := ⟨fa, fd, hm, F.kp, hb, o_law_lists B F hm hb n⟩
    have S := S_law_lists
    fn_ok (k := 1 + n) (n := 1) (f := false) (ω' := []) F S rfl rfl fun cdv A outer s H E M hr =>
      have hu : A.units + 3 + 64 < cLine := hr.units
      svs_one (sv_ret (EV.eb (EB.ev (ev_if (tv_val (EV.bv (ev_isLT B (EV.bv (ev_var 0))))) (EV.eb (EB.ev (ev_lcM [("_law_bit", 1)] rfl S.nd (iv_seq (ev_var 0)) (blkOk_by (N := ["_law_matter", "_law_bit"]) (sc := defScope s_law_lists) (by decide +kernel)) (fun _ _ _ _ _ => gv_name 1 S.nd) (fun _ _ _ _ _ => tts_nil) (fun _ _ _ _ _ => EB.ev (ev_fn C_law_lists hr (av_cons (ev_var 1) av_nil) (len_cons len_nil)))))) (EV.eb (ev_var 0))))))
def m_law_same : Nat → List D → Mu → R D
  | 0 => fun _ _ => .bad
  | n + 1 => fnC 2 ((sSeq (sIf (tTru (c1 (isi2D .list .tuple) (cVar 1))) (sSeq (sIf (tOr' (tCmp neD (c1 (isiD .list) (cVar 0)) (c1 (isiD .list) (cVar 1))) (tCmp neD (c1 (isiD .tuple) (cVar 0)) (c1 (isiD .tuple) (cVar 1)))) (sRet (cC (.bl false))) sNil)
    (sRet (cAnd (c2 eqD (c1 lenD (cVar 0)) (c1 lenD (cVar 1))) (c1 allD (cLc (iZp (aCons (cVar 0) (aCons (cVar 1) aNil))) (gT 2 (gsCons (gN 2) (gsCons (gN 3) gsNil))) (fun _ m => .ok true m) (cCall (m_law_same n) (aCons (cVar 2) (aCons (cVar 3) aNil)))))))) sNil)
    (sSeq (sIf (tOr' (tCmp isD (cVar 1) (cC .non)) (tTru (c1 (isi2D .bool .str) (cVar 1)))) (sRet (cAnd (c2 eqD (cVar 0) (cVar 1)) (cAnd (c2 eqD (c1 (isiD .bool) (cVar 0)) (c1 (isiD .bool) (cVar 1))) (c2 eqD (c2 isD (cVar 0) (cC .non)) (c2 isD (cVar 1) (cC .non)))))) sNil)
    (sRet (cAnd (c1 (isiD .int) (cVar 0)) (cAnd (c1 notD (c1 (isiD .bool) (cVar 0))) (c2 eqD (cVar 0) (cVar 1))))))))
abbrev s_law_same : Stmt := topS 9
theorem S_law_same : FnScope ["_law_got", "_law_due_so", "_law_own", "_law_far"] ["_law_got", "_law_due_so"] (defScope s_law_same) := ⟨rfl, rfl, rfl, by decide +kernel, rfl, by decide +kernel, by decide +kernel⟩
theorem o_law_same (B : Bn mg) {fa : Addr} {fd : FuncData} (F : FnP K "_law_same" s_law_same fa fd) (hm : mg "_law_same" = some (.ref fa)) (hb : Binds K fd ["_law_got", "_law_due_so"] []) : ∀ n : Nat, FnOk P w K mg base CX0 (1 + n) fa fd ["_law_got", "_law_due_so"] (spD K mg false 2 (m_law_same n))
  | 0 => fn_none
  | n + 1 =>
    have C_law_same : Fn P w K mg base CX0 "_law_same" (1 + n) ["_law_got", "_law_due_so"] false (m_law_same n) := ⟨fa, fd, hm, F.kp, hb, o_law_same B F hm hb n⟩
    have S := S_law_same
    fn_ok (k := 1 + n) (n := 2) (f := false) (ω' := []) F S rfl rfl fun cdv A outer s H E M hr =>
      have hu : A.units + 3 + 64 < cLine := hr.units
      svs_cons (sv_if (tv_val (EV.bv (ev_isLT B (EV.bv (ev_var 1))))) (svs_cons (sv_if (tv_bool (wv_or (tv_cmpB (bop_ne hu) (EV.bv (ev_isL B (EV.bv (ev_var 0)))) (EV.bv (ev_isL B (EV.bv (ev_var 1)))) (nomark _)) (wv_or1 (tv_cmpB (bop_ne hu) (EV.bv (ev_isT B (EV.bv (ev_var 0)))) (EV.bv (ev_isT B (EV.bv (ev_var 1)))) (nomark _))))) (svs_one (sv_ret (EV.eb (ev_bl)))) (svs_nil))
      (svs_one (sv_ret (EV.eb (ev_and (bv_cmp (bop_eq hu) (EV.bv (ev_len B (EV.bv (ev_var 0)))) (EV.bv (ev_len B (EV.bv (ev_var 1)))) (nomark _)) (EB.ev (ev_one (EV.eb (ev_all B rfl (EV.bv (EB.ev (ev_lcM [("_law_own", 2), ("_law_far", 3)] rfl S.nd (iv_zip B (av_cons (ev_var 0) (av_cons (ev_var 1) av_nil))) (blkOk_by (N := ["_law_got", "_law_due_so", "_law_own", "_law_far"]) (sc := defScope s_law_same) (by decide +kernel)) (fun _ _ _ _ _ => gv_tup rfl (gvs_cons (gv_name 2 S.nd) (gvs_cons (gv_name 3 S.nd) (gvs_nil)))) (fun _ _ _ _ _ => tts_nil) (fun _ _ _ _ _ => EB.ev (ev_fn C_law_same hr (av_cons (ev_var 2) (av_cons (ev_var 3) av_nil)) (len_cons (len_cons len_nil)))))))))))))))) (svs_nil))
      (svs_cons (sv_if (tv_bool (wv_or (tv_cmpB (bop_is) (EV.bv (ev_var 1)) (EV.bv (ev_non)) (nomark _)) (wv_or1 (tv_val (EV.bv (ev_isBS B (EV.bv (ev_var 1)))))))) (svs_one (sv_ret (EV.eb (ev_and (bv_cmp (bop_eq hu) (EV.bv (ev_var 0)) (EV.bv (ev_var 1)) (nomark _)) (ev_and (bv_cmp (bop_eq hu) (EV.bv (ev_isB B (EV.bv (ev_var 0)))) (EV.bv (ev_isB B (EV.bv (ev_var 1)))) (nomark _)) (EB.ev (ev_one (EV.eb (bv_cmp (bop_eq hu) (EV.bv (bv_cmp (bop_is) (EV.bv (ev_var 0)) (EV.bv (ev_non)) (nomark _))) (EV.bv (bv_cmp (bop_is) (EV.bv (ev_var 1)) (EV.bv (ev_non)) (nomark _))) (nomark _)))))))))) (svs_nil))
      (svs_one (sv_ret (EV.eb (ev_and (ev_isI B (EV.bv (ev_var 0))) (ev_and (ev_not (EV.bv (ev_isB B (EV.bv (ev_var 0))))) (EB.ev (ev_one (EV.eb (bv_cmp (bop_eq hu) (EV.bv (ev_var 0)) (EV.bv (ev_var 1)) (nomark _)))))))))))
def m_law_mixed : List D → Mu → R D := fnF 4 ((sSeq (sPar 3 4 (c1 listD (cVar 1)) (cLst aNil))
    (sSeq (sFor (iRg (aCons (c1 lenD (cVar 1)) aNil)) (gN 2)
    (sSeq (sSet 5 (cCall m_law_take (aCons (cVar 0) (aCons (c1 lenD (cVar 3)) aNil))))
    (sSeq (sApp 4 (c2 ixD (cVar 3) (cVar 5)))
    (sSet 3 (c2 addD (cSl slD (cVar 3) oNone (oSome (cVar 5))) (cSl slD (cVar 3) (oSome (c2 addD (cVar 5) (cC (.int 1)))) oNone))))))
    (sRet (cVar 4)))))
abbrev s_law_mixed : Stmt := topS 10
theorem S_law_mixed : FnScope ["_law_box_here", "_law_rows_so", "_law_turn", "_law_rest_so", "_law_found", "_law_at_so"] ["_law_box_here", "_law_rows_so"] (defScope s_law_mixed) := ⟨rfl, rfl, rfl, by decide +kernel, rfl, by decide +kernel, by decide +kernel⟩
theorem o_law_mixed (B : Bn mg) (C_law_take : Fn P w K mg base CX0 "_law_take" 1 ["_law_box_here", "_law_below_so"] false m_law_take) {fa : Addr} {fd : FuncData} (F : FnP K "_law_mixed" s_law_mixed fa fd) : FnOk P w K mg base CX0 2 fa fd ["_law_box_here", "_law_rows_so"] (spD K mg true 2 m_law_mixed) :=
  have S := S_law_mixed
  fn_ok (k := 1) (n := 4) (f := true) (ω' := []) F S rfl rfl fun cdv A outer s H E M hr =>
    have hu : A.units + 3 + 64 < cLine := hr.units
    svs_cons (sv_par 3 4 false true (ps_par rfl S.nd rfl rfl (by decide) rfl rfl (pa_cons (EV.eb (EB.ev (ev_list B (EV.bv (ev_var 1))))) (pa_cons (ev_lst av_nil) pa_nil)) (by rfl)))
      (svs_cons (sv_for PassesOwn.never rfl (iv_range1 (av_cons (ev_len B (EV.bv (ev_var 1))) av_nil) (len_cons len_nil) B.range) (gv_name 2 S.nd) (svs_cons (sv_set 5 S.nd (EB.ev (ev_fn C_law_take (hr.mono (by decide)) (av_cons (ev_var 0) (av_cons (ev_len B (EV.bv (ev_var 3))) av_nil)) (len_cons (len_cons len_nil)))))
      (svs_cons (sv_app 4 rfl rfl (ps_expr (pe_bm PySem.F.plainAttrs_list PySem.F.slot_list_append PySem.F.type_list_append mt_append (pv 4) (pa_cons (ev_ix (EV.bv (ev_var 3)) (EV.bv (ev_var 5))) pa_nil))))
      (svs_one (sv_set 3 S.nd (EB.ev (ev_op opD_add (EB.ev (ev_sl sl_all (EV.bv (ev_var 3)) ov_none (ov_some (ev_var 5)))) (EB.ev (ev_sl sl_all (EV.bv (ev_var 3)) (ov_some (EB.ev (ev_op opD_add (ev_var 5) (ev_int)))) ov_none)))))))))
      (svs_one (sv_retOwn 4)))
def m_law_rows : List D → Mu → R D := fnC 5 ((sSeq (sSet 2 (cLst (aCons (cTup aNil) aNil)))
    (sSeq (sFor (iRg (aCons (cVar 1) aNil)) (gN 3)
    (sSeq (sSet 4 (cLst aNil))
    (sSeq (sFor (iSeq (cVar 2)) (gN 5)
    (sSet 4 (c2 addD (cVar 4) (cLc (iRg (aCons (cVar 0) aNil)) (gN 6) (fun _ m => .ok true m) (c2 addD (cVar 5) (cTup (aCons (cVar 6) aNil)))))))
    (sSet 2 (cVar 4)))))
    (sRet (cVar 2)))))
abbrev s_law_rows : Stmt := topS 11
theorem S_law_rows : FnScope ["_law_top_so", "_law_many_so", "_law_found", "_law_lap", "_law_later_so", "_law_own", "_law_k"] ["_law_top_so", "_law_many_so"] (defScope s_law_rows) := ⟨rfl, rfl, rfl, by decide +kernel, rfl, by decide +kernel, by decide +kernel⟩
theorem o_law_rows (B : Bn mg) {fa : Addr} {fd : FuncData} (F : FnP K "_law_rows" s_law_rows fa fd) : FnOk P w K mg base CX0 1 fa fd ["_law_top_so", "_law_many_so"] (spD K mg false 2 m_law_rows) :=
  have S := S_law_rows
  fn_ok (k := 0) (n := 5) (f := false) (ω' := []) F S rfl rfl fun cdv A outer s H E M hr =>
    have hu : A.units + 3 + 64 < cLine := hr.units
    svs_cons (sv_set 2 S.nd (EB.ev (ev_lst (av_cons (ev_tup av_nil) av_nil))))
      (svs_cons (sv_for PassesOwn.never rfl (iv_range1 (av_cons (ev_var 1) av_nil) (len_cons len_nil) B.range) (gv_name 3 S.nd) (svs_cons (sv_set 4 S.nd (EB.ev (ev_lst av_nil)))
      (svs_cons (sv_for PassesOwn.never rfl (iv_seq (ev_var 2)) (gv_name 5 S.nd) (svs_one (sv_set 4 S.nd (EB.ev (ev_op opD_add (ev_var 4) (EB.ev (ev_lcM [("_law_k", 6)] rfl S.nd (iv_range1 (av_cons (ev_var 0) av_nil) (len_cons len_nil) B.range) (blkOk_by (N := ["_law_top_so", "_law_many_so", "_law_found", "_law_lap", "_law_later_so", "_law_own", "_law_k"]) (sc := defScope s_law_rows) (by decide +kernel)) (fun _ _ _ _ _ => gv_name 6 S.nd) (fun _ _ _ _ _ => tts_nil) (fun _ _ _ _ _ => EB.ev (ev_op opD_add (ev_var 5) (ev_tup (av_cons (ev_var 6) av_nil)))))))))))
      (svs_one (sv_set 2 S.nd (ev_var 4))))))
      (svs_one (sv_ret (EV.eb (ev_var 2)))))
def m_law_by_hand_right : List D → Mu → R D := fnC 6 ((sSeq (sSet 0 (c2 powD (cC (.int 10)) (cC (.int 40))))
    (sSeq (sSet 1 (cTup (aCons (cTup (aCons (cC (.int 0)) (aCons (cC (.int 4)) aNil))) (aCons (cTup (aCons (cC (.int 1)) (aCons (cC (.int 3)) aNil))) aNil))))
    (sSeq (sSet 2 (cLst (aCons (cCall m_how_many_shares (aCons (cC (.int 10)) (aCons (cC (.int 2)) (aCons (cTup (aCons (cTup (aCons (cC (.int 0)) (aCons (cC (.int 4)) aNil))) aNil)) (aCons (cC (.int 7)) aNil))))) (aCons (cCall m_how_many_shares (aCons (cC (.int 10)) (aCons (cC (.int 3)) (aCons (cTup aNil) (aCons (cC (.int 7)) aNil))))) (aCons (cCall m_how_many_shares (aCons (cC (.int 10)) (aCons (cC (.int 2)) (aCons (cVar 1) (aCons (cC (.int 7)) aNil))))) aNil)))))
    (sSeq (sSet 2 (c2 addL (cVar 2) (cLst (aCons (cCall m_how_many_shares (aCons (cC (.int 10)) (aCons (cC (.int 2)) (aCons (cVar 1) (aCons (cC (.int 8)) aNil))))) (aCons (cCall m_how_many_shares (aCons (cC (.int 1)) (aCons (cC (.int 5)) (aCons (cTup aNil) (aCons (cC (.int 0)) aNil))))) (aCons (cCall m_how_many_shares (aCons (cC (.int 6)) (aCons (cC (.int 1)) (aCons (cTup aNil) (aCons (cC (.int 5)) aNil))))) aNil))))))
    (sSeq (sSet 3 (cLst (aCons (cC (.int 1)) (aCons (cC (.int 100)) (aCons (cC (.int 1)) (aCons (cC (.int 0)) (aCons (cC (.int 1)) (aCons (cC (.int 1)) aNil))))))))
    (sSeq (sSet 2 (c2 addL (cVar 2) (cLst (aCons (cCall m_learned (aCons (cC (.int 10)) (aCons (cC (.int 2)) (aCons (cVar 1) aNil)))) (aCons (cCall m_learned (aCons (cC (.int 10)) (aCons (cC (.int 2)) (aCons (cTup (aCons (cTup (aCons (cC (.int 1)) (aCons (cC (.int 3)) aNil))) aNil)) aNil)))) (aCons (cCall m_learned (aCons (cC (.int 1)) (aCons (cC (.int 3)) (aCons (cTup aNil) aNil)))) (aCons (cCall m_learned (aCons (cC (.int 2)) (aCons (cC (.int 1)) (aCons (cTup aNil) aNil)))) aNil)))))))
    (sSeq (sApp 2 (cCall m_learned (aCons (cC (.int 7)) (aCons (cC (.int 1)) (aCons (cTup (aCons (cTup (aCons (cC (.int 0)) (aCons (cC (.int 6)) aNil))) aNil)) aNil)))))
    (sSeq (sSet 3 (c2 addD (cVar 3) (cLst (aCons (cC (.int 7)) (aCons (cC .non) (aCons (cC (.int 0)) (aCons (cC .non) (aCons (cC (.int 6)) aNil))))))))
    (sSeq (sSet 2 (c2 addL (cVar 2) (cLst (aCons (cCall m_how_many_shares (aCons (cVar 0) (aCons (cC (.int 3)) (aCons (cTup (aCons (cTup (aCons (cC (.int 1)) (aCons (c2 subD (cVar 0) (cC (.int 1))) aNil))) aNil)) (aCons (cC (.int 5)) aNil))))) (aCons (c2 eqD (cCall m_how_many_shares (aCons (cVar 0) (aCons (cC (.int 60)) (aCons (cTup aNil) (aCons (cC (.int 1)) aNil))))) (c2 powD (cVar 0) (cC (.int 59)))) aNil)))))
    (sSeq (sSet 3 (c2 addD (cVar 3) (cLst (aCons (cVar 0) (aCons (cC (.bl true)) aNil)))))
    (sSeq (sSet 4 (c1 tupleD (cLc (iRg (aCons (cC (.int 60)) aNil)) (gN 5) (fun _ m => .ok true m) (cTup (aCons (cVar 5) (aCons (c2 subD (cVar 0) (cC (.int 1))) aNil))))))
    (sSeq (sSet 2 (c2 addL (cVar 2) (cLst (aCons (cCall m_learned (aCons (cVar 0) (aCons (cC (.int 60)) (aCons (cVar 4) aNil)))) (aCons (cCall m_learned (aCons (cVar 0) (aCons (cC (.int 60)) (aCons (cSl slD (cVar 4) (oSome (cC (.int 1))) oNone) aNil)))) aNil)))))
    (sSeq (sApp 2 (cCall m_how_many_shares (aCons (cVar 0) (aCons (cC (.int 60)) (aCons (cVar 4) (aCons (c2 subD (cVar 0) (cC (.int 60))) aNil))))))
    (sSeq (sSet 3 (c2 addD (cVar 3) (cLst (aCons (c2 subD (cVar 0) (cC (.int 60))) (aCons (cC .non) (aCons (cC (.int 1)) aNil))))))
    (sSeq (sApp 2 (cCallK [3, 2, 1, 0] m_how_many_shares (aCons (cC (.int 7)) (aCons (cLst (aCons (cLst (aCons (cC (.int 0)) (aCons (cC (.int 4)) aNil))) aNil)) (aCons (cC (.int 2)) (aCons (cC (.int 10)) aNil))))))
    (sSeq (sApp 2 (cCallK [2, 1, 0] m_learned (aCons (cLst (aCons (cLst (aCons (cC (.int 0)) (aCons (cC (.int 4)) aNil))) (aCons (cLst (aCons (cC (.int 1)) (aCons (cC (.int 3)) aNil))) aNil))) (aCons (cC (.int 2)) (aCons (cC (.int 10)) aNil)))))
    (sRet (cCall (m_law_same 16) (aCons (cVar 2) (aCons (c2 addD (cVar 3) (cLst (aCons (cC (.int 1)) (aCons (cC (.int 7)) aNil)))) aNil)))))))))))))))))))))
abbrev s_law_by_hand_right : Stmt := topS 12
theorem S_law_by_hand_right : FnScope ["_law_far", "_law_both_so", "_law_got", "_law_due", "_law_every_so", "_law_k"] [] (defScope s_law_by_hand_right) := ⟨rfl, rfl, rfl, by decide +kernel, rfl, by decide +kernel, by decide +kernel⟩
theorem o_law_by_hand_right (B : Bn mg) (C_how_many_shares : Fn P w K mg base CX0 "how_many_shares" 2 ["modulus", "many", "heard", "number"] false m_how_many_shares) (C_learned : Fn P w K mg base CX0 "learned" 2 ["modulus", "many", "heard"] false m_learned) (C_law_same : Fn P w K mg base CX0 "_law_same" 17 ["_law_got", "_law_due_so"] false (m_law_same 16)) (CK_how_many_shares_3_2_1_0 : FnK P w K mg base CX0 "how_many_shares" 2 ["modulus", "many", "heard", "number"] ["number", "heard", "many", "modulus"] [3, 2, 1, 0] false m_how_many_shares) (CK_learned_2_1_0 : FnK P w K mg base CX0 "learned" 2 ["modulus", "many", "heard"] ["heard", "many", "modulus"] [2, 1, 0] false m_learned) {fa : Addr} {fd : FuncData} (F : FnP K "_law_by_hand_right" s_law_by_hand_right fa fd) : FnOk P w K mg base CX0 18 fa fd [] (spD K mg false 0 m_law_by_hand_right) :=
  have S := S_law_by_hand_right
  fn_ok (k := 17) (n := 6) (f := false) (ω' := []) F S rfl rfl fun cdv A outer s H E M hr =>
    have hu : A.units + 3 + 64 < cLine := hr.units
    svs_cons (sv_set 0 S.nd (EB.ev (ev_op opD_pow (ev_int) (ev_int))))
      (svs_cons (sv_set 1 S.nd (ev_tup (av_cons (ev_tup (av_cons (ev_int) (av_cons (ev_int) av_nil))) (av_cons (ev_tup (av_cons (ev_int) (av_cons (ev_int) av_nil))) av_nil))))
      (svs_cons (sv_setF 2 S.nd (ev_lst (av_cons (EB.ev (ev_fn C_how_many_shares (hr.mono (by decide)) (av_cons (ev_int) (av_cons (ev_int) (av_cons (ev_tup (av_cons (ev_tup (av_cons (ev_int) (av_cons (ev_int) av_nil))) av_nil)) (av_cons (ev_int) av_nil)))) (len_cons (len_cons (len_cons (len_cons len_nil)))))) (av_cons (EB.ev (ev_fn C_how_many_shares (hr.mono (by decide)) (av_cons (ev_int) (av_cons (ev_int) (av_cons (ev_tup av_nil) (av_cons (ev_int) av_nil)))) (len_cons (len_cons (len_cons (len_cons len_nil)))))) (av_cons (EB.ev (ev_fn C_how_many_shares (hr.mono (by decide)) (av_cons (ev_int) (av_cons (ev_int) (av_cons (ev_var 1) (av_cons (ev_int) av_nil)))) (len_cons (len_cons (len_cons (len_cons len_nil)))))) av_nil)))))
      (svs_cons (SV.frz 2 (sv_setF 2 S.nd (ev_op opD_addL (ev_var 2) (EB.ev (ev_lst (av_cons (EB.ev (ev_fn C_how_many_shares (hr.mono (by decide)) (av_cons (ev_int) (av_cons (ev_int) (av_cons (ev_var 1) (av_cons (ev_int) av_nil)))) (len_cons (len_cons (len_cons (len_cons len_nil)))))) (av_cons (EB.ev (ev_fn C_how_many_shares (hr.mono (by decide)) (av_cons (ev_int) (av_cons (ev_int) (av_cons (ev_tup av_nil) (av_cons (ev_int) av_nil)))) (len_cons (len_cons (len_cons (len_cons len_nil)))))) (av_cons (EB.ev (ev_fn C_how_many_shares (hr.mono (by decide)) (av_cons (ev_int) (av_cons (ev_int) (av_cons (ev_tup av_nil) (av_cons (ev_int) av_nil)))) (len_cons (len_cons (len_cons (len_cons len_nil)))))) av_nil))))))))
      (svs_cons (sv_set 3 S.nd (EB.ev (ev_lst (av_cons (ev_int) (av_cons (ev_int) (av_cons (ev_int) (av_cons (ev_int) (av_cons (ev_int) (av_cons (ev_int) av_nil)))))))))
      (svs_cons (SV.frz 2 (sv_setF 2 S.nd (ev_op opD_addL (ev_var 2) (EB.ev (ev_lst (av_cons (EB.ev (ev_fn C_learned (hr.mono (by decide)) (av_cons (ev_int) (av_cons (ev_int) (av_cons (ev_var 1) av_nil))) (len_cons (len_cons (len_cons len_nil))))) (av_cons (EB.ev (ev_fn C_learned (hr.mono (by decide)) (av_cons (ev_int) (av_cons (ev_int) (av_cons (ev_tup (av_cons (ev_tup (av_cons (ev_int) (av_cons (ev_int) av_nil))) av_nil)) av_nil))) (len_cons (len_cons (len_cons len_nil))))) (av_cons (EB.ev (ev_fn C_learned (hr.mono (by decide)) (av_cons (ev_int) (av_cons (ev_int) (av_cons (ev_tup av_nil) av_nil))) (len_cons (len_cons (len_cons len_nil))))) (av_cons (EB.ev (ev_fn C_learned (hr.mono (by decide)) (av_cons (ev_int) (av_cons (ev_int) (av_cons (ev_tup av_nil) av_nil))) (len_cons (len_cons (len_cons len_nil))))) av_nil)))))))))
      (svs_cons (sv_app 2 rfl rfl (ps_expr (pe_bm PySem.F.plainAttrs_list PySem.F.slot_list_append PySem.F.type_list_append mt_append (pv 2) (pa_cons (EB.ev (ev_fn C_learned (hr.mono (by decide)) (av_cons (ev_int) (av_cons (ev_int) (av_cons (ev_tup (av_cons (ev_tup (av_cons (ev_int) (av_cons (ev_int) av_nil))) av_nil)) av_nil))) (len_cons (len_cons (len_cons len_nil))))) pa_nil))))
      (svs_cons (sv_set 3 S.nd (EB.ev (ev_op opD_add (ev_var 3) (EB.ev (ev_lst (av_cons (ev_int) (av_cons (ev_non) (av_cons (ev_int) (av_cons (ev_non) (av_cons (ev_int) av_nil))))))))))
      (svs_cons (SV.frz 2 (sv_setF 2 S.nd (ev_op opD_addL (ev_var 2) (EB.ev (ev_lst (av_cons (EB.ev (ev_fn C_how_many_shares (hr.mono (by decide)) (av_cons (ev_var 0) (av_cons (ev_int) (av_cons (ev_tup (av_cons (ev_tup (av_cons (ev_int) (av_cons (EB.ev (ev_op opD_sub (ev_var 0) (ev_int))) av_nil))) av_nil)) (av_cons (ev_int) av_nil)))) (len_cons (len_cons (len_cons (len_cons len_nil)))))) (av_cons (bv_cmp (bop_eq hu) (EV.bv (EB.ev (ev_fn C_how_many_shares (hr.mono (by decide)) (av_cons (ev_var 0) (av_cons (ev_int) (av_cons (ev_tup av_nil) (av_cons (ev_int) av_nil)))) (len_cons (len_cons (len_cons (len_cons len_nil))))))) (EV.bv (EB.ev (ev_op opD_pow (ev_var 0) (ev_int)))) (nomark _)) av_nil)))))))
      (svs_cons (sv_set 3 S.nd (EB.ev (ev_op opD_add (ev_var 3) (EB.ev (ev_lst (av_cons (ev_var 0) (av_cons (ev_bl) av_nil)))))))
      (svs_cons (sv_set 4 S.nd (ev_tuple B (EV.bv (EB.ev (ev_lcM [("_law_k", 5)] rfl S.nd (iv_range1 (av_cons (ev_int) av_nil) (len_cons len_nil) B.range) (blkOk_by (N := ["_law_far", "_law_both_so", "_law_got", "_law_due", "_law_every_so", "_law_k"]) (sc := defScope s_law_by_hand_right) (by decide +kernel)) (fun _ _ _ _ _ => gv_name 5 S.nd) (fun _ _ _ _ _ => tts_nil) (fun _ _ _ _ _ => ev_tup (av_cons (ev_var 5) (av_cons (EB.ev (ev_op opD_sub (ev_var 0) (ev_int))) av_nil))))))))
      (svs_cons (SV.frz 2 (sv_setF 2 S.nd (ev_op opD_addL (ev_var 2) (EB.ev (ev_lst (av_cons (EB.ev (ev_fn C_learned (hr.mono (by decide)) (av_cons (ev_var 0) (av_cons (ev_int) (av_cons (ev_var 4) av_nil))) (len_cons (len_cons (len_cons len_nil))))) (av_cons (EB.ev (ev_fn C_learned (hr.mono (by decide)) (av_cons (ev_var 0) (av_cons (ev_int) (av_cons (EB.ev (ev_sl sl_all (EV.bv (ev_var 4)) (ov_some (ev_int)) ov_none)) av_nil))) (len_cons (len_cons (len_cons len_nil))))) av_nil)))))))
      (svs_cons (sv_app 2 rfl rfl (ps_expr (pe_bm PySem.F.plainAttrs_list PySem.F.slot_list_append PySem.F.type_list_append mt_append (pv 2) (pa_cons (EB.ev (ev_fn C_how_many_shares (hr.mono (by decide)) (av_cons (ev_var 0) (av_cons (ev_int) (av_cons (ev_var 4) (av_cons (EB.ev (ev_op opD_sub (ev_var 0) (ev_int))) av_nil)))) (len_cons (len_cons (len_cons (len_cons len_nil)))))) pa_nil))))
      (svs_cons (sv_set 3 S.nd (EB.ev (ev_op opD_add (ev_var 3) (EB.ev (ev_lst (av_cons (EB.ev (ev_op opD_sub (ev_var 0) (ev_int))) (av_cons (ev_non) (av_cons (ev_int) av_nil))))))))
      (svs_cons (sv_app 2 rfl rfl (ps_expr (pe_bm PySem.F.plainAttrs_list PySem.F.slot_list_append PySem.F.type_list_append mt_append (pv 2) (pa_cons (EB.ev (ev_fnK CK_how_many_shares_3_2_1_0 (hr.mono (by decide)) (kv_cons (ev_int) (kv_cons (EB.ev (ev_lst (av_cons (EB.ev (ev_lst (av_cons (ev_int) (av_cons (ev_int) av_nil)))) av_nil))) (kv_cons (ev_int) (kv_cons (ev_int) kv_nil)))) (len_cons (len_cons (len_cons (len_cons len_nil)))) (fun ws h => match ws, h with | [_, _, _, _], _ => rfl))) pa_nil))))
      (svs_cons (sv_app 2 rfl rfl (ps_expr (pe_bm PySem.F.plainAttrs_list PySem.F.slot_list_append PySem.F.type_list_append mt_append (pv 2) (pa_cons (EB.ev (ev_fnK CK_learned_2_1_0 (hr.mono (by decide)) (kv_cons (EB.ev (ev_lst (av_cons (EB.ev (ev_lst (av_cons (ev_int) (av_cons (ev_int) av_nil)))) (av_cons (EB.ev (ev_lst (av_cons (ev_int) (av_cons (ev_int) av_nil)))) av_nil)))) (kv_cons (ev_int) (kv_cons (ev_int) kv_nil))) (len_cons (len_cons (len_cons len_nil))) (fun ws h => match ws, h with | [_, _, _], _ => rfl))) pa_nil))))
      (svs_one (SV.frz 2 (sv_ret (EV.eb (EB.ev (ev_fn C_law_same (hr.mono (by decide)) (av_cons (ev_var 2) (av_cons (EB.ev (ev_op opD_add (ev_var 3) (EB.ev (ev_lst (av_cons (ev_int) (av_cons (ev_int) av_nil)))))) av_nil)) (len_cons (len_cons len_nil)))))))))))))))))))))))
def m_law_right : List D → Mu → R D := fnC 12 ((sSeq (sFor (iRg (aCons (cC (.int 10)) aNil)) (gN 1)
    (sSeq (sParN [9, 10] (cAll [(false, (c2 addD (cC (.int 1)) (cCall m_law_take (aCons (cVar 0) (aCons (cC (.int 4)) aNil))))), (false, (c2 addD (cC (.int 1)) (cCall m_law_take (aCons (cVar 0) (aCons (cC (.int 4)) aNil)))))]))
    (sSeq (sSet 2 (c1 sortD (cSl slD (cCall m_law_mixed (aCons (cVar 0) (aCons (cRg false (aCons (cVar 10) aNil)) aNil))) oNone (oSome (cCall m_law_take (aCons (cVar 0) (aCons (c2 addD (cVar 10) (cC (.int 1))) aNil)))))))
    (sSeq (sSet 3 (c1 tupleD (cLc (iSeq (cVar 2)) (gN 5) (fun _ m => .ok true m) (cTup (aCons (cVar 5) (aCons (cCall m_law_take (aCons (cVar 0) (aCons (cVar 9) aNil))) aNil))))))
    (sSeq (sSet 4 (cLst aNil))
    (sSeq (sFor (iSeq (cCall m_law_rows (aCons (cVar 9) (aCons (cVar 10) aNil)))) (gN 5)
    (sSet 4 (c2 addD (cVar 4) (c2 mulD (cLst (aCons (cVar 5) aNil)) (c1 intD (c2 eqD (cLc (iSeq (cVar 3)) (gN 12) (tCmp neD (c2 ixD (cVar 5) (c2 ixD (cVar 12) (cC (.int 0)))) (c2 ixD (cVar 12) (cC (.int 1)))) (cVar 12)) (cLst aNil)))))))
    (sSeq (sSet 6 (cLc (iSeq (cVar 4)) (gN 5) (fun _ m => .ok true m) (c2 modD (c1 sumD' (cVar 5)) (cVar 9))))
    (sSeq (sSet 7 (cLst (aCons (cLc (iRg (aCons (cVar 9) aNil)) (gN 11) (fun _ m => .ok true m) (cCall m_how_many_shares (aCons (cVar 9) (aCons (cVar 10) (aCons (cVar 3) (aCons (cVar 11) aNil)))))) aNil)))
    (sSeq (sApp 7 (cCall m_learned (aCons (cVar 9) (aCons (cVar 10) (aCons (cVar 3) aNil)))))
    (sSeq (sApp 7 (cCall m_learned (aCons (cVar 9) (aCons (cVar 10) (aCons (cCall (m_law_lists 16) (aCons (cVar 3) aNil)) aNil)))))
    (sSeq (sSet 8 (cIf (tCmp eqD (cCnt (cVar 6) (c2 ixD (cVar 6) (cC (.int 0)))) (c1 lenD (cVar 6))) (c2 ixD (cVar 6) (cC (.int 0))) (cC .non)))
    (sIf (tNot' (tTru (cCall (m_law_same 16) (aCons (cVar 7) (aCons (cLst (aCons (cLc (iRg (aCons (cVar 9) aNil)) (gN 11) (fun _ m => .ok true m) (cCnt (cVar 6) (cVar 11))) (aCons (cVar 8) (aCons (cVar 8) aNil)))) aNil))))) (sRet (cC (.bl false))) sNil))))))))))))
    (sRet (cC (.bl true)))))
abbrev s_law_right : Stmt := topS 13
theorem S_law_right : FnScope ["_law_box_here", "_law_turn", "_law_places_so", "_law_heard_so", "_law_some", "_law_own", "_law_sums_so", "_law_got", "_law_told_so", "_law_top_so", "_law_many_so", "_law_k", "_law_bit"] ["_law_box_here"] (defScope s_law_right) := ⟨rfl, rfl, rfl, by decide +kernel, rfl, by decide +kernel, by decide +kernel⟩
theorem o_law_right (B : Bn mg) (C_law_take : Fn P w K mg base CX0 "_law_take" 1 ["_law_box_here", "_law_below_so"] false m_law_take) (C_law_mixed : Fn P w K mg base CX0 "_law_mixed" 2 ["_law_box_here", "_law_rows_so"] true m_law_mixed) (C_law_rows : Fn P w K mg base CX0 "_law_rows" 1 ["_law_top_so", "_law_many_so"] false m_law_rows) (C_how_many_shares : Fn P w K mg base CX0 "how_many_shares" 2 ["modulus", "many", "heard", "number"] false m_how_many_shares) (C_learned : Fn P w K mg base CX0 "learned" 2 ["modulus", "many", "heard"] false m_learned) (C_law_lists : Fn P w K mg base CX0 "_law_lists" 17 ["_law_matter"] false (m_law_lists 16)) (C_law_same : Fn P w K mg base CX0 "_law_same" 17 ["_law_got", "_law_due_so"] false (m_law_same 16)) {fa : Addr} {fd : FuncData} (F : FnP K "_law_right" s_law_right fa fd) : FnOk P w K mg base CX0 18 fa fd ["_law_box_here"] (spD K mg false 1 m_law_right) :=
  have S := S_law_right
  fn_ok (k := 17) (n := 12) (f := false) (ω' := []) F S rfl rfl fun cdv A outer s H E M hr =>
    have hu : A.units + 3 + 64 < cLine := hr.units
    svs_cons (sv_for PassesOwn.never rfl (iv_range1 (av_cons (ev_int) av_nil) (len_cons len_nil) B.range) (gv_name 1 S.nd) (svs_cons (sv_parN [9, 10] _ rfl rfl (pa_cons (EV.eb (EB.ev (ev_op opD_add (ev_int) (EB.ev (ev_fn C_law_take (hr.mono (by decide)) (av_cons (ev_var 0) (av_cons (ev_int) av_nil)) (len_cons (len_cons len_nil))))))) (pa_cons (EV.eb (EB.ev (ev_op opD_add (ev_int) (EB.ev (ev_fn C_law_take (hr.mono (by decide)) (av_cons (ev_var 0) (av_cons (ev_int) av_nil)) (len_cons (len_cons len_nil))))))) pa_nil)) (pgs_cons (pg_name S.nd rfl (by first | exact Or.inl rfl | exact Or.inr rfl)) (pgs_cons (pg_name S.nd rfl (by first | exact Or.inl rfl | exact Or.inr rfl)) pgs_nil)))
      (svs_cons (sv_set 2 S.nd (EB.ev (ev_sorted B hu (EV.bv (EB.ev (ev_sl sl_all (EV.bv (EB.ev (EV.eb (EB.frz (ev_fn C_law_mixed (hr.mono (by decide)) (av_cons (ev_var 0) (av_cons (EB.ev (ev_listRg1 B rfl (ev_var 10))) av_nil)) (len_cons (len_cons len_nil))))))) ov_none (ov_some (EB.ev (ev_fn C_law_take (hr.mono (by decide)) (av_cons (ev_var 0) (av_cons (EB.ev (ev_op opD_add (ev_var 10) (ev_int))) av_nil)) (len_cons (len_cons len_nil)))))))))))
      (svs_cons (sv_set 3 S.nd (ev_tuple B (EV.bv (EB.ev (ev_lcM [("_law_own", 5)] rfl S.nd (iv_seq (ev_var 2)) (blkOk_by (N := ["_law_box_here", "_law_turn", "_law_places_so", "_law_heard_so", "_law_some", "_law_own", "_law_sums_so", "_law_got", "_law_told_so", "_law_top_so", "_law_many_so", "_law_k", "_law_bit"]) (sc := defScope s_law_right) (by decide +kernel)) (fun _ _ _ _ _ => gv_name 5 S.nd) (fun _ _ _ _ _ => tts_nil) (fun _ _ _ _ _ => ev_tup (av_cons (ev_var 5) (av_cons (EB.ev (ev_fn C_law_take (hr.mono (by decide)) (av_cons (ev_var 0) (av_cons (ev_var 9) av_nil)) (len_cons (len_cons len_nil)))) av_nil))))))))
      (svs_cons (sv_set 4 S.nd (EB.ev (ev_lst av_nil)))
      (svs_cons (sv_for PassesOwn.never rfl (iv_seq (EB.ev (ev_fn C_law_rows (hr.mono (by decide)) (av_cons (ev_var 9) (av_cons (ev_var 10) av_nil)) (len_cons (len_cons len_nil))))) (gv_name 5 S.nd) (svs_one (sv_set 4 S.nd (EB.ev (ev_op opD_add (ev_var 4) (EB.ev (ev_op opD_mul (EB.ev (ev_lst (av_cons (ev_var 5) av_nil))) (ev_int' B (EV.bv (bv_cmp (bop_eq hu) (EV.bv (EB.ev (ev_lcM [("_law_bit", 12)] rfl S.nd (iv_seq (ev_var 3)) (blkOk_by (N := ["_law_box_here", "_law_turn", "_law_places_so", "_law_heard_so", "_law_some", "_law_own", "_law_sums_so", "_law_got", "_law_told_so", "_law_top_so", "_law_many_so", "_law_k", "_law_bit"]) (sc := defScope s_law_right) (by decide +kernel)) (fun _ _ _ _ _ => gv_name 12 S.nd) (fun _ _ _ _ _ => tts_one (tv_cmpB (bop_ne hu) (EV.bv (ev_ix (EV.bv (ev_var 5)) (EV.bv (ev_ix (EV.bv (ev_var 12)) (EV.bv (ev_int)))))) (EV.bv (ev_ix (EV.bv (ev_var 12)) (EV.bv (ev_int)))) (nomark _))) (fun _ _ _ _ _ => ev_var 12)))) (EV.bv (EB.ev (ev_lst av_nil))) (nomark _)))))))))))
      (svs_cons (sv_set 6 S.nd (EB.ev (ev_lcM [("_law_own", 5)] rfl S.nd (iv_seq (ev_var 4)) (blkOk_by (N := ["_law_box_here", "_law_turn", "_law_places_so", "_law_heard_so", "_law_some", "_law_own", "_law_sums_so", "_law_got", "_law_told_so", "_law_top_so", "_law_many_so", "_law_k", "_law_bit"]) (sc := defScope s_law_right) (by decide +kernel)) (fun _ _ _ _ _ => gv_name 5 S.nd) (fun _ _ _ _ _ => tts_nil) (fun _ _ _ _ _ => EB.ev (ev_op opD_mod (ev_sum' B rfl (EV.bv (ev_var 5))) (ev_var 9))))))
      (svs_cons (sv_setF 7 S.nd (ev_lst (av_cons (EB.ev (ev_lcM [("_law_k", 11)] rfl S.nd (iv_range1 (av_cons (ev_var 9) av_nil) (len_cons len_nil) B.range) (blkOk_by (N := ["_law_box_here", "_law_turn", "_law_places_so", "_law_heard_so", "_law_some", "_law_own", "_law_sums_so", "_law_got", "_law_told_so", "_law_top_so", "_law_many_so", "_law_k", "_law_bit"]) (sc := defScope s_law_right) (by decide +kernel)) (fun _ _ _ _ _ => gv_name 11 S.nd) (fun _ _ _ _ _ => tts_nil) (fun _ _ _ _ _ => EB.ev (ev_fn C_how_many_shares (hr.mono (by decide)) (av_cons (ev_var 9) (av_cons (ev_var 10) (av_cons (ev_var 3) (av_cons (ev_var 11) av_nil)))) (len_cons (len_cons (len_cons (len_cons len_nil)))))))) av_nil)))
      (svs_cons (sv_app 7 rfl rfl (ps_expr (pe_bm PySem.F.plainAttrs_list PySem.F.slot_list_append PySem.F.type_list_append mt_append (pv 7) (pa_cons (EB.ev (ev_fn C_learned (hr.mono (by decide)) (av_cons (ev_var 9) (av_cons (ev_var 10) (av_cons (ev_var 3) av_nil))) (len_cons (len_cons (len_cons len_nil))))) pa_nil))))
      (svs_cons (sv_app 7 rfl rfl (ps_expr (pe_bm PySem.F.plainAttrs_list PySem.F.slot_list_append PySem.F.type_list_append mt_append (pv 7) (pa_cons (EB.ev (ev_fn C_learned (hr.mono (by decide)) (av_cons (ev_var 9) (av_cons (ev_var 10) (av_cons (EB.ev (ev_fn C_law_lists (hr.mono (by decide)) (av_cons (ev_var 3) av_nil) (len_cons len_nil))) av_nil))) (len_cons (len_cons (len_cons len_nil))))) pa_nil))))
      (svs_cons (sv_set 8 S.nd (EB.ev (ev_if (tv_cmpB (bop_eq hu) (EV.bv (ev_count (ev_var 6) (ev_ix (EV.bv (ev_var 6)) (EV.bv (ev_int))))) (EV.bv (ev_len B (EV.bv (ev_var 6)))) (nomark _)) (EV.eb (ev_ix (EV.bv (ev_var 6)) (EV.bv (ev_int)))) (EV.eb (ev_non)))))
      (svs_one (SV.frz 7 (sv_if (tv_not (tv_val (EV.bv (EB.ev (ev_fn C_law_same (hr.mono (by decide)) (av_cons (ev_var 7) (av_cons (EB.ev (ev_lst (av_cons (EB.ev (ev_lcM [("_law_k", 11)] rfl S.nd (iv_range1 (av_cons (ev_var 9) av_nil) (len_cons len_nil) B.range) (blkOk_by (N := ["_law_box_here", "_law_turn", "_law_places_so", "_law_heard_so", "_law_some", "_law_own", "_law_sums_so", "_law_got", "_law_told_so", "_law_top_so", "_law_many_so", "_law_k", "_law_bit"]) (sc := defScope s_law_right) (by decide +kernel)) (fun _ _ _ _ _ => gv_name 11 S.nd) (fun _ _ _ _ _ => tts_nil) (fun _ _ _ _ _ => ev_count (ev_var 6) (ev_var 11)))) (av_cons (ev_var 8) (av_cons (ev_var 8) av_nil))))) av_nil)) (len_cons (len_cons len_nil))))))) (svs_one (sv_ret (EV.eb (ev_bl)))) (svs_nil)))))))))))))))
      (svs_one (sv_ret (EV.eb (ev_bl))))
def m_law : List D → Mu → R D := fnC 2 ((sSeq (sIf (tNot' (tTru (cCall0 m_law_by_hand_right))) (sRet (cC (.bl false))) sNil)
    (sSeq (sSet 1 (cCall m_law_cells (aCons (cVar 0) (aCons (cC (.int 3)) aNil))))
    (sRet (c1 allD (cLc (iRg (aCons (c1 lenD (cVar 1)) aNil)) (gN 2) (fun _ m => .ok true m) (cCall m_law_right (aCons (cBox (cCall m_law_box (aCons (cVar 1) (aCons (cVar 2) aNil)))) aNil))))))))
abbrev s_law : Stmt := topS 14
theorem S_law : FnScope ["_law_script", "_law_cells_here", "_law_k"] ["_law_script"] (defScope s_law) := ⟨rfl, rfl, rfl, by decide +kernel, rfl, by decide +kernel, by decide +kernel⟩
theorem o_law (B : Bn mg) (C_law_by_hand_right : Fn P w K mg base CX0 "_law_by_hand_right" 18 [] false m_law_by_hand_right) (C_law_cells : Fn P w K mg base CX0 "_law_cells" 1 ["_law_script", "_law_most_so"] true m_law_cells) (C_law_right : Fn P w K mg base CX0 "_law_right" 18 ["_law_box_here"] false m_law_right) (C_law_box : Fn P w K mg base CX0 "_law_box" 1 ["_law_script", "_law_k"] true m_law_box) {fa : Addr} {fd : FuncData} (F : FnP K "law" s_law fa fd) : FnOk P w K mg base CX0 19 fa fd ["_law_script"] (spD K mg false 1 m_law) :=
  have S := S_law
  fn_ok (k := 18) (n := 2) (f := false) (ω' := []) F S rfl rfl fun cdv A outer s H E M hr =>
    have hu : A.units + 3 + 64 < cLine := hr.units
    svs_cons (sv_if (tv_not (tv_val (EV.bv (EB.ev (ev_fn0 C_law_by_hand_right (hr.mono (by decide))))))) (svs_one (sv_ret (EV.eb (ev_bl)))) (svs_nil))
      (svs_cons (sv_set 1 S.nd (EB.ev (EV.eb (EB.frz (ev_fn C_law_cells (hr.mono (by decide)) (av_cons (ev_var 0) (av_cons (ev_int) av_nil)) (len_cons (len_cons len_nil)))))))
      (svs_one (sv_ret (EV.eb (ev_all B rfl (EV.bv (EB.ev (ev_lcM [("_law_k", 2)] rfl S.nd (iv_range1 (av_cons (ev_len B (EV.bv (ev_var 1))) av_nil) (len_cons len_nil) B.range) (blkOk_by (N := ["_law_script", "_law_cells_here", "_law_k"]) (sc := defScope s_law) (by decide +kernel)) (fun _ _ _ _ _ => gv_name 2 S.nd) (fun _ _ _ _ _ => tts_nil) (fun _ _ _ _ _ => EB.ev (ev_fn C_law_right (hr.mono (by decide)) (av_cons (ev_box (ev_fn C_law_box (hr.mono (by decide)) (av_cons (ev_var 1) (av_cons (ev_var 2) av_nil)) (len_cons (len_cons len_nil)))) av_nil) (len_cons len_nil)))))))))))
end
end Lw

end

section
set_option linter.all false
set_option maxRecDepth 100000
namespace Lw
open PySem L2 PySem.W Pv
theorem at3_0 {α : Type} {a b c : α} : atI [a, b, c] 0 = some a := (rfl)
theorem at3_1 {α : Type} {a b c : α} : atI [a, b, c] 1 = some b := (rfl)
theorem at3_2 {α : Type} {a b c : α} : atI [a, b, c] 2 = some c := (rfl)
theorem take_ok {t n : Nat} {m : Mu} {k : Int} (h : Bx (t + 1) n m) (hk : 0 < k) (hk' : k ≤ 1000000000000000000000000000000000000000000000000000000000000) : WR (m_law_take [.box n, .int k] m) fun d m' => ∃ r, d = .int r ∧ 0 ≤ r ∧ r < k ∧ Bx t n m' ∧ m'.length = m.length := by
  obtain ⟨a, b, c, hm, ha, hb, hc, ht⟩ := h
  have hn : n < m.length := by
    rcases Nat.lt_or_ge n m.length with z | z
    · exact z
    · rw [List.getElem?_eq_none z] at hm; cases hm
  have mo : mulOk (b + 48271 * (c + 1)) (39373 + (c + 1)) = true := mulOk_r (by omega) (by omega)
  have mc' : mulOk 48271 (c + 1) = true := mulOk_l (by omega) (by omega)
  have hq : (b + 48271 * (c + 1)) * (39373 + (c + 1)) % 2147483647 % 40009 < 40009 := Int.emod_lt_of_pos _ (by decide)
  have hq0 : 0 ≤ (b + 48271 * (c + 1)) * (39373 + (c + 1)) % 2147483647 % 40009 := Int.emod_nonneg _ (by decide)
  have hr := fun z => Int.emod_lt_of_pos z hk
  have hm2 : m[n] = [.int a, .int b, .int c] := by rw [List.getElem?_eq_getElem hn] at hm; exact Option.some.inj hm
  have hr' := fun z => Int.emod_nonneg z (Int.ne_of_gt hk)
  have lg := log2_lt (Int.le_of_lt hk) hk'
  have m3 : ∀ z, mulOk z ((b + 48271 * (c + 1)) * (39373 + (c + 1)) % 2147483647 % 40009 + 7) = true := fun z => mulOk_r (by omega) (by omega)
  have m4 : ∀ z, mulOk z 48271 = true := fun z => mulOk_r (by omega) (by omega)
  by_cases h0 : 0 < a
  · simp [m_law_take, hm, hm2, at3_0, at3_1, at3_2, h0, ixN, hk, hn, lg, Bx]
    exact ⟨hr' a, hr a, _, _, _, ⟨rfl, rfl, rfl⟩, Int.ediv_nonneg ha (Int.le_of_lt hk), hb, hc, by omega⟩
  · simp [m_law_take, hm, hm2, at3_0, at3_1, at3_2, h0, ixN, hk, hn, lg, Bx, mo, mc', m3, m4]
    exact ⟨by decide +kernel, by decide +kernel, hr' _, hr _, _, _, _, ⟨rfl, rfl, rfl⟩, ha, hb, by omega, by omega⟩
/-- plain data, of depth at most n, no row too long -/
inductive Sm : Nat → D → Prop
  | non {n : Nat} : Sm n .non
  | bl {n : Nat} {b : Bool} : Sm n (.bl b)
  | int {n : Nat} {i : Int} : Sm n (.int i)
  | str {n : Nat} {x : Str} : Sm n (.str x)
  | lst {n : Nat} {xs : List D} (h : ∀ x ∈ xs, Sm n x) (hl : xs.length ≤ 16777216) : Sm (n + 1) (.lst xs)
  | tup {n : Nat} {xs : List D} (h : ∀ x ∈ xs, Sm n x) (hl : xs.length ≤ 16777216) : Sm (n + 1) (.tup xs)
theorem same_zip {m : Mu} {ct : GC} {tt : TC} {ce : EC} {Γ : Gam} {xs : List D} (hs : ∀ x ∈ xs, WO (ct (.tup [x, x]) Γ) fun Γ1 => WR (tt Γ1 m) fun k m1 => k = true ∧ m1 = m ∧ WR (ce Γ1 m) fun y m2 => y = .bl true ∧ m2 = m) :
    WR (lcGo ct tt ce Γ (zipI xs xs) m) fun ys m' => ys = xs.map (fun _ => .bl true) ∧ m' = m := by
  refine wr_lcGo (fun ds acc m' => ∃ l r, xs = l ++ r ∧ ds = zipI r r ∧ acc = l.map (fun _ => .bl true) ∧ m' = m) ?_ _ [] m ⟨[], xs, rfl, rfl, rfl, rfl⟩ ?_
  · rintro d ds acc m' ⟨l, r, hx, hd, ha, rfl⟩
    cases r with
    | nil => cases hd
    | cons y r =>
      rw [zipI] at hd
      cases hd
      refine (hs y (by rw [hx]; simp)).mono fun Γ1 h1 => h1.mono fun k m1 ⟨hk, hm, h2⟩ => ?_
      subst hk hm
      rw [if_pos rfl]
      refine h2.mono fun z m2 ⟨hz, hm⟩ => ?_
      exact ⟨l ++ [y], r, by simp [hx], rfl, by simp [ha, hz], hm⟩
  · rintro ys m' ⟨l, r, hx, hd, ha, rfl⟩
    cases r with
    | nil => simp at hx ha; subst hx; exact ⟨ha, rfl⟩
    | cons y r => rw [zipI] at hd; cases hd
theorem all_true {xs : List D} : blsOf (xs.map fun _ => .bl true) = some (xs.map fun _ => true) := by
  induction xs with
  | nil => rfl
  | cons a as ih => rw [List.map_cons, blsOf, ih]; rfl
theorem zipI_len (xs : List D) : (zipI xs xs).length = xs.length := by rw [zipI_length, Nat.min_self]
theorem wo_all_true {m : Mu} {xs : List D} {Q : D → Prop} : WO (allD m (.lst (xs.map fun _ => .bl true))) Q = Q (.bl true) := by
  show WO (Option.map (fun bs => D.bl (bs.all id)) (blsOf (xs.map fun _ => .bl true))) Q = _
  rw [all_true, Option.map_some, wo_some]
  congr; induction xs <;> simp_all
theorem same_ok (m : Mu) : ∀ (n : Nat) (d : D), Sm n d → WR (m_law_same (n + 1) [d, d] m) fun r m' => r = .bl true ∧ m' = m := by
  intro n
  induction n with
  | zero =>
    intro d h
    cases h <;> simp [m_law_same, isi2D, isiD, isi, isNone, eqD, D.pl, D.eqv, notD, truD]
  | succ n ih =>
    intro d h
    cases h with
    | non | bl | int | str => simp [m_law_same, isi2D, isiD, isi, isNone, eqD, D.pl, D.eqv, notD, truD]
    | lst h hl =>
      rw [m_law_same]
      simp [isi2D, isiD, isi, isNone, szOk_of, zipI_len, hl]
      refine (same_zip fun x hx => ?_).mono ?_
      · simp [gT, gsCons, gsNil, gN]
        exact ih x (h x hx)
      · rintro ys m' ⟨rfl, rfl⟩
        rw [wo_all_true]; exact ⟨rfl, rfl⟩
    | tup h hl =>
      rw [m_law_same]
      simp [isi2D, isiD, isi, isNone, szOk_of, zipI_len, hl]
      refine (same_zip fun x hx => ?_).mono ?_
      · simp [gT, gsCons, gsNil, gN]
        exact ih x (h x hx)
      · rintro ys m' ⟨rfl, rfl⟩
        rw [wo_all_true]; exact ⟨rfl, rfl⟩
theorem box_ok {m : Mu} {cs : List Int} {k : Int} (h0 : 0 ≤ k) (h1 : k < cs.length) : WR (m_law_box [.lst (cs.map .int), .int k] m) fun d m' => ∃ a b : Int, d = .lst [.int a, .int b, .int 0] ∧ 0 ≤ a ∧ 0 ≤ b ∧ m' = m := by
  obtain ⟨c, hc, _, hg⟩ := atI_nat h0 h1
  have ha : atI (cs.map D.int) k = some (.int c) := by
    unfold atI at hc ⊢; rw [List.length_map]
    cases hx : ixN cs.length k with
    | none => rw [hx] at hc; cases hc
    | some j => rw [hx] at hc; have hc : cs[j]? = some c := hc; show (cs.map D.int)[j]? = _; rw [List.getElem?_map, hc]; rfl
  have mb : ∀ z (b : Bool), mulOk z (if b = true then 1 else 0) = true := fun z b => mulOk_r (by cases b <;> decide) (by cases b <;> decide)
  have mb2 : ∀ z (b : Prop) [Decidable b], mulOk z (if b then 1 else 0) = true := fun z b _ => mulOk_r (by split <;> decide) (by split <;> decide)
  have mk : ∀ z, mulOk 39373 z = true := fun z => mulOk_l (by decide) (by decide)
  have hp : 0 ≤ c % 2305843009213693951 := Int.emod_nonneg _ (by decide)
  simp [m_law_box, ha, h1, mb, mb2, mk, szOk_of]
  refine ⟨by decide +kernel, _, _, ⟨rfl, rfl⟩, ?_, ?_⟩
  · split <;> split <;> simp <;> omega
  · omega
theorem cutG_lo {ns : List Int} {p : Nat} : cutG ns none (some (p : Int)) = ns.take p := by
  unfold cutG; rw [HT.sIx_none, HT.sIx_nat, List.drop_zero, Nat.sub_zero]
  rcases Nat.le_total p ns.length with h | h
  · rw [Nat.min_eq_left h]
  · rw [Nat.min_eq_right h, List.take_of_length_le (Nat.le_refl _), List.take_of_length_le h]
theorem cutG_hi {ns : List Int} {p q : Nat} : cutG ns (some (p : Int)) (some (q : Int)) = (ns.drop p).take (min q ns.length - min p ns.length) := by
  unfold cutG; rw [HT.sIx_nat, HT.sIx_nat]
  rcases Nat.le_total p ns.length with h | h
  · rw [Nat.min_eq_left h]
  · rw [Nat.min_eq_right h, List.drop_of_length_le (Nat.le_refl _), List.drop_of_length_le h]
theorem cutG_63 {ns : List Int} {p : Nat} : cutG ns (some (p : Int)) (some 63) = (ns.drop p).take (min 63 ns.length - min p ns.length) := cutG_hi (q := 63)
theorem cells_ok {m : Mu} {ns : List Int} {p : Nat} (hp : 0 < p) (hp' : p ≤ 63) : WR (m_law_cells [.scr ns, .int p] m) fun d m' => ∃ cs : List Int, d = .lst (cs.map .int) ∧ 0 < cs.length ∧ cs.length ≤ p ∧ m' = m := by
  have key : ∀ cs : List Int, 0 < cs.length → cs.length ≤ p → (p < ns.length → cs.length = p) → WS (loopS (gT 2 (gsCons (gN 3) (gsCons (gN 4) gsNil))) (sSeq (sSet 5 (c2 modD (c1 intD (cVar 3)) (cVar 1)))
    (sPut 2 (c2 addD (c2 ixD (cVar 2) (cVar 5)) (c2 mulD (cVar 4) (c2 addD (cVar 3) (cC (.int 2))))) (cVar 5))) (enumI 0 (((ns.drop p).take (min 63 ns.length - min p ns.length)).map D.int)) [.scr ns, .int p, .lst (cs.map .int), .non, .non, .non] m)
    (fun Γ m' => ∃ cs : List Int, Γ.getD 2 .non = .lst (cs.map .int) ∧ 0 < cs.length ∧ cs.length ≤ p ∧ m' = m) (fun _ _ => False) := by
    intro cs h0 h1 h2
    refine ws_loop (fun ds Γ m' => ∃ (cs : List Int) (x y z : D) (k : Nat) (is : List Int), ds = enumI k (is.map .int) ∧ Γ = [.scr ns, .int p, .lst (cs.map .int), x, y, z] ∧ 0 < cs.length ∧ cs.length ≤ p ∧ (is ≠ [] → cs.length = p) ∧ k + is.length ≤ 63 ∧ m' = m) ?_ ?_ _ _ _ ⟨cs, _, _, _, 0, _, rfl, rfl, h0, h1, ?_, ?_, rfl⟩
    · rintro d ds Γ m' ⟨cs, x, y, z, k, is, hd, rfl, h0, h1, h2, h3, rfl⟩
      cases is with
      | nil => cases hd
      | cons i is =>
        rw [List.map_cons, enumI] at hd
        cases hd
        have hl := h2 (by simp)
        have hk0 : 0 ≤ (k : Int) % p := Int.emod_nonneg _ (by omega)
        have hk1 : (k : Int) % p < cs.length := by rw [hl]; exact Int.emod_lt_of_pos _ (by omega)
        obtain ⟨c, hc, _, hg⟩ := atI_nat hk0 hk1
        have ha : atI (cs.map D.int) ((k : Int) % p) = some (.int c) := by
          unfold atI at hc ⊢; rw [List.length_map]
          cases hx : ixN cs.length ((k : Int) % p) with
          | none => rw [hx] at hc; cases hc
          | some j => rw [hx] at hc; have hc : cs[j]? = some c := hc; show (cs.map D.int)[j]? = _; rw [List.getElem?_map, hc]; rfl
        have hx : ixN cs.length ((k : Int) % p) = some ((k : Int) % p).toNat := by unfold ixN; rw [if_pos hk0, if_pos hk1]
        have mk : mulOk i ((k : Int) + 2) = true := mulOk_r (by omega) (by simp at h3; omega)
        have hp0 : (0 : Int) < p := by omega
        simp [gT, gsCons, gsNil, gN, ha, hx, hp0, mk, hp]
        simp at h3
        exact ⟨cs.set ((k : Int) % p).toNat (c + i * (k + 2)), _, _, _, k + 1, is, rfl, ⟨by rw [List.map_set], rfl, rfl, rfl⟩, by simpa using h0, by simpa using h1, fun _ => by simpa using hl, by omega⟩
    · rintro Γ m' ⟨cs, x, y, z, k, is, hd, rfl, h0, h1, h2, h3, rfl⟩
      exact ⟨cs, rfl, h0, h1, rfl⟩
    · intro hne
      apply h2
      rcases Nat.lt_or_ge p ns.length with z | z
      · exact z
      · exact (hne (by rw [List.drop_of_length_le z]; simp)).elim
    · simp; omega
  unfold m_law_cells
  by_cases hn : ns = []
  · subst hn
    have := key [0] (by simp) (by simp; omega) (by simp)
    simp [cutG_lo, szOk_of, cutG_63] at this ⊢
    refine this.mono ?_ (fun _ _ h => h.elim)
    rintro Γ m' ⟨cs, hc, h0, h1, rfl⟩
    exact ⟨cs, hc, h0, h1, rfl⟩
  · have hl : 0 < ns.length := List.length_pos_iff.mpr hn
    have := key (ns.take p) (by simp; omega) (by simp; omega) (by simp; omega)
    have hz : (List.map D.int (ns.take p)).isEmpty = false := by
      cases hh : ns.take p with
      | nil => have := congrArg List.length hh; rw [List.length_take, List.length_nil] at this; omega
      | cons a b => rfl
    have hz2 : ¬ (p = 0 ∨ ns = []) := by rintro (h | h) <;> simp_all
    have hz3 : ¬ (ns.take p = []) := by intro h; have := congrArg List.length h; rw [List.length_take, List.length_nil] at this; omega
    simp [cutG_lo, szOk_of, cutG_63, hz, hz2, hz3] at this ⊢
    refine this.mono ?_ (fun _ _ h => h.elim)
    rintro Γ m' ⟨cs, hc, h0, h1, rfl⟩
    exact ⟨cs, hc, h0, h1, rfl⟩
theorem rg1_ok {z : Int} (h : 0 ≤ z) (h' : z < 4611686018427387904) : rg2 [.int z] = some (rangeI 0 z.toNat) := by
  show (if rgOk 0 z = true then some (rangeI 0 z.toNat) else none) = _
  rw [if_pos]
  simp only [rgOk, Bool.and_eq_true, decide_eq_true_eq]
  omega
theorem cutG_upto {α : Type} {xs : List α} {p : Int} (h : 0 ≤ p) (h' : p ≤ xs.length) : cutG xs none (some p) = xs.take p.toNat := by
  obtain ⟨k, rfl⟩ : ∃ k : Nat, p = k := ⟨p.toNat, by omega⟩
  unfold cutG; rw [HT.sIx_none, HT.sIx_nat, List.drop_zero, Nat.sub_zero, Nat.min_eq_left (by omega)]; rfl
theorem cutG_from {α : Type} {xs : List α} {p : Int} (h : 0 ≤ p) (h' : p ≤ xs.length) : cutG xs (some p) none = xs.drop p.toNat := by
  obtain ⟨k, rfl⟩ : ∃ k : Nat, p = k := ⟨p.toNat, by omega⟩
  unfold cutG; rw [HT.sIx_none, HT.sIx_nat, Nat.min_eq_left (by omega), List.take_of_length_le (by simp)]; rfl
theorem mixed_ok {t n : Nat} {m : Mu} {xs : List D} (h : Bx (t + xs.length) n m) (hl : xs.length ≤ 1000) : WR (m_law_mixed [.box n, .lst xs] m) fun d m' => ∃ ys : List D, d = .lst ys ∧ ys.Perm xs ∧ Bx t n m' ∧ m'.length = m.length := by
  unfold m_law_mixed
  simp only [wr_fnF, ws_seq, ws_par, ws_for, wr_irg, wr_acons, wr_anil, wr_c1, wr_var, wr_lst, List.replicate, List.cons_append, List.nil_append, List.getD_cons_zero, List.getD_cons_succ, wo_list_l, List.length_nil, show szOk 0 = true from rfl, if_true, List.set_cons_zero, List.set_cons_succ, wo_len_l, rg1_ok (z := xs.length) (by omega) (by omega), wo_some, Int.toNat_natCast]
  refine ws_loop (fun ds Γ m' => ∃ (rs ys : List D) (x y : D), Γ = [.box n, .lst xs, x, .lst rs, .lst ys, y] ∧ (ys ++ rs).Perm xs ∧ rs.length = ds.length ∧ Bx (t + ds.length) n m' ∧ m'.length = m.length) ?_ ?_ _ _ _ ⟨xs, [], _, _, rfl, .refl _, by rw [rangeI_length], by rw [rangeI_length]; exact h, rfl⟩
  · rintro d ds Γ m' ⟨rs, ys, x, y, rfl, hp, hr, hb, hm⟩
    have hr' : rs.length = ds.length + 1 := by simpa using hr
    have hlen := hp.length_eq
    simp at hlen
    simp
    refine (take_ok (t := t + ds.length) (k := rs.length) (hb.mono (by simp; omega)) (by omega) (by omega)).mono ?_
    rintro z m2 ⟨r, rfl, h0, h1, hb2, hm2⟩
    obtain ⟨a, ea, hmem, hget⟩ := atI_nat h0 h1
    have hlt : r.toNat < rs.length := by omega
    have hsz : szOk (ys.length + 1) = true := szOk_of (by omega)
    simp [ea, hsz, cutG_upto h0 (Int.le_of_lt h1), cutG_from (show 0 ≤ r + 1 by omega) (show r + 1 ≤ rs.length by omega)]
    have e2 : (r + 1).toNat = r.toNat + 1 := by omega
    rw [e2]
    refine ⟨szOk_of (by omega), _, _, ⟨rfl, rfl⟩, ?_, by simp; omega, hb2, by omega⟩
    rw [List.append_assoc]
    have : rs = rs.take r.toNat ++ a :: rs.drop (r.toNat + 1) := by
      rw [List.getElem?_eq_getElem hlt] at hget
      cases hget
      rw [List.getElem_cons_drop, List.take_append_drop]
    refine List.Perm.trans ?_ hp
    conv => rhs; rw [this]
    refine List.Perm.append_left ys ?_
    exact (List.perm_middle (l₁ := rs.take r.toNat)).symm
  · rintro Γ m' ⟨rs, ys, x, y, rfl, hp, hr, hb, hm⟩
    have : rs = [] := List.length_eq_zero_iff.mp (by simpa using hr)
    subst this
    simp
    exact ⟨by simpa using hp, hb.mono (by simp), hm⟩
end Lw

end

section
set_option linter.all false
set_option maxRecDepth 100000
namespace Lw
open PySem L2 PySem.W Pv
mutual
/-- the same with lists for tuples -/
def toL : D → D
  | .lst xs => .lst (toLAll xs)
  | .tup xs => .lst (toLAll xs)
  | d => d
def toLAll : List D → List D
  | [] => []
  | x :: xs => toL x :: toLAll xs
end
theorem toLAll_map : ∀ xs : List D, toLAll xs = xs.map toL
  | [] => by simp [toLAll]
  | x :: xs => by simp [toLAll, toLAll_map xs]
/-- a comprehension without a test, each item by a function -/
theorem lc_map {ct : GC} {ce : EC} {Γ : Gam} {m : Mu} {xs : List D} (g : D → D) (hs : ∀ x ∈ xs, WO (ct x Γ) fun Γ1 => WR (ce Γ1 m) fun y m2 => y = g x ∧ m2 = m) :
    WR (lcGo ct (fun _ m => .ok true m) ce Γ xs m) fun ys m' => ys = xs.map g ∧ m' = m := by
  refine wr_lcGo (fun ds acc m' => ∃ l r, xs = l ++ r ∧ ds = r ∧ acc = l.map g ∧ m' = m) ?_ _ [] m ⟨[], xs, rfl, rfl, rfl, rfl⟩ ?_
  · rintro d ds acc m' ⟨l, r, hx, hd, ha, rfl⟩
    subst hd
    refine (hs d (by rw [hx]; simp)).mono fun Γ1 h1 => ?_
    rw [wr_ok, if_pos rfl]
    refine h1.mono fun y m2 ⟨hy, hm⟩ => ?_
    exact ⟨l ++ [d], ds, by rw [hx]; simp, rfl, by rw [ha, hy]; simp, hm⟩
  · rintro ys m' ⟨l, r, hx, hd, ha, rfl⟩
    subst hd
    simp at hx ha
    subst hx
    exact ⟨ha, rfl⟩
theorem lists_ok (m : Mu) : ∀ (n : Nat) (d : D), Sm n d → WR (m_law_lists (n + 1) [d] m) fun r m' => r = toL d ∧ m' = m := by
  intro n
  induction n with
  | zero =>
    intro d h
    cases h <;> simp [m_law_lists, isi2D, isi, toL]
  | succ n ih =>
    intro d h
    cases h with
    | non | bl | int | str => simp [m_law_lists, isi2D, isi, toL]
    | lst h hl | tup h hl =>
      rw [m_law_lists]
      simp [isi2D, isi, szOk_of, hl]
      refine (lc_map toL fun x hx => ?_).mono ?_
      · simp
        exact ih x (h x hx)
      · rintro ys m' ⟨rfl, rfl⟩
        rw [toL, toLAll_map]; exact ⟨rfl, rfl⟩
theorem told_ok {m : Mu} {xs : List Int} {k : Int} (hk : 0 < k) : m_told_number [.lst (xs.map .int), .int k] m = .ok (.int (xs.sum % k)) m ∧ m_told_number [.tup (xs.map .int), .int k] m = .ok (.int (xs.sum % k)) m := by
  constructor <;> simp [m_told_number, fnC, sRet, c2, c1, cVar, sumD', R.bind, R.of, intsOf_map, toS, endR, modD, hk]
def body38 : SC := (sSet 4 (c2 addD (cVar 4) (c2 mulD (cLst (aCons (cVar 5) aNil)) (c1 intD (c2 eqD (cLc (iSeq (cVar 3)) (gN 12) (tCmp neD (c2 ixD (cVar 5) (c2 ixD (cVar 12) (cC (.int 0)))) (c2 ixD (cVar 12) (cC (.int 1)))) (cVar 12)) (cLst aNil))))))
def rest3 : SC := (sSeq (sSet 7 (cLst (aCons (cLc (iRg (aCons (cVar 9) aNil)) (gN 11) (fun _ m => .ok true m) (cCall m_how_many_shares (aCons (cVar 9) (aCons (cVar 10) (aCons (cVar 3) (aCons (cVar 11) aNil)))))) aNil)))
    (sSeq (sApp 7 (cCall m_learned (aCons (cVar 9) (aCons (cVar 10) (aCons (cVar 3) aNil)))))
    (sSeq (sApp 7 (cCall m_learned (aCons (cVar 9) (aCons (cVar 10) (aCons (cCall (m_law_lists 16) (aCons (cVar 3) aNil)) aNil)))))
    (sSeq (sSet 8 (cIf (tCmp eqD (cCnt (cVar 6) (c2 ixD (cVar 6) (cC (.int 0)))) (c1 lenD (cVar 6))) (c2 ixD (cVar 6) (cC (.int 0))) (cC .non)))
    (sIf (tNot' (tTru (cCall (m_law_same 16) (aCons (cVar 7) (aCons (cLst (aCons (cLc (iRg (aCons (cVar 9) aNil)) (gN 11) (fun _ m => .ok true m) (cCnt (cVar 6) (cVar 11))) (aCons (cVar 8) (aCons (cVar 8) aNil)))) aNil))))) (sRet (cC (.bl false))) sNil)))))
def rest2 : SC := sSeq (sSet 6 (cLc (iSeq (cVar 4)) (gN 5) (fun _ m => .ok true m) (c2 modD (c1 sumD' (cVar 5)) (cVar 9)))) rest3
def rest38 : SC := (sSeq (sSet 4 (cLst aNil))
    (sSeq (sFor (iSeq (cCall m_law_rows (aCons (cVar 9) (aCons (cVar 10) aNil)))) (gN 5)
    (sSet 4 (c2 addD (cVar 4) (c2 mulD (cLst (aCons (cVar 5) aNil)) (c1 intD (c2 eqD (cLc (iSeq (cVar 3)) (gN 12) (tCmp neD (c2 ixD (cVar 5) (c2 ixD (cVar 12) (cC (.int 0)))) (c2 ixD (cVar 12) (cC (.int 1)))) (cVar 12)) (cLst aNil)))))))
    (sSeq (sSet 6 (cLc (iSeq (cVar 4)) (gN 5) (fun _ m => .ok true m) (c2 modD (c1 sumD' (cVar 5)) (cVar 9))))
    (sSeq (sSet 7 (cLst (aCons (cLc (iRg (aCons (cVar 9) aNil)) (gN 11) (fun _ m => .ok true m) (cCall m_how_many_shares (aCons (cVar 9) (aCons (cVar 10) (aCons (cVar 3) (aCons (cVar 11) aNil)))))) aNil)))
    (sSeq (sApp 7 (cCall m_learned (aCons (cVar 9) (aCons (cVar 10) (aCons (cVar 3) aNil)))))
    (sSeq (sApp 7 (cCall m_learned (aCons (cVar 9) (aCons (cVar 10) (aCons (cCall (m_law_lists 16) (aCons (cVar 3) aNil)) aNil)))))
    (sSeq (sSet 8 (cIf (tCmp eqD (cCnt (cVar 6) (c2 ixD (cVar 6) (cC (.int 0)))) (c1 lenD (cVar 6))) (c2 ixD (cVar 6) (cC (.int 0))) (cC .non)))
    (sIf (tNot' (tTru (cCall (m_law_same 16) (aCons (cVar 7) (aCons (cLst (aCons (cLc (iRg (aCons (cVar 9) aNil)) (gN 11) (fun _ m => .ok true m) (cCnt (cVar 6) (cVar 11))) (aCons (cVar 8) (aCons (cVar 8) aNil)))) aNil))))) (sRet (cC (.bl false))) sNil))))))))
theorem right_eq : m_law_right = fnC 12 ((sSeq (sFor (iRg (aCons (cC (.int 10)) aNil)) (gN 1)
    (sSeq (sParN [9, 10] (cAll [(false, (c2 addD (cC (.int 1)) (cCall m_law_take (aCons (cVar 0) (aCons (cC (.int 4)) aNil))))), (false, (c2 addD (cC (.int 1)) (cCall m_law_take (aCons (cVar 0) (aCons (cC (.int 4)) aNil)))))]))
    (sSeq (sSet 2 (c1 sortD (cSl slD (cCall m_law_mixed (aCons (cVar 0) (aCons (cRg false (aCons (cVar 10) aNil)) aNil))) oNone (oSome (cCall m_law_take (aCons (cVar 0) (aCons (c2 addD (cVar 10) (cC (.int 1))) aNil)))))))
    (sSeq (sSet 3 (c1 tupleD (cLc (iSeq (cVar 2)) (gN 5) (fun _ m => .ok true m) (cTup (aCons (cVar 5) (aCons (cCall m_law_take (aCons (cVar 0) (aCons (cVar 9) aNil))) aNil))))))
    rest38))))
    (sRet (cC (.bl true))))) := rfl
/-- all rows of n numbers below t -/
def rowsI (t : Nat) : Nat → List (List Int)
  | 0 => [[]]
  | n + 1 => (rowsI t n).flatMap fun r => (List.range t).map fun (k : Nat) => r ++ [(k : Int)]
def tups (rs : List (List Int)) : List D := rs.map fun r => .tup (r.map .int)
def hit (r : List Int) (p : Int × Int) : Bool := r.getD p.1.toNat 0 == p.2
def mt (h : List (Int × Int)) (r : List Int) : Bool := h.all (hit r)
def hsAll (t : Nat) : Nat → Nat → List (List (Int × Int))
  | _, 0 => [[]]
  | i, n + 1 => hsAll t (i + 1) n ++ (List.range t).flatMap fun (v : Nat) => (hsAll t (i + 1) n).map fun h => ((i : Int), (v : Int)) :: h
def gam38 (b : Nat) (d1 : D) (h : List (Int × Int)) (x4 x5 x6 x7 x8 : D) (t n : Nat) (x11 x12 : D) : Gam := [.box b, d1, .lst (h.map fun p => .int p.1), .tup (h.map fun p => .tup [.int p.1, .int p.2]), x4, x5, x6, x7, x8, .int t, .int n, x11, x12]
def out38 (r : SR) : Option (Mu × D × Nat) := match r with
  | .nx Γ m => some (m, Γ.getD 0 .non, Γ.length)
  | _ => none
def pD (p : Int × Int) : D := .tup [.int p.1, .int p.2]
theorem at2_0 {a b : D} : atI [a, b] 0 = some a := (rfl)
theorem at2_1 {a b : D} : atI [a, b] 1 = some b := (rfl)
theorem inner38 {Γ : Gam} {m : Mu} {h : List (Int × Int)} {r : List Int} (hΓ5 : ∀ d, (Γ.set 12 d).getD 5 .non = .tup (r.map .int)) (hΓ12 : ∀ d, (Γ.set 12 d).getD 12 .non = d) (hh : ∀ p ∈ h, 0 ≤ p.1 ∧ p.1 < r.length) :
    WR (lcGo (gN 12) (tCmp neD (c2 ixD (cVar 5) (c2 ixD (cVar 12) (cC (.int 0)))) (c2 ixD (cVar 12) (cC (.int 1)))) (cVar 12) Γ (h.map pD) m) fun ys m' => ys = (h.filter fun p => !hit r p).map pD ∧ m' = m := by
  refine wr_lcGo (fun ds acc m' => ∃ d r', h = d ++ r' ∧ ds = r'.map pD ∧ acc = (d.filter fun p => !hit r p).map pD ∧ m' = m) ?_ _ [] m ⟨[], h, rfl, rfl, rfl, rfl⟩ ?_
  · rintro x ds acc m' ⟨d, r', hx, hd, ha, rfl⟩
    cases r' with
    | nil => cases hd
    | cons p r' =>
      cases hd
      obtain ⟨h0, h1⟩ := hh p (by rw [hx]; simp)
      have hlt : p.1.toNat < r.length := by omega
      have ea : atI (r.map D.int) p.1 = some (.int (r.getD p.1.toNat 0)) := by
        unfold atI ixN
        rw [List.length_map, if_pos h0, if_pos h1]
        show (r.map D.int)[p.1.toNat]? = _
        rw [List.getElem?_map, List.getElem?_eq_getElem hlt, List.getD_eq_getElem?_getD, List.getElem?_eq_getElem hlt]; rfl
      simp only [wo_gn, wr_tcmp, wr_c2, wr_var, hΓ5, hΓ12, wr_c]
      show WO (ixD m' (pD p) (.int 0)) _
      simp only [pD, wo_ix_t, at2_0, at2_1, wo_some, ea, wo_nei, wo_bl]
      show if (!hit r p) = true then _ else _
      have e1 : hit r p = false → (List.filter (fun p => !hit r p) [p]) = [p] := fun hq => by simp [List.filter, hq]
      have e2 : hit r p = true → (List.filter (fun p => !hit r p) [p]) = [] := fun hq => by simp [List.filter, hq]
      cases hq : hit r p
      · rw [if_pos (by decide)]
        refine ⟨d ++ [p], r', by rw [hx]; simp, rfl, ?_, trivial⟩
        rw [ha, List.filter_append, List.map_append, e1 hq]; rfl
      · rw [if_neg (by decide)]
        refine ⟨d ++ [p], r', by rw [hx]; simp, rfl, ?_, trivial⟩
        rw [ha, List.filter_append, List.map_append, e2 hq]; simp
  · rintro ys m' ⟨d, r', hx, hd, ha, rfl⟩
    cases r' with
    | nil => simp at hx; subst hx; exact ⟨by simpa using ha, rfl⟩
    | cons p r' => cases hd
theorem pl_pairs {l : List (Int × Int)} : plAll 39 (l.map pD) = true := by
  induction l with
  | nil => rfl
  | cons p l ih => rw [List.map_cons, plAll, ih]; rfl
theorem eq_empty {m : Mu} {l : List (Int × Int)} {Q : D → Prop} : WO (eqD m (.lst (l.map pD)) (.lst [])) Q = Q (.bl l.isEmpty) := by
  unfold eqD
  have e : (D.lst (l.map pD)).pl PLN = true := by unfold PLN; rw [D.pl]; exact pl_pairs
  rw [e]
  cases l <;> exact wo_eq.trans (rfl)
theorem mt_empty {h : List (Int × Int)} {r : List Int} : (h.filter fun p => !hit r p).isEmpty = mt h r := by
  unfold mt
  induction h with
  | nil => rfl
  | cons p h ih =>
    rw [List.all_cons, ← ih]
    cases hq : hit r p
    · rw [List.filter_cons_of_pos (by rw [hq]; rfl)]; rfl
    · rw [List.filter_cons_of_neg (by rw [hq]; decide)]; rfl
theorem loop38 {b : Nat} {d1 pl x5 x6 x7 x8 x9 x10 x11 x12 : D} {h : List (Int × Int)} {n : Nat} {m : Mu} {rs : List (List Int)} (hr : ∀ r ∈ rs, r.length = n) (hh : ∀ p ∈ h, 0 ≤ p.1 ∧ p.1 < n) (hl : h.length ≤ 1000) (hrl : rs.length ≤ 10000) :
    WS (loopS (gN 5) body38 (tups rs) [.box b, d1, pl, .tup (h.map pD), .lst [], x5, x6, x7, x8, x9, x10, x11, x12] m) (fun Γ m' => ∃ y, Γ = [.box b, d1, pl, .tup (h.map pD), .lst (tups (rs.filter (mt h))), y, x6, x7, x8, x9, x10, x11, x12] ∧ m' = m) fun _ _ => False := by
  refine ws_loop (fun ds Γ m' => ∃ (d r' : List (List Int)) (y : D), rs = d ++ r' ∧ ds = tups r' ∧ Γ = [.box b, d1, pl, .tup (h.map pD), .lst (tups (d.filter (mt h))), y, x6, x7, x8, x9, x10, x11, x12] ∧ m' = m) ?_ ?_ _ _ _ ⟨[], rs, x5, rfl, rfl, rfl, rfl⟩
  · rintro x ds Γ m' ⟨d, r', y, hx, hd, rfl, rfl⟩
    cases r' with
    | nil => cases hd
    | cons r r' =>
      cases hd
      have hrl2 := hr r (by rw [hx]; simp)
      have hlen : d.length + (r'.length + 1) ≤ 10000 := by have := congrArg List.length hx; simp at this; omega
      have hfl : (d.filter (mt h)).length ≤ d.length := List.length_filter_le ..
      unfold body38
      simp only [wo_gn, List.set_cons_zero, List.set_cons_succ, ws_set, wr_c2, wr_var, List.getD_cons_zero, List.getD_cons_succ, wr_lst, wr_acons, wr_anil, List.length_cons, List.length_nil, show szOk (0 + 1) = true from rfl, show szOk 0 = true from rfl, if_true, wr_c1, wr_lc, wr_iseq, wo_items_t, List.length_map, szOk_of (show h.length ≤ 16777216 by omega)]
      refine (inner38 (r := r) (h := h) (fun d => rfl) (fun d => rfl) (fun p hp => by rw [hrl2]; exact hh p hp)).mono ?_
      rintro ys m2 ⟨rfl, rfl⟩
      rw [eq_empty, mt_empty, wo_intb]
      cases hq : mt h r
      · rw [show ∀ Q, WO (mulD m2 (D.lst [D.tup (List.map D.int r)]) (D.int (if false = true then 1 else 0))) Q = Q (.lst []) from fun Q => wo_eq.trans (rfl), wo_add_l]
        refine ⟨szOk_of (by simp [tups]; omega), d ++ [r], r', .tup (r.map .int), by rw [hx]; simp, rfl, ?_, rfl⟩
        rw [List.filter_append, List.filter_cons_of_neg (by rw [hq]; decide)]
        simp
      · rw [show ∀ Q, WO (mulD m2 (D.lst [D.tup (List.map D.int r)]) (D.int (if true = true then 1 else 0))) Q = Q (.lst [.tup (r.map .int)]) from fun Q => wo_eq.trans (rfl), wo_add_l]
        refine ⟨szOk_of (by simp [tups]; omega), d ++ [r], r', .tup (r.map .int), by rw [hx]; simp, rfl, ?_, rfl⟩
        rw [List.filter_append, List.filter_cons_of_pos hq]
        simp [tups]
  · rintro Γ m' ⟨d, r', y, hx, hd, rfl, rfl⟩
    cases r' with
    | nil => simp at hx; subst hx; exact ⟨y, rfl, rfl⟩
    | cons p r' => cases hd
def pL (p : Int × Int) : D := .lst [.int p.1, .int p.2]
def hm (t n : Nat) (h : List (Int × Int)) (k : Int) : Int := if h.length = n then (if (h.map (·.2)).sum % (t : Int) = k then 1 else 0) else (t : Int) ^ (n - 1 - h.length)
def ln (t n : Nat) (h : List (Int × Int)) : D := if h.length = n ∨ t = 1 then .int ((h.map (·.2)).sum % (t : Int)) else .non
theorem lc_snd {pf : Int × Int → D} (hpf : pf = pD ∨ pf = pL) {Γ : Gam} {m : Mu} {h : List (Int × Int)} {a b : Nat} (hab : a ≠ b) (hb : b < Γ.length) :
    WR (lcGo (gT 2 (gsCons (gN a) (gsCons (gN b) gsNil))) (fun _ m => .ok true m) (cVar b) Γ (h.map pf) m) fun ys m' => ys = (h.map (·.2)).map .int ∧ m' = m := by
  refine (lc_map (fun d => match d with
    | .tup [_, y] => y
    | .lst [_, y] => y
    | _ => .non) fun x hx => ?_).mono ?_
  · obtain ⟨p, _, rfl⟩ := List.mem_map.mp hx
    have e : ((Γ.set a (.int p.1)).set b (.int p.2)).getD b .non = .int p.2 := by
      rw [List.getD_eq_getElem?_getD, List.getElem?_set_self (by rw [List.length_set]; exact hb)]; rfl
    rcases hpf with rfl | rfl <;> (simp only [pD, pL, gT, List.length_cons, List.length_nil, if_true, gsCons, gsNil, gN, Option.bind_some, wo_some, wr_var, e]; first | exact ⟨rfl, rfl⟩ | exact ⟨trivial, rfl⟩ | simp)
  · rintro ys m' ⟨rfl, rfl⟩
    refine ⟨?_, rfl⟩
    rw [List.map_map, List.map_map]
    apply List.map_congr_left
    intro p _
    rcases hpf with rfl | rfl <;> rfl
theorem wo_itemsT {m : Mu} {d : D} {xs : List D} (hd : d = .tup xs ∨ d = .lst xs) {Q : List D → Prop} : WO (itemsD m d) Q = Q xs := by rcases hd with rfl | rfl <;> exact wo_eq.trans (rfl)
theorem wo_lenT {m : Mu} {d : D} {xs : List D} (hd : d = .tup xs ∨ d = .lst xs) {Q : D → Prop} : WO (lenD m d) Q = Q (.int xs.length) := by rcases hd with rfl | rfl <;> exact wo_eq.trans (rfl)
theorem how_ok {m : Mu} {t n : Nat} {h : List (Int × Int)} {k : Int} (ht : 0 < t) (ht' : t ≤ 100) (hl : h.length ≤ n) (hn : 0 < n) (hn' : n ≤ 100) : WR (m_how_many_shares [.int t, .int n, .tup (h.map pD), .int k] m) fun d m' => d = .int (hm t n h k) ∧ m' = m := by
  unfold m_how_many_shares
  simp only [wr_fnC, ws_seq, ws_if, wr_tcmp, wr_c2, wr_c1, wr_var, List.replicate, List.cons_append, List.nil_append, List.getD_cons_zero, List.getD_cons_succ, wo_len_t, List.length_map, wo_eqi, wo_bl]
  unfold hm
  by_cases e : h.length = n
  · have eb : ((h.length : Int) == (n : Int)) = true := by rw [beq_iff_eq]; omega
    rw [if_pos e, eb, if_pos rfl]
    simp only [ws_ret, wr_c1, wr_c2, wr_call, wr_acons, wr_anil, wr_lc, wr_iseq, wr_var, List.getD_cons_zero, List.getD_cons_succ, wo_items_t, List.length_map, szOk_of (show h.length ≤ 16777216 by omega), if_true]
    refine (lc_snd (.inl rfl) (by decide) (by simp)).mono ?_
    rintro ys m' ⟨rfl, rfl⟩
    rw [(told_ok (show (0 : Int) < t by omega)).1, wr_ok, wo_eqi, wo_intb]
    refine ⟨?_, rfl⟩
    by_cases z : (h.map (·.2)).sum % (t : Int) = k
    · rw [if_pos z]; simp [z]
    · rw [if_neg z]; simp [z]
  · have eb : ((h.length : Int) == (n : Int)) = false := by rw [beq_eq_false_iff_ne]; omega
    rw [if_neg e, eb, if_neg (by decide)]
    simp only [ws_nil, ws_set, wr_c, ws_for, wr_irg, wr_acons, wr_anil, wr_c2, wr_c1, wr_var, List.set_cons_zero, List.set_cons_succ, List.getD_cons_zero, List.getD_cons_succ, wo_len_t, List.length_map, wo_sub]
    have er := rg1_ok (z := (n : Int) - 1 - h.length) (by omega) (by omega)
    rw [er, wo_some]
    refine ws_loop (fun ds Γ m' => ∃ (j : Nat) (x y z : D), Γ = [.int t, .int n, .tup (h.map pD), .int k, .int ((t : Int) ^ j), x, y, z] ∧ j + ds.length = n - 1 - h.length ∧ m' = m) ?_ ?_ _ _ _ ⟨0, .non, .non, .non, by rw [Int.pow_zero], by rw [rangeI_length]; omega, rfl⟩
    · intro d ds Γ m' hI
      obtain ⟨j, x, y, z, hΓ, hj, hm⟩ := hI
      subst hΓ
      subst hm
      have mo : mulOk ((t : Int) ^ j) t = true := mulOk_r (by omega) (by omega)
      simp [mo]
      exact ⟨j + 1, by rw [Int.pow_succ], by simp at hj; omega⟩
    · rintro Γ m' ⟨j, x, y, z, rfl, hj, rfl⟩
      simp at hj ⊢
      rw [hj]
theorem learned_ok {m : Mu} {t n : Nat} {h : List (Int × Int)} {pf : Int × Int → D} {d : D} (hpf : pf = pD ∨ pf = pL) (hd : d = .tup (h.map pf) ∨ d = .lst (h.map pf)) (ht : 0 < t) (hl : h.length ≤ 1000) : WR (m_learned [.int t, .int n, d] m) fun d m' => d = ln t n h ∧ m' = m := by
  unfold m_learned
  simp only [wr_fnC, ws_seq, ws_if, wr_tor, wr_tcmp, wr_c2, wr_c1, wr_c, wr_var, List.replicate, List.cons_append, List.nil_append, List.getD_cons_zero, List.getD_cons_succ, wo_lenT hd, List.length_map, wo_eqi, wo_bl]
  have fin : ∀ Qn, WS (sRet (cCall m_told_number (aCons (cLc (iSeq (cVar 2)) (gT 2 (gsCons (gN 3) (gsCons (gN 4) gsNil))) (fun _ m => .ok true m) (cVar 4)) (aCons (cVar 0) aNil))) [.int t, .int n, d, .non, .non] m) Qn (fun d m' => d = .int ((h.map (·.2)).sum % (t : Int)) ∧ m' = m) := by
    intro Qn
    simp only [ws_ret, wr_call, wr_acons, wr_anil, wr_lc, wr_iseq, wr_var, List.getD_cons_zero, List.getD_cons_succ, wo_itemsT hd, List.length_map, szOk_of (show h.length ≤ 16777216 by omega), if_true]
    refine (lc_snd hpf (by decide) (by simp)).mono ?_
    rintro ys m' ⟨rfl, rfl⟩
    rw [(told_ok (show (0 : Int) < t by omega)).1, wr_ok]
    exact ⟨rfl, rfl⟩
  by_cases e : h.length = n
  · have eb : ((h.length : Int) == (n : Int)) = true := by rw [beq_iff_eq]; omega
    have el : ln t n h = .int ((h.map (·.2)).sum % (t : Int)) := if_pos (.inl e)
    rw [eb, if_pos rfl, if_pos trivial, el]
    exact fin _
  · have eb : ((h.length : Int) == (n : Int)) = false := by rw [beq_eq_false_iff_ne]; omega
    rw [eb, if_neg (by decide)]
    by_cases e1 : t = 1
    · have el : ln t n h = .int ((h.map (·.2)).sum % (t : Int)) := if_pos (.inr e1)
      have eb : ((t : Int) == (1 : Int)) = true := by rw [beq_iff_eq]; omega
      rw [eb, if_pos rfl, el]
      exact fin _
    · have el : ln t n h = .non := if_neg (by rintro (z | z) <;> contradiction)
      have eb : ((t : Int) == (1 : Int)) = false := by rw [beq_eq_false_iff_ne]; omega
      rw [eb, if_neg (by decide), el]
      simp
theorem wr_cnt {co ca : EC} {Γ : Gam} {m : Mu} {S : List Int} {Q : D → Mu → Prop} (h : WR (co Γ m) fun d m' => d = .lst (S.map .int) ∧ m' = m ∧ WR (ca Γ m) fun e m2 => ∃ k, e = .int k ∧ Q (.int (S.count k : Nat)) m2) : WR (cCnt co ca Γ m) Q := by
  unfold cCnt
  rw [wr_bind]
  refine h.mono ?_
  rintro d m' ⟨rfl, rfl, h2⟩
  show WR ((ca Γ m').bind _) Q
  rw [wr_bind]
  refine h2.mono ?_
  rintro e m2 ⟨k, rfl, hq⟩
  rw [wr_of]
  show WO (Option.map _ (intsOf (S.map D.int))) _
  rw [intsOf_map, Option.map_some, wo_some]
  exact hq
theorem sm_int {n : Nat} {l : List Int} {x : D} (h : x ∈ l.map D.int) : Sm n x := by
  obtain ⟨i, _, rfl⟩ := List.mem_map.mp h
  exact .int
def rgI (t : Nat) : List Int := (List.range t).map fun (k : Nat) => (k : Int)
theorem rangeI_eq : ∀ (t : Nat) (lo : Nat), rangeI (lo : Int) t = ((List.range t).map fun (k : Nat) => ((lo + k : Nat) : Int)).map D.int
  | 0, _ => rfl
  | t + 1, lo => by
    rw [rangeI, List.range_succ_eq_map, show (lo : Int) + 1 = ((lo + 1 : Nat) : Int) by omega, rangeI_eq t (lo + 1)]
    simp [List.map_map, Function.comp_def]
    try (intro a _; omega)
theorem rangeI_rgI (t : Nat) : rangeI 0 t = (rgI t).map D.int := by
  have := rangeI_eq t 0
  simp at this
  simpa [rgI] using this
theorem rest3_ok {b t n : Nat} {m : Mu} {d1 x2 x4 x5 x7 x8 x11 x12 : D} {h : List (Int × Int)} {S S' : List Int} {s0 : Int} (ht : 0 < t) (ht' : t ≤ 100) (hn : 0 < n) (hn' : n ≤ 100) (hl : h.length ≤ n) (hS : S = s0 :: S')
    (hA : (rgI t).map (hm t n h) = (rgI t).map fun k => ((S.count k : Nat) : Int)) (hB : ln t n h = if S.count s0 = S.length then .int s0 else .non) :
    WS (rest3 [.box b, d1, x2, .tup (h.map pD), x4, x5, .lst (S.map .int), x7, x8, .int t, .int n, x11, x12] m) (fun Γ m' => (∃ x7 x8, Γ = [.box b, d1, x2, .tup (h.map pD), x4, x5, .lst (S.map .int), x7, x8, .int t, .int n, x11, x12]) ∧ m' = m) (fun _ _ => False) := by
  have er := rg1_ok (z := (t : Int)) (by omega) (by omega)
  have smh : Sm 15 (.tup (h.map pD)) := by
    refine .tup ?_ (by simp; omega)
    intro x hx
    obtain ⟨p, _, rfl⟩ := List.mem_map.mp hx
    refine .tup ?_ (by simp)
    intro y hy
    simp at hy
    rcases hy with rfl | rfl <;> exact .int
  have etl : toL (.tup (h.map pD)) = .lst (h.map pL) := by
    rw [toL, toLAll_map, List.map_map]
    exact congrArg D.lst (List.map_congr_left fun p _ => by simp [pD, pL, toL, toLAll])
  unfold rest3
  simp only [ws_seq, ws_set, wr_lst, wr_acons, wr_anil, wr_lc, wr_irg, wr_var, List.getD_cons_zero, List.getD_cons_succ, er, wo_some, rangeI_length, Int.toNat_natCast, szOk_of (show t ≤ 16777216 by omega), if_true]
  refine (lc_map (fun d => match d with
    | .int k => .int (hm t n h k)
    | _ => .non) fun x hx => ?_).mono ?_
  · rw [rangeI_rgI] at hx
    obtain ⟨k, _, rfl⟩ := List.mem_map.mp hx
    simp only [wo_gn, List.set_cons_zero, List.set_cons_succ, wr_call, wr_acons, wr_anil, wr_var, List.getD_cons_zero, List.getD_cons_succ]
    exact how_ok ht ht' hl hn hn'
  rintro ys m1 ⟨rfl, rfl⟩
  have ey : (rangeI 0 t).map (fun d => match d with
    | .int k => D.int (hm t n h k)
    | _ => .non) = ((rgI t).map fun k => ((S.count k : Nat) : Int)).map .int := by
    rw [← hA, rangeI_rgI, List.map_map, List.map_map]; rfl
  rw [ey]
  simp only [List.length_cons, List.length_nil, show szOk (0 + 1) = true from rfl, if_true, List.set_cons_zero, List.set_cons_succ]
  rw [ws_app (xs := [.lst (((rgI t).map fun k => ((S.count k : Nat) : Int)).map .int)]) rfl]
  simp only [wr_call, wr_acons, wr_anil, wr_var, List.getD_cons_zero, List.getD_cons_succ]
  refine (learned_ok (.inl rfl) (.inl rfl) ht (by omega)).mono ?_
  rintro d m2 ⟨rfl, rfl⟩
  simp only [List.length_cons, List.length_nil, show szOk (0 + 1 + 1) = true from rfl, if_true, List.set_cons_zero, List.set_cons_succ, List.cons_append, List.nil_append]
  rw [ws_app (xs := [.lst (((rgI t).map fun k => ((S.count k : Nat) : Int)).map .int), ln t n h]) rfl]
  simp only [wr_call, wr_acons, wr_anil, wr_var, List.getD_cons_zero, List.getD_cons_succ]
  refine (lists_ok m2 15 _ smh).mono ?_
  rintro d m3 ⟨rfl, rfl⟩
  rw [etl]
  refine (learned_ok (.inr rfl) (.inr rfl) ht (by omega)).mono ?_
  rintro d m4 ⟨rfl, rfl⟩
  simp only [List.length_cons, List.length_nil, show szOk (0 + 1 + 1 + 1) = true from rfl, if_true, List.set_cons_zero, List.set_cons_succ, List.cons_append, List.nil_append]
  have ix0 : atI (S.map D.int) 0 = some (.int s0) := by
    rw [hS]; unfold atI ixN; rw [if_pos (by decide), if_pos (by simp)]; rfl
  rw [wr_if, wr_tcmp, wr_c2]
  refine wr_cnt (S := S) ?_
  simp only [wr_var, List.getD_cons_zero, List.getD_cons_succ, wr_c2, wr_c, wo_ix_l, ix0, wo_some]
  refine ⟨trivial, trivial, s0, rfl, ?_⟩
  simp only [wr_c1, wr_var, List.getD_cons_zero, List.getD_cons_succ, wo_len_l, wo_eqi, wo_bl, List.length_map]
  by_cases e : S.count s0 = S.length
  · have eb : (((S.count s0 : Nat) : Int) == (S.length : Int)) = true := by rw [beq_iff_eq]; omega
    rw [eb, if_pos rfl]
    have hz : D.int s0 = ln t n h := by rw [hB, if_pos e]
    rw [hz]
    simp only [ws_if, wr_tnot, wr_tru, wr_call, wr_acons, wr_anil, wr_var, wr_lst, wr_lc, wr_irg, List.getD_cons_zero, List.getD_cons_succ, er, wo_some, rangeI_length, Int.toNat_natCast, szOk_of (show t ≤ 16777216 by omega), if_true]
    refine (lc_map (fun d => match d with
      | .int k => .int (S.count k : Nat)
      | _ => .non) fun x hx => ?_).mono ?_
    · rw [rangeI_rgI] at hx
      obtain ⟨k, _, rfl⟩ := List.mem_map.mp hx
      simp only [wo_gn, List.set_cons_zero, List.set_cons_succ]
      refine wr_cnt (S := S) ?_
      simp only [wr_var, List.getD_cons_zero, List.getD_cons_succ]
      exact ⟨trivial, trivial, k, rfl, rfl, trivial⟩
    rintro ys m5 ⟨rfl, rfl⟩
    have ey : (rangeI 0 t).map (fun d => match d with
      | .int k => D.int (S.count k : Nat)
      | _ => .non) = ((rgI t).map fun k => ((S.count k : Nat) : Int)).map .int := by
      rw [rangeI_rgI, List.map_map, List.map_map]; rfl
    rw [ey]
    simp only [List.length_cons, List.length_nil, show szOk (0 + 1 + 1 + 1) = true from rfl, if_true]
    refine (same_ok m5 15 _ ?_).mono ?_
    · refine .lst ?_ (by simp)
      intro x hx
      simp only [List.mem_cons, List.not_mem_nil, or_false] at hx
      have hln : Sm 14 (ln t n h) := by unfold ln; split <;> first | exact .int | exact .non
      rcases hx with rfl | rfl | rfl
      · refine .lst (fun y hy => sm_int hy) ?_
        simp [rgI]; omega
      · exact hln
      · exact hln
    · rintro r m6 ⟨rfl, rfl⟩
      rw [wo_tru_b]
      exact ⟨⟨_, _, rfl⟩, rfl⟩
  · have eb : (((S.count s0 : Nat) : Int) == (S.length : Int)) = false := by rw [beq_eq_false_iff_ne]; omega
    rw [eb, if_neg (by decide)]
    have hz : D.non = ln t n h := by rw [hB, if_neg e]
    rw [hz]
    simp only [ws_if, wr_tnot, wr_tru, wr_call, wr_acons, wr_anil, wr_var, wr_lst, wr_lc, wr_irg, List.getD_cons_zero, List.getD_cons_succ, er, wo_some, rangeI_length, Int.toNat_natCast, szOk_of (show t ≤ 16777216 by omega), if_true]
    refine (lc_map (fun d => match d with
      | .int k => .int (S.count k : Nat)
      | _ => .non) fun x hx => ?_).mono ?_
    · rw [rangeI_rgI] at hx
      obtain ⟨k, _, rfl⟩ := List.mem_map.mp hx
      simp only [wo_gn, List.set_cons_zero, List.set_cons_succ]
      refine wr_cnt (S := S) ?_
      simp only [wr_var, List.getD_cons_zero, List.getD_cons_succ]
      exact ⟨trivial, trivial, k, rfl, rfl, trivial⟩
    rintro ys m5 ⟨rfl, rfl⟩
    have ey : (rangeI 0 t).map (fun d => match d with
      | .int k => D.int (S.count k : Nat)
      | _ => .non) = ((rgI t).map fun k => ((S.count k : Nat) : Int)).map .int := by
      rw [rangeI_rgI, List.map_map, List.map_map]; rfl
    rw [ey]
    simp only [List.length_cons, List.length_nil, show szOk (0 + 1 + 1 + 1) = true from rfl, if_true]
    refine (same_ok m5 15 _ ?_).mono ?_
    · refine .lst ?_ (by simp)
      intro x hx
      simp only [List.mem_cons, List.not_mem_nil, or_false] at hx
      have hln : Sm 14 (ln t n h) := by unfold ln; split <;> first | exact .int | exact .non
      rcases hx with rfl | rfl | rfl
      · refine .lst (fun y hy => sm_int hy) ?_
        simp [rgI]; omega
      · exact hln
      · exact hln
    · rintro r m6 ⟨rfl, rfl⟩
      rw [wo_tru_b]
      exact ⟨⟨_, _, rfl⟩, rfl⟩
end Lw

end

section
set_option linter.all false
set_option maxRecDepth 100000
namespace Lw
open PySem L2 PySem.W Pv
def sumsOf (t n : Nat) (h : List (Int × Int)) : List Int := ((rowsI t n).filter (mt h)).map fun r => r.sum % (t : Int)
/-- what is asked of the sums -/
def chk (t n : Nat) (h : List (Int × Int)) : List Int → Bool
  | [] => false
  | s0 :: S => ((rgI t).all fun k => hm t n h k == (((s0 :: S).count k : Nat) : Int)) && (if h.length = n ∨ t = 1 then ((s0 :: S).count s0 == (s0 :: S).length) && (s0 == (h.map (·.2)).sum % (t : Int)) else !((s0 :: S).count s0 == (s0 :: S).length))
theorem chk_1_1 : ((hsAll 1 0 1).all fun h => chk 1 1 h (sumsOf 1 1 h)) = true := by decide +kernel
theorem rows_1_1 (m : Mu) : m_law_rows [.int 1, .int 1] m = .ok (.lst (tups (rowsI 1 1))) m := by kernel_rfl
theorem chk_1_2 : ((hsAll 1 0 2).all fun h => chk 1 2 h (sumsOf 1 2 h)) = true := by decide +kernel
theorem rows_1_2 (m : Mu) : m_law_rows [.int 1, .int 2] m = .ok (.lst (tups (rowsI 1 2))) m := by kernel_rfl
theorem chk_1_3 : ((hsAll 1 0 3).all fun h => chk 1 3 h (sumsOf 1 3 h)) = true := by decide +kernel
theorem rows_1_3 (m : Mu) : m_law_rows [.int 1, .int 3] m = .ok (.lst (tups (rowsI 1 3))) m := by kernel_rfl
theorem chk_1_4 : ((hsAll 1 0 4).all fun h => chk 1 4 h (sumsOf 1 4 h)) = true := by decide +kernel
theorem rows_1_4 (m : Mu) : m_law_rows [.int 1, .int 4] m = .ok (.lst (tups (rowsI 1 4))) m := by kernel_rfl
theorem chk_2_1 : ((hsAll 2 0 1).all fun h => chk 2 1 h (sumsOf 2 1 h)) = true := by decide +kernel
theorem rows_2_1 (m : Mu) : m_law_rows [.int 2, .int 1] m = .ok (.lst (tups (rowsI 2 1))) m := by kernel_rfl
theorem chk_2_2 : ((hsAll 2 0 2).all fun h => chk 2 2 h (sumsOf 2 2 h)) = true := by decide +kernel
theorem rows_2_2 (m : Mu) : m_law_rows [.int 2, .int 2] m = .ok (.lst (tups (rowsI 2 2))) m := by kernel_rfl
theorem chk_2_3 : ((hsAll 2 0 3).all fun h => chk 2 3 h (sumsOf 2 3 h)) = true := by decide +kernel
theorem rows_2_3 (m : Mu) : m_law_rows [.int 2, .int 3] m = .ok (.lst (tups (rowsI 2 3))) m := by kernel_rfl
theorem chk_2_4 : ((hsAll 2 0 4).all fun h => chk 2 4 h (sumsOf 2 4 h)) = true := by decide +kernel
theorem rows_2_4 (m : Mu) : m_law_rows [.int 2, .int 4] m = .ok (.lst (tups (rowsI 2 4))) m := by kernel_rfl
theorem chk_3_1 : ((hsAll 3 0 1).all fun h => chk 3 1 h (sumsOf 3 1 h)) = true := by decide +kernel
theorem rows_3_1 (m : Mu) : m_law_rows [.int 3, .int 1] m = .ok (.lst (tups (rowsI 3 1))) m := by kernel_rfl
theorem chk_3_2 : ((hsAll 3 0 2).all fun h => chk 3 2 h (sumsOf 3 2 h)) = true := by decide +kernel
theorem rows_3_2 (m : Mu) : m_law_rows [.int 3, .int 2] m = .ok (.lst (tups (rowsI 3 2))) m := by kernel_rfl
theorem chk_3_3 : ((hsAll 3 0 3).all fun h => chk 3 3 h (sumsOf 3 3 h)) = true := by decide +kernel
theorem rows_3_3 (m : Mu) : m_law_rows [.int 3, .int 3] m = .ok (.lst (tups (rowsI 3 3))) m := by kernel_rfl
theorem chk_3_4 : ((hsAll 3 0 4).all fun h => chk 3 4 h (sumsOf 3 4 h)) = true := by decide +kernel
theorem rows_3_4 (m : Mu) : m_law_rows [.int 3, .int 4] m = .ok (.lst (tups (rowsI 3 4))) m := by kernel_rfl
theorem chk_4_1 : ((hsAll 4 0 1).all fun h => chk 4 1 h (sumsOf 4 1 h)) = true := by decide +kernel
theorem rows_4_1 (m : Mu) : m_law_rows [.int 4, .int 1] m = .ok (.lst (tups (rowsI 4 1))) m := by kernel_rfl
theorem chk_4_2 : ((hsAll 4 0 2).all fun h => chk 4 2 h (sumsOf 4 2 h)) = true := by decide +kernel
theorem rows_4_2 (m : Mu) : m_law_rows [.int 4, .int 2] m = .ok (.lst (tups (rowsI 4 2))) m := by kernel_rfl
theorem chk_4_3 : ((hsAll 4 0 3).all fun h => chk 4 3 h (sumsOf 4 3 h)) = true := by decide +kernel
theorem rows_4_3 (m : Mu) : m_law_rows [.int 4, .int 3] m = .ok (.lst (tups (rowsI 4 3))) m := by kernel_rfl
theorem chk_4_4 : ((hsAll 4 0 4).all fun h => chk 4 4 h (sumsOf 4 4 h)) = true := by decide +kernel
theorem rows_4_4 (m : Mu) : m_law_rows [.int 4, .int 4] m = .ok (.lst (tups (rowsI 4 4))) m := by kernel_rfl
theorem chk_all {t n : Nat} (ht : 0 < t) (ht' : t ≤ 4) (hn : 0 < n) (hn' : n ≤ 4) : ((hsAll t 0 n).all fun h => chk t n h (sumsOf t n h)) = true := by
  have e1 : t = 1 ∨ t = 2 ∨ t = 3 ∨ t = 4 := by omega
  have e2 : n = 1 ∨ n = 2 ∨ n = 3 ∨ n = 4 := by omega
  rcases e1 with rfl | rfl | rfl | rfl <;> rcases e2 with rfl | rfl | rfl | rfl
  · exact chk_1_1
  · exact chk_1_2
  · exact chk_1_3
  · exact chk_1_4
  · exact chk_2_1
  · exact chk_2_2
  · exact chk_2_3
  · exact chk_2_4
  · exact chk_3_1
  · exact chk_3_2
  · exact chk_3_3
  · exact chk_3_4
  · exact chk_4_1
  · exact chk_4_2
  · exact chk_4_3
  · exact chk_4_4
theorem rows_all {t n : Nat} (m : Mu) (ht : 0 < t) (ht' : t ≤ 4) (hn : 0 < n) (hn' : n ≤ 4) : m_law_rows [.int t, .int n] m = .ok (.lst (tups (rowsI t n))) m := by
  have e1 : t = 1 ∨ t = 2 ∨ t = 3 ∨ t = 4 := by omega
  have e2 : n = 1 ∨ n = 2 ∨ n = 3 ∨ n = 4 := by omega
  rcases e1 with rfl | rfl | rfl | rfl <;> rcases e2 with rfl | rfl | rfl | rfl
  · exact rows_1_1 m
  · exact rows_1_2 m
  · exact rows_1_3 m
  · exact rows_1_4 m
  · exact rows_2_1 m
  · exact rows_2_2 m
  · exact rows_2_3 m
  · exact rows_2_4 m
  · exact rows_3_1 m
  · exact rows_3_2 m
  · exact rows_3_3 m
  · exact rows_3_4 m
  · exact rows_4_1 m
  · exact rows_4_2 m
  · exact rows_4_3 m
  · exact rows_4_4 m
theorem chk_eq {t n : Nat} {h : List (Int × Int)} {S : List Int} (q : chk t n h S = true) : ∃ s0 S', S = s0 :: S' ∧ (rgI t).map (hm t n h) = (rgI t).map (fun k => ((S.count k : Nat) : Int)) ∧ ln t n h = if S.count s0 = S.length then .int s0 else .non := by
  cases S with
  | nil => simp [chk] at q
  | cons s0 S' =>
    simp only [chk, Bool.and_eq_true, List.all_eq_true, beq_iff_eq] at q
    refine ⟨s0, S', rfl, List.map_congr_left q.1, ?_⟩
    have q2 := q.2
    unfold ln
    by_cases e : h.length = n ∨ t = 1
    · rw [if_pos e] at q2 ⊢
      simp only [Bool.and_eq_true, beq_iff_eq] at q2
      rw [if_pos q2.1, q2.2]
    · rw [if_neg e] at q2 ⊢
      rw [if_neg]
      simpa using q2
theorem mem_hsAll (t : Nat) : ∀ (n i : Nat) (h : List (Int × Int)), (h.map (·.1)).Pairwise (· < ·) → (∀ p ∈ h, (i : Int) ≤ p.1 ∧ p.1 < (i + n : Nat) ∧ 0 ≤ p.2 ∧ p.2 < t) → h ∈ hsAll t i n
  | 0, i, h, _, hb => by
    cases h with
    | nil => simp [hsAll]
    | cons p h => have := hb p List.mem_cons_self; omega
  | n + 1, i, h, hs, hb => by
    unfold hsAll
    rw [List.mem_append]
    cases h with
    | nil => exact .inl (mem_hsAll t n (i + 1) [] (by simp) (by simp))
    | cons p h =>
      rw [List.map_cons, List.pairwise_cons] at hs
      have hp := hb p List.mem_cons_self
      have later : ∀ q ∈ h, p.1 < q.1 := fun q hq => hs.1 q.1 (List.mem_map.mpr ⟨q, hq, rfl⟩)
      by_cases e : p.1 = i
      · right
        rw [List.mem_flatMap]
        refine ⟨p.2.toNat, List.mem_range.mpr (by omega), List.mem_map.mpr ⟨h, mem_hsAll t n (i + 1) h hs.2 fun q hq => ?_, ?_⟩⟩
        · have := later q hq
          have := hb q (List.mem_cons_of_mem _ hq)
          omega
        · have e2 : ((p.2.toNat : Nat) : Int) = p.2 := by omega
          rw [e2, ← e]
      · left
        refine mem_hsAll t n (i + 1) (p :: h) (by rw [List.map_cons, List.pairwise_cons]; exact hs) fun q hq => ?_
        have hq' := hb q hq
        rcases List.mem_cons.mp hq with rfl | hq
        · omega
        · have := later q hq
          omega
theorem rowsI_len (t : Nat) : ∀ n, ∀ r ∈ rowsI t n, r.length = n
  | 0, r, h => by simp [rowsI] at h; subst h; rfl
  | n + 1, r, h => by
    unfold rowsI at h
    rw [List.mem_flatMap] at h
    obtain ⟨r', hr', h⟩ := h
    obtain ⟨k, _, rfl⟩ := List.mem_map.mp h
    rw [List.length_append, rowsI_len t n r' hr']; rfl
theorem isort_ints {l : List Int} (hn : l.Nodup) : ∃ l' : List Int, isort (l.map D.int) = l'.map D.int ∧ l'.Perm l ∧ l'.Pairwise (· < ·) ∧ sortOk (l.map D.int) = true := by
  have hp : plAll PLN (l.map D.int) = true := plAll_of fun x hx => by obtain ⟨i, _, rfl⟩ := List.mem_map.mp hx; rfl
  have ha : alkP (l.map D.int) = true := by
    unfold alkP
    rw [List.all_eq_true]; intro x hx
    rw [List.all_eq_true]; intro y hy
    obtain ⟨i, _, rfl⟩ := List.mem_map.mp hx
    obtain ⟨j, _, rfl⟩ := List.mem_map.mp hy
    rfl
  have hok : sortOk (l.map D.int) = true := by
    unfold sortOk
    rw [hp, ha]
    have : (l.map D.int).any isNone = false := by
      rw [List.any_eq_false]; intro x hx
      obtain ⟨i, _, rfl⟩ := List.mem_map.mp hx
      simp [isNone]
    rw [this]; rfl
  have hs := isort_sorted hp ha (xs := l.map D.int) (fun y hy => hy)
  have hm := isort_perm (l.map D.int)
  have hi : ∀ x ∈ isort (l.map D.int), ∃ i, x = D.int i := fun x hx => by
    obtain ⟨i, _, e⟩ := List.mem_map.mp (hm.mem_iff.mp hx)
    exact ⟨i, e.symm⟩
  obtain ⟨l', e⟩ : ∃ l' : List Int, isort (l.map D.int) = l'.map D.int := by
    clear hs hm
    generalize isort (l.map D.int) = z at hi
    induction z with
    | nil => exact ⟨[], rfl⟩
    | cons x z ih =>
      obtain ⟨i, rfl⟩ := hi x List.mem_cons_self
      obtain ⟨l', e⟩ := ih fun y hy => hi y (List.mem_cons_of_mem _ hy)
      exact ⟨i :: l', by rw [e]; rfl⟩
  rw [e] at hs hm
  have pm : l'.Perm l := by
    have := hm.map (fun d => match d with
      | .int i => i
      | _ => 0)
    simpa [List.map_map, Function.comp_def] using this
  refine ⟨l', e, pm, ?_, hok⟩
  have nd : l'.Nodup := pm.nodup_iff.mpr hn
  rw [List.pairwise_map] at hs
  refine List.Pairwise.imp (fun {a b} h => ?_) (List.pairwise_and_iff.mpr ⟨hs, nd⟩)
  obtain ⟨h1, h2⟩ := h
  unfold leD' at h1
  simp [D.lt] at h1
  omega
end Lw

end

section
set_option linter.all false
set_option maxRecDepth 100000
namespace Lw
open PySem L2 PySem.W Pv
theorem WS_get {r : SR} {Qn : Gam → Mu → Prop} (h : WS r Qn (fun _ _ => False)) : ∃ Γ m, r = .nx Γ m ∧ Qn Γ m := by
  have h := h.go
  cases r with
  | nx Γ m => exact ⟨Γ, m, rfl, h⟩
  | rt d m => exact h.elim
  | exc c fs Γ m => exact h.elim
  | bad => exact h.elim
theorem rest38_eq : rest38 = sSeq (sSet 4 (cLst aNil)) (sSeq (sFor (iSeq (cCall m_law_rows (aCons (cVar 9) (aCons (cVar 10) aNil)))) (gN 5) body38) rest2) := rfl
theorem rows_few : ∀ t n : Nat, t ≤ 4 → (rowsI t n).length ≤ 4 ^ n
  | _, 0, _ => by simp [rowsI]
  | t, n + 1, h => by
    have ih := rows_few t n h
    unfold rowsI
    rw [List.length_flatMap]
    have : ((rowsI t n).map fun r => ((List.range t).map fun (k : Nat) => r ++ [(k : Int)]).length) = (rowsI t n).map fun _ => t := by
      apply List.map_congr_left; intro r _; simp
    rw [this, List.map_const', List.sum_replicate_nat, Nat.pow_succ]
    exact Nat.mul_le_mul ih h
theorem rest38_ok {b t n : Nat} {m : Mu} {d1 x2 x4 x5 x6 x7 x8 x11 x12 : D} {h : List (Int × Int)} (ht : 0 < t) (ht' : t ≤ 4) (hn : 0 < n) (hn' : n ≤ 4) (hl : h.length ≤ n) (hh : ∀ p ∈ h, 0 ≤ p.1 ∧ p.1 < n) (hm : h ∈ hsAll t 0 n) :
    WS (rest38 [.box b, d1, x2, .tup (h.map pD), x4, x5, x6, x7, x8, .int t, .int n, x11, x12] m) (fun Γ m' => (∃ x2 x3 x4 x5 x6 x7 x8 x9 xa xb xc : D, Γ = [.box b, d1, x2, x3, x4, x5, x6, x7, x8, x9, xa, xb, xc]) ∧ m' = m) (fun _ _ => False) := by
  rw [rest38_eq]
  simp only [ws_seq, ws_set, wr_lst, wr_anil, List.length_nil, show szOk 0 = true from rfl, if_true, List.set_cons_zero, List.set_cons_succ, ws_for, wr_iseq, wr_call, wr_acons, wr_var, List.getD_cons_zero, List.getD_cons_succ, rows_all m ht ht' hn hn', wr_ok, wo_items_l]
  have hr : (rowsI t n).length ≤ 10000 := by
    have h1 := rows_few t n ht'
    have h2 : (4 : Nat) ^ n ≤ 4 ^ 4 := Nat.pow_le_pow_right (by decide) hn'
    omega
  refine WS.mono (loop38 (rowsI_len t n) hh (by omega) hr) ?_ (fun _ _ z => z.elim)
  rintro Γ m' ⟨y, rfl, rfl⟩
  unfold rest2
  simp only [ws_seq, ws_set, wr_lc, wr_iseq, wr_var, List.getD_cons_zero, List.getD_cons_succ, wo_items_l]
  have hf : ((rowsI t n).filter (mt h)).length ≤ 10000 := Nat.le_trans (List.length_filter_le ..) hr
  rw [if_pos (szOk_of (by simp [tups]; omega))]
  refine (lc_map (fun d => match d with
    | .tup xs => match intsOf xs with
      | some ns => .int (ns.sum % (t : Int))
      | none => .non
    | _ => .non) fun x hx => ?_).mono ?_
  · obtain ⟨r, _, rfl⟩ := List.mem_map.mp hx
    simp only [wo_gn, List.set_cons_zero, List.set_cons_succ, wr_c2, wr_c1, wr_var, List.getD_cons_zero, List.getD_cons_succ]
    have e1 : sumD' m' (.tup (r.map .int)) = some (.int r.sum) := by show Option.map _ (intsOf (r.map D.int)) = _; rw [intsOf_map]; rfl
    rw [e1, wo_some, wo_mod]
    exact ⟨by omega, by rw [intsOf_map], by first | exact trivial | rfl⟩
  intro ys m2 hy
  have hy1 := hy.1
  have hy2 := hy.2
  subst hy1
  subst hy2
  have ey : (tups ((rowsI t n).filter (mt h))).map (fun d => match d with
    | .tup xs => match intsOf xs with
      | some ns => D.int (ns.sum % (t : Int))
      | none => .non
    | _ => .non) = (sumsOf t n h).map .int := by
    unfold tups sumsOf
    rw [List.map_map, List.map_map]
    apply List.map_congr_left
    intro r _
    show (match intsOf (r.map D.int) with
      | some ns => D.int (ns.sum % (t : Int))
      | none => .non) = _
    rw [intsOf_map]; rfl
  rw [ey]
  simp only [List.set_cons_zero, List.set_cons_succ]
  have hc := chk_all ht ht' hn hn'
  rw [List.all_eq_true] at hc
  have hcm : chk t n h (sumsOf t n h) = true := hc h hm
  refine (chk_eq hcm).elim fun s0 hq => hq.elim fun S' hq => ?_
  have hS := hq.1
  have hA := hq.2.1
  have hB := hq.2.2
  have t100 : t ≤ 100 := by omega
  have n100 : n ≤ 100 := by omega
  have hc3 := rest3_ok (b := b) (d1 := d1) (x2 := x2) (x4 := .lst (tups ((rowsI t n).filter (mt h)))) (x5 := y) (x7 := x7) (x8 := x8) (x11 := x11) (x12 := x12) (m := m2) ht t100 hn n100 hl hS hA hB
  have hg3 := WS_get hc3
  obtain ⟨Γ, m3, e3, hq3⟩ := hg3
  have hm3 := hq3.2
  obtain ⟨y7, y8, hΓ⟩ := hq3.1
  rw [e3, ws_nx]
  subst hΓ
  exact ⟨⟨_, _, _, _, _, _, _, _, _, _, _, rfl⟩, hm3⟩
end Lw

end

section
set_option linter.all false
set_option maxRecDepth 100000
namespace Lw
open PySem L2 PySem.W Pv
theorem heard_ok {b : Nat} {Γ : Gam} {t T : Nat} (ht : 0 < t) (ht' : t ≤ 4) (h0 : Γ.getD 0 .non = .box b) (h9 : Γ.getD 9 .non = .int t) (hlen : 9 < Γ.length) : ∀ (ps : List Int) (m : Mu), Bx (T + ps.length) b m →
    WR (lcGo (gN 5) (fun _ m => .ok true m) (cTup (aCons (cVar 5) (aCons (cCall m_law_take (aCons (cVar 0) (aCons (cVar 9) aNil))) aNil))) Γ (ps.map D.int) m) fun ys m' => ∃ h : List (Int × Int), ys = h.map pD ∧ h.map (·.1) = ps ∧ (∀ p ∈ h, 0 ≤ p.2 ∧ p.2 < t) ∧ Bx T b m' ∧ m'.length = m.length := by
  intro ps m hb
  refine wr_lcGo (fun ds acc m' => ∃ (l r : List Int) (h : List (Int × Int)), ps = l ++ r ∧ ds = r.map D.int ∧ acc = h.map pD ∧ h.map (·.1) = l ∧ (∀ p ∈ h, 0 ≤ p.2 ∧ p.2 < t) ∧ Bx (T + r.length) b m' ∧ m'.length = m.length) ?_ _ [] m ⟨[], ps, [], rfl, rfl, rfl, rfl, by simp, hb, rfl⟩ ?_
  · rintro d ds acc m' ⟨l, r, h, hx, hd, ha, hl, hh, hb, hm⟩
    cases r with
    | nil => cases hd
    | cons i r =>
      cases hd
      have e5 : (Γ.set 5 (.int i)).getD 5 .non = .int i := by rw [List.getD_eq_getElem?_getD, List.getElem?_set_self (by omega)]; rfl
      have e0 : (Γ.set 5 (.int i)).getD 0 .non = .box b := by rw [List.getD_eq_getElem?_getD, List.getElem?_set_ne (by omega), ← List.getD_eq_getElem?_getD]; exact h0
      have e9 : (Γ.set 5 (.int i)).getD 9 .non = .int t := by rw [List.getD_eq_getElem?_getD, List.getElem?_set_ne (by omega), ← List.getD_eq_getElem?_getD]; exact h9
      simp only [wo_gn, wr_ok, wr_tup, wr_acons, wr_var, wr_call, wr_anil, e5, e0, e9]
      rw [if_pos trivial]
      refine (take_ok (t := T + r.length) (k := t) (hb.mono (by simp; omega)) (by omega) (by omega)).mono ?_
      rintro z m2 ⟨v, rfl, v0, v1, hb2, hm2⟩
      rw [if_pos (by rfl)]
      refine ⟨l ++ [i], r, h ++ [(i, v)], by rw [hx]; simp, rfl, by rw [ha]; simp [pD], by rw [List.map_append, hl]; rfl, ?_, hb2, by omega⟩
      intro p hp
      rcases List.mem_append.mp hp with q | q
      · exact hh p q
      · rw [List.mem_singleton.mp q]; exact ⟨v0, v1⟩
  · rintro ys m' ⟨l, r, h, hx, hd, ha, hl, hh, hb, hm⟩
    cases r with
    | nil => simp at hx hb ha; subst hx; exact ⟨h, ha, hl, hh, hb, hm⟩
    | cons i r => cases hd
theorem law_right_ok {b : Nat} {m : Mu} (h : Bx 1000 b m) : WR (m_law_right [.box b] m) fun d _ => d = .bl true := by
  rw [right_eq]
  simp only [wr_fnC, ws_seq, ws_for, wr_irg, wr_acons, wr_c, wr_anil, rg1_ok (z := 10) (by omega) (by omega), wo_some, ws_ret, wr_c]
  refine ws_loop (fun ds Γ m' => (∃ x1 x2 x3 x4 x5 x6 x7 x8 x9 xa xb xc : D, Γ = [.box b, x1, x2, x3, x4, x5, x6, x7, x8, x9, xa, xb, xc]) ∧ Bx (20 * ds.length) b m') ?_ ?_ _ _ _ ⟨⟨_, _, _, _, _, _, _, _, _, _, _, _, rfl⟩, by rw [rangeI_length]; exact h.mono (by decide)⟩
  · rintro d ds Γ m' ⟨⟨x1, x2, x3, x4, x5, x6, x7, x8, x9, xa, xb, xc, rfl⟩, hb⟩
    rw [List.length_cons] at hb
    simp only [wo_gn, ws_seq, ws_parN, wr_all_cons, wr_all_nil, wr_c2, wr_c, wr_call, wr_acons, wr_anil, wr_var, List.set_cons_zero, List.set_cons_succ, List.getD_cons_zero, List.getD_cons_succ, setAll_cons, setAll_nil]
    refine (take_ok (t := 20 * ds.length + 19) (k := 4) (hb.mono (by omega)) (by omega) (by omega)).mono ?_
    rintro z m1 ⟨t0, rfl, t1, t2, hb1, hm1⟩
    rw [wo_add]
    refine (take_ok (t := 20 * ds.length + 18) (k := 4) (hb1.mono (by omega)) (by omega) (by omega)).mono ?_
    rintro z m2 ⟨n0, rfl, n1, n2, hb2, hm2⟩
    rw [wo_add]
    obtain ⟨t, et⟩ : ∃ t : Nat, 1 + t0 = t := ⟨(1 + t0).toNat, by omega⟩
    obtain ⟨n, en⟩ : ∃ n : Nat, 1 + n0 = n := ⟨(1 + n0).toNat, by omega⟩
    rw [et, en]
    have ht : 0 < t := by omega
    have ht' : t ≤ 4 := by omega
    have hn : 0 < n := by omega
    have hn' : n ≤ 4 := by omega
    simp only [ws_set, wr_c1, wr_sl, wr_call, wr_acons, wr_anil, wr_var, wr_rgL, List.set_cons_zero, List.set_cons_succ, List.getD_cons_zero, List.getD_cons_succ, rg1_ok (z := n) (by omega) (by omega), wo_some, wr_onone, wr_osome, wr_c2, wr_c, wo_add, Int.toNat_natCast, rangeI_length]
    rw [if_pos (szOk_of (by omega))]
    refine (mixed_ok (t := 20 * ds.length + 8) (n := b) (xs := rangeI 0 n) (hb2.mono (by rw [rangeI_length]; omega)) (by rw [rangeI_length]; omega)).mono ?_
    rintro z m3 ⟨ys, rfl, hperm, hb3, hm3⟩
    refine (take_ok (t := 20 * ds.length + 7) (k := (n : Int) + 1) (hb3.mono (by omega)) (by omega) (by omega)).mono ?_
    rintro z m4 ⟨c, rfl, c1, c2, hb4, hm4⟩
    have hyl : ys.length = n := by rw [hperm.length_eq, rangeI_length]
    rw [wo_asint, wo_sl_l, cutG_upto c1 (by omega)]
    rw [rangeI_rgI] at hperm
    obtain ⟨is, ei, pi⟩ : ∃ is : List Int, ys = is.map D.int ∧ is.Perm (rgI n) := by
      have e : ys = (ys.map fun d => match d with
        | .int i => i
        | _ => 0).map D.int := by
        rw [List.map_map]
        conv => lhs; rw [← List.map_id ys]
        apply List.map_congr_left
        intro d hd
        obtain ⟨i, _, rfl⟩ := List.mem_map.mp (hperm.mem_iff.mp hd)
        rfl
      refine ⟨_, e, ?_⟩
      have := hperm.map (fun d => match d with
        | .int i => i
        | _ => 0)
      simpa [List.map_map, Function.comp_def] using this
    subst ei
    have nd0 : (rgI n).Nodup := by
      unfold rgI
      refine List.pairwise_map.mpr (List.Pairwise.imp (fun hne => ?_) (List.nodup_range (n := n)))
      omega
    have nd : (is.take c.toNat).Nodup := (List.take_sublist _ _).nodup (pi.nodup_iff.mpr nd0)
    rw [← List.map_take]
    obtain ⟨ps, e1, e2, e3, e4⟩ := isort_ints nd
    rw [wo_sort]
    refine ⟨e4, ?_⟩
    rw [e1]
    have hpl : ps.length ≤ n := by rw [e2.length_eq, List.length_take]; rw [List.length_map] at hyl; omega
    have hpm : ∀ i ∈ ps, 0 ≤ i ∧ i < (n : Int) := by
      intro i hi
      have := pi.mem_iff.mp (List.mem_of_mem_take (e2.mem_iff.mp hi))
      unfold rgI at this
      obtain ⟨k, hk, rfl⟩ := List.mem_map.mp this
      have := List.mem_range.mp hk
      omega
    simp only [wr_lc, wr_iseq, wr_var, List.set_cons_zero, List.set_cons_succ, List.getD_cons_zero, List.getD_cons_succ, wo_items_l, List.length_map]
    rw [if_pos (szOk_of (by omega))]
    refine (heard_ok (T := 20 * ds.length) ht ht' rfl rfl (by simp) ps m4 (hb4.mono (by omega))).mono ?_
    rintro ys m5 ⟨h, rfl, hh1, hh2, hb5, hm5⟩
    rw [wo_tuple_l]
    have hl : h.length ≤ n := by rw [← List.length_map (f := (·.1)), hh1]; exact hpl
    have hh : ∀ p ∈ h, 0 ≤ p.1 ∧ p.1 < (n : Int) := fun p hp => hpm p.1 (by rw [← hh1]; exact List.mem_map.mpr ⟨p, hp, rfl⟩)
    have hmem : h ∈ hsAll t 0 n := mem_hsAll t n 0 h (by rw [hh1]; exact e3) fun p hp => ⟨by have := hh p hp; omega, by have := hh p hp; omega, hh2 p hp⟩
    refine WS.mono (rest38_ok (b := b) (m := m5) ht ht' hn hn' hl hh hmem) ?_ (fun _ _ z => z.elim)
    rintro Γ m6 ⟨⟨x2, x3, x4, x5, x6, x7, x8, x9, xa, xb, xc, rfl⟩, rfl⟩
    exact ⟨⟨_, _, _, _, _, _, _, _, _, _, _, _, rfl⟩, hb5⟩
  · rintro Γ m' _
    trivial
theorem by_hand (m : Mu) : m_law_by_hand_right [] m = .ok (.bl true) m := by kernel_rfl
theorem law_true (ns : List Int) (h : ns.length ≤ 63) : ∃ m, m_law [.scr ns] [] = .ok (.bl true) m := by
  have hW : WR (m_law [.scr ns] []) fun d _ => d = .bl true := by
    unfold m_law
    simp [by_hand, wo_tru_b]
    have hc := cells_ok (m := []) (ns := ns) (p := 3) (by omega) (by omega)
    have e3 : ((3 : Nat) : Int) = 3 := rfl
    rw [e3] at hc
    obtain ⟨d, m1, ed, cs, rfl, h0, h1, rfl⟩ := hc.get
    rw [ed]
    simp [rg1_ok (show 0 ≤ (cs.length : Int) by omega) (by omega), rangeI_length]
    refine ⟨szOk_of (by omega), ?_⟩
    refine wr_lcGo (fun es acc m' => ∃ bs : List Bool, ∃ k : Nat, es = rangeI k (cs.length - k) ∧ k ≤ cs.length ∧ acc = bs.map .bl ∧ ∀ b ∈ bs, b = true) ?_ _ [] [] ⟨[], 0, by simp, by omega, rfl, by simp⟩ ?_
    · rintro e es acc m' ⟨bs, k, hd, hk, rfl, hb⟩
      have hk' : cs.length - k = (cs.length - (k + 1)) + 1 := by
        rcases Nat.lt_or_ge k cs.length with z | z
        · omega
        · rw [show cs.length - k = 0 by omega] at hd; cases hd
      rw [hk', rangeI] at hd
      cases hd
      simp
      refine (box_ok (cs := cs) (k := k) (by omega) (by omega)).mono ?_
      rintro d m2 ⟨a, b, rfl, ha, hb', rfl⟩
      refine (law_right_ok ⟨a, b, 0, by simp, ha, hb', by omega, by omega⟩).mono ?_
      rintro d m3 rfl
      refine ⟨bs ++ [true], k + 1, by simp, by omega, by simp, ?_⟩
      have q : ∀ b ∈ bs ++ [true], b = true := by
        intro b hb2
        rcases List.mem_append.mp hb2 with z | z
        · exact hb b z
        · simpa using z
      simpa using q
    · rintro ys m' ⟨bs, k, _, _, hys, hb⟩
      simp at hys
      subst hys
      show WO (allD m' (.lst (bs.map .bl))) _
      show WO (Option.map (fun bs => D.bl (bs.all id)) (blsOf (bs.map .bl))) _
      rw [blsOf_map, Option.map_some, wo_some]
      congr
      rw [List.all_eq_true]
      exact hb
  obtain ⟨d, m, e, rfl⟩ := hW.get
  exact ⟨m, e⟩
end Lw

end

section
set_option Elab.async false
set_option linter.all false
set_option maxRecDepth 100000
set_option maxHeartbeats 4000000
namespace Lw
open PySem L2 PySem.W Pv
def d_told_number : He.DefD := ⟨("told_number", none), "told_number", "told_number", defArgs s_told_number, defBody s_told_number, defScope s_told_number, [], []⟩
def d_how_many_shares : He.DefD := ⟨("how_many_shares", none), "how_many_shares", "how_many_shares", defArgs s_how_many_shares, defBody s_how_many_shares, defScope s_how_many_shares, [], []⟩
def d_learned : He.DefD := ⟨("learned", none), "learned", "learned", defArgs s_learned, defBody s_learned, defScope s_learned, [], []⟩
def d_law_box : He.DefD := ⟨("_law_box", none), "_law_box", "_law_box", defArgs s_law_box, defBody s_law_box, defScope s_law_box, [], []⟩
def d_law_take : He.DefD := ⟨("_law_take", none), "_law_take", "_law_take", defArgs s_law_take, defBody s_law_take, defScope s_law_take, [], []⟩
def d_law_cells : He.DefD := ⟨("_law_cells", none), "_law_cells", "_law_cells", defArgs s_law_cells, defBody s_law_cells, defScope s_law_cells, [], []⟩
def d_law_lists : He.DefD := ⟨("_law_lists", none), "_law_lists", "_law_lists", defArgs s_law_lists, defBody s_law_lists, defScope s_law_lists, [], []⟩
def d_law_same : He.DefD := ⟨("_law_same", none), "_law_same", "_law_same", defArgs s_law_same, defBody s_law_same, defScope s_law_same, [], []⟩
def d_law_mixed : He.DefD := ⟨("_law_mixed", none), "_law_mixed", "_law_mixed", defArgs s_law_mixed, defBody s_law_mixed, defScope s_law_mixed, [], []⟩
def d_law_rows : He.DefD := ⟨("_law_rows", none), "_law_rows", "_law_rows", defArgs s_law_rows, defBody s_law_rows, defScope s_law_rows, [], []⟩
def d_law_by_hand_right : He.DefD := ⟨("_law_by_hand_right", none), "_law_by_hand_right", "_law_by_hand_right", defArgs s_law_by_hand_right, defBody s_law_by_hand_right, defScope s_law_by_hand_right, [], []⟩
def d_law_right : He.DefD := ⟨("_law_right", none), "_law_right", "_law_right", defArgs s_law_right, defBody s_law_right, defScope s_law_right, [], []⟩
def d_law : He.DefD := ⟨("law", none), "law", "law", defArgs s_law, defBody s_law, defScope s_law, [], []⟩
def fn : List He.DefD := [d_told_number, d_how_many_shares, d_learned, d_law_box, d_law_take, d_law_cells, d_law_lists, d_law_same, d_law_mixed, d_law_rows, d_law_by_hand_right, d_law_right, d_law]
def fa : List He.Fa := [.glo "told_number", .glo "how_many_shares", .glo "learned", .glo "_law_box", .glo "_law_take", .glo "_law_cells", .glo "_law_lists", .glo "_law_same", .glo "_law_mixed", .glo "_law_rows", .glo "_law_by_hand_right", .glo "_law_right", .glo "law", .free "len", .free "range", .free "tuple", .free "list", .free "all", .free "any", .free "sum", .free "int", .free "abs", .free "isinstance", .free "sorted", .free "set", .free "zip", .free "enumerate", .free "bool", .free "str", .free "min", .free "max", .free "dict"]
abbrev R0 : PySem.W.OpenRow := PySem.W.OpenLaw.row PySem.Challenge.rw_surelyposted_k38_what_is_learned_of_shar
abbrev hk : PySem.W.Hook := He.hookD 4 fa fn
def ob (s : PySem.W.SharedT) : He.AlD := He.obsDG 4 fa fn (HandSHeadRun.getT s)
theorem ob_eq (s : PySem.W.SharedT) : ob s = hk.obs s.abs := He.obsDG_eq (HandSHeadRun.getT_eq s)
def loose0 : List Str := ["told_number", "how_many_shares", "learned", "_law_box", "_law_take", "_law_cells", "_law_lists", "_law_same", "_law_mixed", "_law_rows", "_law_by_hand_right", "_law_right"]
abbrev loose : List Str := loose0
theorem run (w : World) : HandSHeadRun.RunEq R0 (PySem.W.view R0.prog [14]) hk ob 1000 loose w := by
  intro os
  kernel_rfl
theorem facts {P : Program} {w : World} {K : PySem.W.Frag} {h : Heap} {mg : Str → Option Value} {f : Addr} (X : K.In h) (G : h.Ns mainGlobals mg) (hfa : mg ("law" : Str) = some (.ref f)) (c : He.SaysD fa fn K) :
    ∃ fd : FuncData, (∀ (s : Shared) (v : Value), BindsTo s fd ⟨[v], []⟩ [("_law_script", v)]) ∧ ∀ base : Heap, K.In base → base.Ns mainGlobals mg → FnOk P w K mg base CX0 19 f fd ["_law_script"] (spD K mg false 1 m_law) := by
  have B : Bn mg := ⟨He.free_ok X G (c.fact 13 (f := .free "len") rfl), He.free_ok X G (c.fact 14 (f := .free "range") rfl), He.free_ok X G (c.fact 15 (f := .free "tuple") rfl), He.free_ok X G (c.fact 16 (f := .free "list") rfl), He.free_ok X G (c.fact 17 (f := .free "all") rfl), He.free_ok X G (c.fact 18 (f := .free "any") rfl), He.free_ok X G (c.fact 19 (f := .free "sum") rfl), He.free_ok X G (c.fact 20 (f := .free "int") rfl), He.free_ok X G (c.fact 21 (f := .free "abs") rfl), He.free_ok X G (c.fact 22 (f := .free "isinstance") rfl), He.free_ok X G (c.fact 23 (f := .free "sorted") rfl), He.free_ok X G (c.fact 24 (f := .free "set") rfl), He.free_ok X G (c.fact 25 (f := .free "zip") rfl), He.free_ok X G (c.fact 26 (f := .free "enumerate") rfl), He.free_ok X G (c.fact 27 (f := .free "bool") rfl), He.free_ok X G (c.fact 28 (f := .free "str") rfl), He.free_ok X G (c.fact 29 (f := .free "min") rfl), He.free_ok X G (c.fact 30 (f := .free "max") rfl), He.free_ok X G (c.fact 31 (f := .free "dict") rfl)⟩
  obtain ⟨fd_told_number, F_told_number⟩ : ∃ fd, FnP K "told_number" s_told_number (He.fAd K ("told_number", none)) fd := c.def_ 0 (d := d_told_number) rfl
  have g_told_number : mg "told_number" = some (.ref (He.fAd K ("told_number", none))) := He.glo_ok X G (c.fact 0 (f := .glo "told_number") rfl)
  obtain ⟨fd_how_many_shares, F_how_many_shares⟩ : ∃ fd, FnP K "how_many_shares" s_how_many_shares (He.fAd K ("how_many_shares", none)) fd := c.def_ 1 (d := d_how_many_shares) rfl
  have g_how_many_shares : mg "how_many_shares" = some (.ref (He.fAd K ("how_many_shares", none))) := He.glo_ok X G (c.fact 1 (f := .glo "how_many_shares") rfl)
  obtain ⟨fd_learned, F_learned⟩ : ∃ fd, FnP K "learned" s_learned (He.fAd K ("learned", none)) fd := c.def_ 2 (d := d_learned) rfl
  have g_learned : mg "learned" = some (.ref (He.fAd K ("learned", none))) := He.glo_ok X G (c.fact 2 (f := .glo "learned") rfl)
  obtain ⟨fd_law_box, F_law_box⟩ : ∃ fd, FnP K "_law_box" s_law_box (He.fAd K ("_law_box", none)) fd := c.def_ 3 (d := d_law_box) rfl
  have g_law_box : mg "_law_box" = some (.ref (He.fAd K ("_law_box", none))) := He.glo_ok X G (c.fact 3 (f := .glo "_law_box") rfl)
  obtain ⟨fd_law_take, F_law_take⟩ : ∃ fd, FnP K "_law_take" s_law_take (He.fAd K ("_law_take", none)) fd := c.def_ 4 (d := d_law_take) rfl
  have g_law_take : mg "_law_take" = some (.ref (He.fAd K ("_law_take", none))) := He.glo_ok X G (c.fact 4 (f := .glo "_law_take") rfl)
  obtain ⟨fd_law_cells, F_law_cells⟩ : ∃ fd, FnP K "_law_cells" s_law_cells (He.fAd K ("_law_cells", none)) fd := c.def_ 5 (d := d_law_cells) rfl
  have g_law_cells : mg "_law_cells" = some (.ref (He.fAd K ("_law_cells", none))) := He.glo_ok X G (c.fact 5 (f := .glo "_law_cells") rfl)
  obtain ⟨fd_law_lists, F_law_lists⟩ : ∃ fd, FnP K "_law_lists" s_law_lists (He.fAd K ("_law_lists", none)) fd := c.def_ 6 (d := d_law_lists) rfl
  have g_law_lists : mg "_law_lists" = some (.ref (He.fAd K ("_law_lists", none))) := He.glo_ok X G (c.fact 6 (f := .glo "_law_lists") rfl)
  obtain ⟨fd_law_same, F_law_same⟩ : ∃ fd, FnP K "_law_same" s_law_same (He.fAd K ("_law_same", none)) fd := c.def_ 7 (d := d_law_same) rfl
  have g_law_same : mg "_law_same" = some (.ref (He.fAd K ("_law_same", none))) := He.glo_ok X G (c.fact 7 (f := .glo "_law_same") rfl)
  obtain ⟨fd_law_mixed, F_law_mixed⟩ : ∃ fd, FnP K "_law_mixed" s_law_mixed (He.fAd K ("_law_mixed", none)) fd := c.def_ 8 (d := d_law_mixed) rfl
  have g_law_mixed : mg "_law_mixed" = some (.ref (He.fAd K ("_law_mixed", none))) := He.glo_ok X G (c.fact 8 (f := .glo "_law_mixed") rfl)
  obtain ⟨fd_law_rows, F_law_rows⟩ : ∃ fd, FnP K "_law_rows" s_law_rows (He.fAd K ("_law_rows", none)) fd := c.def_ 9 (d := d_law_rows) rfl
  have g_law_rows : mg "_law_rows" = some (.ref (He.fAd K ("_law_rows", none))) := He.glo_ok X G (c.fact 9 (f := .glo "_law_rows") rfl)
  obtain ⟨fd_law_by_hand_right, F_law_by_hand_right⟩ : ∃ fd, FnP K "_law_by_hand_right" s_law_by_hand_right (He.fAd K ("_law_by_hand_right", none)) fd := c.def_ 10 (d := d_law_by_hand_right) rfl
  have g_law_by_hand_right : mg "_law_by_hand_right" = some (.ref (He.fAd K ("_law_by_hand_right", none))) := He.glo_ok X G (c.fact 10 (f := .glo "_law_by_hand_right") rfl)
  obtain ⟨fd_law_right, F_law_right⟩ : ∃ fd, FnP K "_law_right" s_law_right (He.fAd K ("_law_right", none)) fd := c.def_ 11 (d := d_law_right) rfl
  have g_law_right : mg "_law_right" = some (.ref (He.fAd K ("_law_right", none))) := He.glo_ok X G (c.fact 11 (f := .glo "_law_right") rfl)
  obtain ⟨fd_law, F_law⟩ : ∃ fd, FnP K "law" s_law (He.fAd K ("law", none)) fd := c.def_ 12 (d := d_law) rfl
  have g_law : mg "law" = some (.ref (He.fAd K ("law", none))) := He.glo_ok X G (c.fact 12 (f := .glo "law") rfl)
  have e := hfa.symm.trans g_law
  cases e
  have bl := FunD.bindsA (ps := ["_law_script"]) F_law fun _ _ _ _ _ _ us hl => match us, hl with | [_], _ => rfl
  refine ⟨fd_law, fun s v => bl s [v] rfl, fun base _ _ => ?_⟩
  have C_told_number : Fn P w K mg base CX0 "told_number" 1 ["shares", "modulus"] false m_told_number := fn_of' F_told_number g_told_number (fun _ _ _ _ _ _ us hl => match us, hl with | [_, _], _ => rfl) (fun _ => o_told_number B F_told_number)
  have C_how_many_shares : Fn P w K mg base CX0 "how_many_shares" 2 ["modulus", "many", "heard", "number"] false m_how_many_shares := fn_of' F_how_many_shares g_how_many_shares (fun _ _ _ _ _ _ us hl => match us, hl with | [_, _, _, _], _ => rfl) (fun _ => o_how_many_shares B C_told_number F_how_many_shares)
  have CK_how_many_shares_3_2_1_0 : FnK P w K mg base CX0 "how_many_shares" 2 ["modulus", "many", "heard", "number"] ["number", "heard", "many", "modulus"] [3, 2, 1, 0] false m_how_many_shares := fnK_of F_how_many_shares g_how_many_shares (fun _ _ _ _ _ _ us hl => match us, hl with | [_, _, _, _], _ => rfl) (o_how_many_shares B C_told_number F_how_many_shares)
  have C_learned : Fn P w K mg base CX0 "learned" 2 ["modulus", "many", "heard"] false m_learned := fn_of' F_learned g_learned (fun _ _ _ _ _ _ us hl => match us, hl with | [_, _, _], _ => rfl) (fun _ => o_learned B C_told_number F_learned)
  have CK_learned_2_1_0 : FnK P w K mg base CX0 "learned" 2 ["modulus", "many", "heard"] ["heard", "many", "modulus"] [2, 1, 0] false m_learned := fnK_of F_learned g_learned (fun _ _ _ _ _ _ us hl => match us, hl with | [_, _, _], _ => rfl) (o_learned B C_told_number F_learned)
  have C_law_box : Fn P w K mg base CX0 "_law_box" 1 ["_law_script", "_law_k"] true m_law_box := fn_of' F_law_box g_law_box (fun _ _ _ _ _ _ us hl => match us, hl with | [_, _], _ => rfl) (fun _ => o_law_box B F_law_box)
  have C_law_take : Fn P w K mg base CX0 "_law_take" 1 ["_law_box_here", "_law_below_so"] false m_law_take := fn_of' F_law_take g_law_take (fun _ _ _ _ _ _ us hl => match us, hl with | [_, _], _ => rfl) (fun _ => o_law_take B F_law_take)
  have C_law_cells : Fn P w K mg base CX0 "_law_cells" 1 ["_law_script", "_law_most_so"] true m_law_cells := fn_of' F_law_cells g_law_cells (fun _ _ _ _ _ _ us hl => match us, hl with | [_, _], _ => rfl) (fun _ => o_law_cells B F_law_cells)
  have C_law_lists : Fn P w K mg base CX0 "_law_lists" 17 ["_law_matter"] false (m_law_lists 16) := fn_of' F_law_lists g_law_lists (fun _ _ _ _ _ _ us hl => match us, hl with | [_], _ => rfl) (fun hb => o_law_lists B F_law_lists g_law_lists hb 16)
  have C_law_same : Fn P w K mg base CX0 "_law_same" 17 ["_law_got", "_law_due_so"] false (m_law_same 16) := fn_of' F_law_same g_law_same (fun _ _ _ _ _ _ us hl => match us, hl with | [_, _], _ => rfl) (fun hb => o_law_same B F_law_same g_law_same hb 16)
  have C_law_mixed : Fn P w K mg base CX0 "_law_mixed" 2 ["_law_box_here", "_law_rows_so"] true m_law_mixed := fn_of' F_law_mixed g_law_mixed (fun _ _ _ _ _ _ us hl => match us, hl with | [_, _], _ => rfl) (fun _ => o_law_mixed B C_law_take F_law_mixed)
  have C_law_rows : Fn P w K mg base CX0 "_law_rows" 1 ["_law_top_so", "_law_many_so"] false m_law_rows := fn_of' F_law_rows g_law_rows (fun _ _ _ _ _ _ us hl => match us, hl with | [_, _], _ => rfl) (fun _ => o_law_rows B F_law_rows)
  have C_law_by_hand_right : Fn P w K mg base CX0 "_law_by_hand_right" 18 [] false m_law_by_hand_right := fn_of' F_law_by_hand_right g_law_by_hand_right (fun _ _ _ _ _ _ us hl => match us, hl with | [], _ => rfl) (fun _ => o_law_by_hand_right B C_how_many_shares C_learned C_law_same CK_how_many_shares_3_2_1_0 CK_learned_2_1_0 F_law_by_hand_right)
  have C_law_right : Fn P w K mg base CX0 "_law_right" 18 ["_law_box_here"] false m_law_right := fn_of' F_law_right g_law_right (fun _ _ _ _ _ _ us hl => match us, hl with | [_], _ => rfl) (fun _ => o_law_right B C_law_take C_law_mixed C_law_rows C_how_many_shares C_learned C_law_lists C_law_same F_law_right)
  exact o_law B C_law_by_hand_right C_law_cells C_law_right C_law_box F_law
end Lw
open PySem PySem.W PySem.Calls PyProof.Rows
set_option maxHeartbeats 0 in
theorem PySem.Challenge.cw_surelyposted_k38_what_is_learned_of_shar_holds : PySem.Challenge.rw_surelyposted_k38_what_is_learned_of_shar.Holds := by
  w_on; o_law
  refine HandSHeadRun.head_any (r := OpenLaw.row PySem.Challenge.rw_surelyposted_k38_what_is_learned_of_shar) (q := view (OpenLaw.row PySem.Challenge.rw_surelyposted_k38_what_is_learned_of_shar).prog [14]) (H := Lw.hk) (ob := Lw.ob) (M := 1000) (loose := Lw.loose) (d := HandSHeadRun.topDef (OpenLaw.row PySem.Challenge.rw_surelyposted_k38_what_is_learned_of_shar).prog 14) (kwd := []) Lw.ob_eq
    (by kernel_rfl) (fun s => by kernel_rfl) Lw.run (by kernel_rfl) (by kernel_rfl) (by kernel_rfl) (by rfl) (by first | assumption | decide +kernel) (by decide +kernel) ⟨rfl, rfl, rfl, rfl, rfl, by decide +kernel⟩ ?hw ?hc
  case hw => w_witness2
  case hc =>
    refine L2.walk_ofE (l := PySem.Challenge.rw_surelyposted_k38_what_is_learned_of_shar) (n := 63) (k := 19) (x := "_law_script") (CX := L2.CX0) rfl (by decide) (by kernel_rfl) ⟨rfl, by decide, by decide⟩ ?F (fun _ _ _ _ z => z)
    intro w mg fa h Y G hmg0
    obtain ⟨K, KX, c⟩ := Y
    have hmg : mg ("law" : PySem.Str) = some (.ref fa) := by
      have e : (HandSHeadRun.topDef (OpenLaw.row PySem.Challenge.rw_surelyposted_k38_what_is_learned_of_shar).prog 14).name = ("law" : PySem.Str) := by kernel_rfl
      rw [← e]
      exact hmg0
    obtain ⟨fd, hb, hF⟩ := Lw.facts (P := (PySem.Challenge.rw_surelyposted_k38_what_is_learned_of_shar).prog) (w := w) KX G hmg c
    exact ⟨K, fd, Pv.spD K mg false 1 Lw.m_law, KX, hb, fun H a ns hl _ hS => Pv.law_end hS (Lw.law_true ns hl), hF⟩

end
