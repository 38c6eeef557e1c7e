import PyProof.Rows.All
import Wide.All
import OpenK.AllK
import Wide.FinOn
import HandS.ForMost
import HandS.ForExc
import HandS.HeadHook1
import KE.KExcIs
import KE.DataEq
import KE.DataCmp
import KE.SortData
import HandS.Flow
import HandS.Wide
import HandS.TupAny
import HandS.TupMul
import HandS.Star
import HandS.Conv
import HandS.IsInst
import HandS.Defaults
import HandS.SortInts
import HandS.CallSlots
import HandS.Zip
import HandS.Style
import HandS.SetFor
import HandS.TupSets
import HandS.Strs
import KE.KDictZip
import HandS.ForDict
import HandS.DictComp
import KE.DataMinMax
import KE.SortKeyHeap
import HandS.ExcValue
import KE.GoesMore
import KE.GoesNew
import HandS.ExcOwn
import HandS.ExcIs
import HandS.TryMany
import HandS.HeadHook2
import KE.KDictPairs
import HandS.ExcInit
import HandS.ExcField
import HandS.ExcSuper
import KE.KExcSuper
import KE.KExcInit
import HandS.HeadHook3
import HandS.Walk
import HandS.TupLen
import HandS.DictTup
import KE.DataFind
import PyProof.DictFindH
import PyProof.ListNew
import KE.KDictWalk
import KE.KStateDown
import Lean
import HandS.Base
import HandS.Call
import HandS.Ends
import HandS.More
import HandS.Words
import HandS.WordsExc
import HandS.Head0
import HandS.Head1
import HandS.Head2
import HandS.HeadEnd
import PySem.Challenge.RW_surelyposted_k67_whole_nobody_hears
set_option Elab.async false
set_option linter.all false
set_option maxRecDepth 100000
section
set_option Elab.async false
set_option linter.all false
set_option maxRecDepth 100000
/-! Pv1: pure Python data, what a heap value stands for, and how a piece of code computes a Lean function. -/
namespace Pv
open PySem L2
inductive D where
  | non | bl (b : Bool) | int (i : Int) | str (x : Str) | lst (xs : List D) | tup (xs : List D)
  | dct (t : Bool) (kvs : List (D × D)) | set (xs : List D) | exc (c : String) (fs : List D) | box (n : Nat) | scr (ns : List Int)
  deriving Inhabited
/-- the lists that are held by reference -/
abbrev Mu := List (List D)
/-- how an expression ends -/
inductive R (α : Type) where
  | ok (a : α) (m : Mu) | exc (c : String) (fs : List D) (m : Mu) | bad
@[reducible] def R.bind {α β : Type} (r : R α) (f : α → Mu → R β) : R β := match r with
  | .ok a m => f a m
  | .exc c fs m => .exc c fs m
  | .bad => .bad
abbrev Gam := List D
abbrev EC := Gam → Mu → R D
/-- a slot: not assigned | a value | a list or dict of its own that may be changed -/
inductive Md where
  | un | sh | ow
  deriving DecidableEq
/-- a dict's key: a number or a text; a tuple of these -/
def kD : Key → D
  | .inl i => .int i
  | .inr x => .str x
def tD (ks : List Key) : D := .tup (ks.map kD)
/-- an exception object of the class cls at a, its own dict at dx -/
def ExT (cls : Value) (dx : Option Addr) (a : Addr) : HO := .ext fun h => ∃ (oe : Obj) (vs : Array Value), h.get? a = some oe ∧ Zc cls dx oe ∧ oe.data = .fields vs
/-- the field that an error of the program's own has -/
def fldOf (c : String) : Str := if c = "NoHouse" then "house" else if c = "NoRoute" then "route" else if c = "NoBand" then "band" else if c = "BadLine" then "number" else "line"
abbrev clA (K : PySem.W.Frag) (c : String) : Value := .ref (He.ga K (Str.ofString c))
def isVE (c : String) : Bool := c == "Unfit" || c == "Known" || c == "BadText" || c == "BadLine"
/-- what is known of a class of errors of the program's own -/
def xcB (K : PySem.W.Frag) (c : String) : Bool :=
  (PySem.W.clsIn K (He.ga K (Str.ofString c))).isSome && decide (PySem.W.findIn K (clA K c) "__getattribute__" = some (some (.builtin "BaseException.__getattribute__"))) && decide (PySem.W.findIn K (clA K c) "__getattr__" = some none) && decide (PySem.W.subIn K (clA K c) (.type "BaseException") = some true) &&
  decide (PySem.W.findIn K (clA K c) "__class__" = some (some (.builtin "object.__class__"))) && decide (PySem.W.specialIn K (.builtin "object.__class__") "__get__" = some (some (.builtin "getset_descriptor.__get__"))) && decide (PySem.W.takesIn K (.builtin "object.__class__") = some true) && decide (PySem.W.mroIn K (He.ga K (Str.ofString c)) (.type "object") = some true) &&
  ["int", "bool", "str", "list", "tuple"].all (fun t => decide (PySem.W.kitOne K (clA K c) (.type t) = some false)) && decide (PySem.W.kitOne K (clA K c) (.type "ValueError") = some (isVE c)) && decide (PySem.W.kitOne K (clA K c) (.type "LookupError") = some (!isVE c)) &&
  decide (PySem.W.typeIn K (clA K c) = some (.type "type")) && PySem.W.keepIn K (clA K c)
/-- whether an empty tuple counts as a key -/
def emk : Bool := true
def isKV : V → Bool
  | .int _ => true
  | .str _ => true
  | _ => false
/-- a tuple that may be a key -/
def ktV (vs : List V) : Bool := (emk || !vs.isEmpty) && vs.all isKV
/-- a tuple's letter: plain for one that may be a key; else with its object -/
def tlet (o : Obj) (vs : List V) : HO := if ktV vs = true then .tup vs else .frz o (.tup vs)
def TupL (H : Hp) (a : Addr) (vs : List V) : Prop := ∃ o : Obj, o.dict = none ∧ H a = some (tlet o vs)
mutual
inductive Rep (K : PySem.W.Frag) (ρ : List Addr) (H : Hp) : V → D → Prop
  | non : Rep K ρ H .non .non
  | bl (b : Bool) : Rep K ρ H (.bl b) (.bl b)
  | int (i : Int) : Rep K ρ H (.int i) (.int i)
  | str (x : Str) : Rep K ρ H (.str x) (.str x)
  | lst {a : Addr} {vs : List V} {ds : List D} : H a = some (.lst vs) → RepAll K ρ H vs ds → Rep K ρ H (.ref a) (.lst ds)
  | scr {a : Addr} {ns : List Int} : SqL K H a (ns.map V.int) → Rep K ρ H (.ref a) (.scr ns)
  | tup {a : Addr} {vs : List V} {ds : List D} : TupL H a vs → RepAll K ρ H vs ds → Rep K ρ H (.ref a) (.tup ds)
  | dK {a : Addr} {es : List (Key × V)} {kvs : List (D × D)} : H a = some (.dK es) → kvs.map (·.1) = es.map (fun e => kD e.1) → RepAll K ρ H (es.map (·.2)) (kvs.map (·.2)) → Rep K ρ H (.ref a) (.dct false kvs)
  | dT {a : Addr} {es : List (List Key × V)} {kvs : List (D × D)} : Rd H a (.dT es) → kvs.map (·.1) = es.map (fun e => tD e.1) → RepAll K ρ H (es.map (·.2)) (kvs.map (·.2)) → Rep K ρ H (.ref a) (.dct true kvs)
  | box {a : Addr} {n : Nat} : ρ[n]? = some a → Rep K ρ H (.ref a) (.box n)
  | exc0 {a : Addr} {c : String} : xcB K c = true → H a = some (ExT (clA K c) none a) → Rep K ρ H (.ref a) (.exc c [])
  | exc1 {a d : Addr} {c : String} {v : V} {f : D} : xcB K c = true → H a = some (ExT (clA K c) (some d) a) → H d = some (.xd [(fldOf c, v)]) → Rep K ρ H v f → Rep K ρ H (.ref a) (.exc c [f])
inductive RepAll (K : PySem.W.Frag) (ρ : List Addr) (H : Hp) : List V → List D → Prop
  | nil : RepAll K ρ H [] []
  | cons {v : V} {vs : List V} {d : D} {ds : List D} : Rep K ρ H v d → RepAll K ρ H vs ds → RepAll K ρ H (v :: vs) (d :: ds)
end
def Sub (H H' : Hp) : Prop := ∀ a o, H a = some o → H' a = some o
theorem Sub.refl (H : Hp) : Sub H H := fun _ _ h => h
theorem Sub.trans {H H1 H2 : Hp} (a : Sub H H1) (b : Sub H1 H2) : Sub H H2 := fun x o h => b x o (a x o h)
theorem Sub.rd {H H' : Hp} {a : Addr} {u : HO} (e : Sub H H') (h : Rd H a u) : Rd H' a u := by
  rcases h with h | ⟨o, h⟩
  · exact .inl (e a _ h)
  · exact .inr ⟨o, e a _ h⟩
theorem Sub.l {K : PySem.W.Frag} {H H' : Hp} {a : Addr} {xs : List V} (e : Sub H H') (h : SqL K H a xs) : SqL K H' a xs := by
  rcases h with h | h
  · exact .inl (e.rd h)
  · exact .inr h
theorem Sub.t {K : PySem.W.Frag} {H H' : Hp} {a : Addr} {xs : List V} (e : Sub H H') (h : SqT K H a xs) : SqT K H' a xs := by
  rcases h with h | h
  · exact .inl (e.rd h)
  · exact .inr h
theorem Sub.new {H : Hp} {p : Addr} {o : HO} (h : H p = none) : Sub H (upd H p o) := fun a u e => by
  rw [upd_ne (ne_of_none e h)]
  exact e
theorem Sub.free {H H' : Hp} (e : Sub H H') {l : Addr} (h : H' l = none) : H l = none := by
  cases q : H l with
  | none => rfl
  | some o => rw [e l o q] at h; cases h
theorem TupL.sub {H H' : Hp} {a : Addr} {xs : List V} (h : TupL H a xs) (e : Sub H H') : TupL H' a xs := let ⟨o, d, q⟩ := h; ⟨o, d, e _ _ q⟩
theorem TupL.rd {H : Hp} {a : Addr} {xs : List V} (h : TupL H a xs) : Rd H a (.tup xs) := by
  obtain ⟨o, _, q⟩ := h
  unfold tlet at q
  split at q
  · exact .inl q
  · exact .inr ⟨o, q⟩
theorem TupL.key {H : Hp} {a : Addr} {xs : List V} (h : TupL H a xs) (k : ktV xs = true) : H a = some (.tup xs) := by
  obtain ⟨o, _, q⟩ := h
  unfold tlet at q
  rwa [if_pos k] at q
theorem TupL.frz {H : Hp} {a : Addr} {xs : List V} (h : TupL H a xs) (k : ktV xs = false) : ∃ o : Obj, o.dict = none ∧ H a = some (.frz o (.tup xs)) := by
  obtain ⟨o, d, q⟩ := h
  unfold tlet at q
  rw [if_neg (by rw [k]; decide)] at q
  exact ⟨o, d, q⟩
theorem sqt {K : PySem.W.Frag} {H : Hp} {a : Addr} {xs : List V} (h : TupL H a xs) : SqT K H a xs := .inl h.rd
/-- one list begins with the other -/
def Pre (ρ ρ' : List Addr) : Prop := ∀ (n : Nat) (a : Addr), ρ[n]? = some a → ρ'[n]? = some a
theorem Pre.refl (ρ : List Addr) : Pre ρ ρ := fun _ _ h => h
theorem Pre.trans {a b c : List Addr} (x : Pre a b) (y : Pre b c) : Pre a c := fun n q h => y n q (x n q h)
section
variable {K : PySem.W.Frag} {ρ ρ' : List Addr} {H H' : Hp}
mutual
theorem Rep.mono (p : Pre ρ ρ') (e : Sub H H') : ∀ {v : V} {d : D}, Rep K ρ H v d → Rep K ρ' H' v d
  | _, _, .non => .non
  | _, _, .bl b => .bl b
  | _, _, .int i => .int i
  | _, _, .str x => .str x
  | _, _, .lst h r => .lst (e _ _ h) (RepAll.mono p e r)
  | _, _, .scr h => .scr (e.l h)
  | _, _, .tup h r => .tup (h.sub e) (RepAll.mono p e r)
  | _, _, .dK h k r => .dK (e _ _ h) k (RepAll.mono p e r)
  | _, _, .dT h k r => .dT (e.rd h) k (RepAll.mono p e r)
  | _, _, .box h => .box (p _ _ h)
  | _, _, .exc0 c h => .exc0 c (e _ _ h)
  | _, _, .exc1 c h k r => .exc1 c (e _ _ h) (e _ _ k) (Rep.mono p e r)
theorem RepAll.mono (p : Pre ρ ρ') (e : Sub H H') : ∀ {vs : List V} {ds : List D}, RepAll K ρ H vs ds → RepAll K ρ' H' vs ds
  | _, _, .nil => .nil
  | _, _, .cons h r => .cons (Rep.mono p e h) (RepAll.mono p e r)
end
theorem RepAll.length : ∀ {vs : List V} {ds : List D}, RepAll K ρ H vs ds → vs.length = ds.length
  | _, _, .nil => rfl
  | _, _, .cons _ r => by simp [RepAll.length r]
theorem RepAll.append : ∀ {vs ws : List V} {ds es : List D}, RepAll K ρ H vs ds → RepAll K ρ H ws es → RepAll K ρ H (vs ++ ws) (ds ++ es)
  | _, _, _, _, .nil, h => h
  | _, _, _, _, .cons a r, h => .cons a (r.append h)
theorem RepAll.get : ∀ {vs : List V} {ds : List D} {i : Nat} {v : V}, RepAll K ρ H vs ds → vs[i]? = some v → ∃ d, ds[i]? = some d ∧ Rep K ρ H v d
  | _, _, _, _, .nil, h => by simp at h
  | _, _, 0, _, .cons a _, h => by simp at h; subst h; exact ⟨_, rfl, a⟩
  | _, _, i + 1, _, .cons _ r, h => by
    obtain ⟨d, h1, h2⟩ := RepAll.get (i := i) r (by simpa using h)
    exact ⟨d, by simpa using h1, h2⟩
theorem RepAll.get' : ∀ {vs : List V} {ds : List D} {i : Nat} {d : D}, RepAll K ρ H vs ds → ds[i]? = some d → ∃ v, vs[i]? = some v ∧ Rep K ρ H v d
  | _, _, _, _, .nil, h => by simp at h
  | _, _, 0, _, .cons a _, h => by simp at h; subst h; exact ⟨_, rfl, a⟩
  | _, _, i + 1, _, .cons _ r, h => by
    obtain ⟨d, h1, h2⟩ := RepAll.get' (i := i) r (by simpa using h)
    exact ⟨d, by simpa using h1, h2⟩
theorem RepAll.take : ∀ {vs : List V} {ds : List D} (n : Nat), RepAll K ρ H vs ds → RepAll K ρ H (vs.take n) (ds.take n)
  | _, _, 0, _ => .nil
  | _, _, _ + 1, .nil => .nil
  | _, _, n + 1, .cons a r => .cons a (RepAll.take n r)
theorem RepAll.drop : ∀ {vs : List V} {ds : List D} (n : Nat), RepAll K ρ H vs ds → RepAll K ρ H (vs.drop n) (ds.drop n)
  | _, _, 0, r => r
  | _, _, _ + 1, .nil => .nil
  | _, _, n + 1, .cons _ r => RepAll.drop n r
theorem RepAll.set {v : V} {d : D} (h : Rep K ρ H v d) : ∀ {vs : List V} {ds : List D} (i : Nat), RepAll K ρ H vs ds → RepAll K ρ H (vs.set i v) (ds.set i d)
  | _, _, _, .nil => .nil
  | _, _, 0, .cons _ r => .cons h r
  | _, _, i + 1, .cons a r => .cons a (RepAll.set h i r)
theorem RepAll.one {v : V} {d : D} (h : Rep K ρ H v d) : RepAll K ρ H [v] [d] := .cons h .nil
theorem RepAll.ints : ∀ ns : List Int, RepAll K ρ H (ns.map V.int) (ns.map D.int)
  | [] => .nil
  | n :: ns => .cons (.int n) (RepAll.ints ns)
end
/-- the boxes stand as m says; Hs: the part of the heap that never changes -/
structure Bs (K : PySem.W.Frag) (ρ : List Addr) (m : Mu) (Hs H : Hp) : Prop where
  sub : Sub Hs H
  bx : ∀ (n : Nat) (ds : List D), m[n]? = some ds → ∃ a vs, ρ[n]? = some a ∧ Hs a = none ∧ H a = some (.lst vs) ∧ RepAll K ρ Hs vs ds
  nd : ∀ (i j : Nat) (a : Addr), ρ[i]? = some a → ρ[j]? = some a → i = j
  len : ρ.length = m.length
/-- an address that may come to be known: new, or a tuple's -/
def Nw (ρ : List Addr) (H : Hp) (a : Addr) : Prop := H a = none ∨ (a ∉ ρ ∧ ∃ xs : List V, H a = some (.tup xs))
instance {ρ : List Addr} {H : Hp} {a : Addr} : Coe (H a = none) (Nw ρ H a) := ⟨.inl⟩
/-- from one state to a later one -/
structure Tr (ρ : List Addr) (Hs H : Hp) (ρ' : List Addr) (Hs' H' : Hp) : Prop where
  sub : Sub Hs Hs'
  new : ∀ a o, Hs' a = some o → Hs a = some o ∨ Nw ρ H a
  pre : Pre ρ ρ'
  bnew : ∀ a, a ∈ ρ' → a ∈ ρ ∨ H a = none
  dom : ∀ a, H' a = none → H a = none
  same : ∀ a o, a ∉ ρ → H a = some o → H' a = some o
theorem Tr.refl (ρ : List Addr) (Hs H : Hp) : Tr ρ Hs H ρ Hs H := ⟨.refl _, fun _ _ h => .inl h, .refl _, fun _ h => .inl h, fun _ h => h, fun _ _ _ h => h⟩
theorem Tr.trans {ρ ρ1 ρ2 : List Addr} {Hs H Hs1 H1 Hs2 H2 : Hp} (a : Tr ρ Hs H ρ1 Hs1 H1) (b : Tr ρ1 Hs1 H1 ρ2 Hs2 H2) : Tr ρ Hs H ρ2 Hs2 H2 where
  sub := a.sub.trans b.sub
  new x o h := by
    rcases b.new x o h with q | q
    · exact a.new x o q
    · rcases q with q | ⟨n1, xs, q⟩
      · exact .inr (.inl (a.dom x q))
      · have n0 : x ∉ ρ := fun z => by
          obtain ⟨i, hi⟩ := List.mem_iff_getElem?.mp z
          exact n1 (List.mem_of_getElem? (a.pre i x hi))
        cases hx : H x with
        | none => exact .inr (.inl hx)
        | some o' =>
          have := a.same x o' n0 hx
          rw [q] at this
          cases this
          exact .inr (.inr ⟨n0, xs, hx⟩)
  pre := a.pre.trans b.pre
  bnew x h := by
    rcases b.bnew x h with q | q
    · exact a.bnew x q
    · exact .inr (a.dom x q)
  dom x h := a.dom x (b.dom x h)
  same x o n h := by
    refine b.same x o (fun q => ?_) (a.same x o n h)
    rcases a.bnew x q with z | z
    · exact n z
    · rw [h] at z; cases z
/-- a list or dict of its own -/
inductive Own (K : PySem.W.Frag) (ρ : List Addr) (Hs H : Hp) (a : Addr) : D → Prop
  | lst {vs : List V} {ds : List D} : H a = some (.lst vs) → RepAll K ρ Hs vs ds → Own K ρ Hs H a (.lst ds)
  | dK {es : List (Key × V)} {kvs : List (D × D)} : H a = some (.dK es) → kvs.map (·.1) = es.map (fun e => kD e.1) → RepAll K ρ Hs (es.map (·.2)) (kvs.map (·.2)) → Own K ρ Hs H a (.dct false kvs)
  | dT {es : List (List Key × V)} {kvs : List (D × D)} : H a = some (.dT es) → kvs.map (·.1) = es.map (fun e => tD e.1) → RepAll K ρ Hs (es.map (·.2)) (kvs.map (·.2)) → Own K ρ Hs H a (.dct true kvs)
theorem Own.nw {K : PySem.W.Frag} {ρ : List Addr} {Hs H : Hp} {a : Addr} {d : D} (h : Own K ρ Hs H a d) (z : Nw ρ H a) : False := by
  rcases z with z | ⟨_, xs, z⟩ <;> cases h with
  | lst q _ => rw [z] at q; cases q
  | dK q _ _ => rw [z] at q; cases q
  | dT q _ _ => rw [z] at q; cases q
/-- what the slots hold; H0: the heap at the def's entry -/
structure En (K : PySem.W.Frag) (H0 : Hp) (ω : List Md) (Γ : Gam) (ρ : List Addr) (Hs H : Hp) (σ : St) : Prop where
  ln : Γ.length = σ.length
  wl : ω.length = σ.length
  sh : ∀ i, ω[i]? = some .sh → ∃ v, σ[i]? = some (some v) ∧ Rep K ρ Hs v (Γ.getD i .non)
  ow : ∀ i, ω[i]? = some .ow → ∃ a, σ[i]? = some (some (.ref a)) ∧ Own K ρ Hs H a (Γ.getD i .non) ∧ Hs a = none ∧ a ∉ ρ ∧ H0 a = none ∧ H a ≠ none
  nd : ∀ (i j : Nat) a, ω[i]? = some .ow → ω[j]? = some .ow → σ[i]? = some (some (.ref a)) → σ[j]? = some (some (.ref a)) → i = j
section
variable {K : PySem.W.Frag} {H0 : Hp} {ω : List Md} {Γ : Gam} {ρ ρ' : List Addr} {Hs H Hs' H' : Hp} {σ : St}
theorem Own.mono {a : Addr} {d : D} (t : Tr ρ Hs H ρ' Hs' H') (hr : a ∉ ρ) (h : Own K ρ Hs H a d) : Own K ρ' Hs' H' a d := by
  cases h with
  | lst h r => exact .lst (t.same _ _ hr h) (r.mono t.pre t.sub)
  | dK h k r => exact .dK (t.same _ _ hr h) k (r.mono t.pre t.sub)
  | dT h k r => exact .dT (t.same _ _ hr h) k (r.mono t.pre t.sub)
theorem En.mono (t : Tr ρ Hs H ρ' Hs' H') (e : En K H0 ω Γ ρ Hs H σ) : En K H0 ω Γ ρ' Hs' H' σ where
  ln := e.ln
  wl := e.wl
  sh i h := by
    obtain ⟨v, h1, h2⟩ := e.sh i h
    exact ⟨v, h1, h2.mono t.pre t.sub⟩
  ow i h := by
    obtain ⟨a, h1, h2, h3, h4, h5, h6⟩ := e.ow i h
    refine ⟨a, h1, h2.mono t h4, ?_, ?_, h5, fun z => h6 (t.dom a z)⟩
    · cases q : Hs' a with
      | none => rfl
      | some o =>
        rcases t.new a o q with z | z
        · rw [h3] at z; cases z
        · exact (h2.nw z).elim
    · intro q
      rcases t.bnew a q with z | z
      · exact h4 z
      · exact h6 z
  nd := e.nd
end
/-- an error of the program's own: its class, its fields -/
def EOk (K : PySem.W.Frag) (mg : Str → Option Value) (ρ : List Addr) (Hs : Hp) (cls : Value) (dx : Option Addr) (c : String) (fs : List D) : Prop :=
  cls = clA K c ∧ xcB K c = true ∧ ((fs = [] ∧ dx = none) ∨ ∃ d v f, fs = [f] ∧ dx = some d ∧ Hs d = some (.xd [(fldOf c, v)]) ∧ Rep K ρ Hs v f)
/-- what is wanted behind an expression that ends as r -/
def Out {α β : Type} (K : PySem.W.Frag) (mg : Str → Option Value) (Rp : List Addr → Hp → β → α → Prop) (W : Value → Option Addr → Hp → Prop) (r : R α) (ρ : List Addr) (Hs H : Hp) (Q : β → Hp → Prop) : Prop := match r with
  | .ok a m => ∀ v ρ' Hs' H', Tr ρ Hs H ρ' Hs' H' → Bs K ρ' m Hs' H' → Rp ρ' Hs' v a → Q v H'
  | .exc c fs m => ∀ cls dx ρ' Hs' H', Tr ρ Hs H ρ' Hs' H' → Bs K ρ' m Hs' H' → EOk K mg ρ' Hs' cls dx c fs → W cls dx H'
  | .bad => False
section
variable {α β γ δ : Type} {K : PySem.W.Frag} {mg : Str → Option Value} {Rp : List Addr → Hp → β → α → Prop} {Rq : List Addr → Hp → δ → γ → Prop} {W : Value → Option Addr → Hp → Prop} {ρ ρ1 : List Addr} {Hs H Hs1 H1 : Hp}
theorem Out.tr {r : R α} {Q : β → Hp → Prop} (t : Tr ρ Hs H ρ1 Hs1 H1) (h : Out K mg Rp W r ρ Hs H Q) : Out K mg Rp W r ρ1 Hs1 H1 Q := by
  cases r with
  | ok a m => exact fun v ρ' Hs' H' t' b rp => h v ρ' Hs' H' (t.trans t') b rp
  | exc c fs m => exact fun cls dx ρ' Hs' H' t' b e => h cls dx ρ' Hs' H' (t.trans t') b e
  | bad => exact h
theorem Out.mono {r : R α} {Q Q' : β → Hp → Prop} (h : Out K mg Rp W r ρ Hs H Q) (q : ∀ v H', Q v H' → Q' v H') : Out K mg Rp W r ρ Hs H Q' := by
  cases r with
  | ok a m => exact fun v ρ' Hs' H' t' b rp => q _ _ (h v ρ' Hs' H' t' b rp)
  | exc c fs m => exact h
  | bad => exact h
/-- the state behind a first part, what is wanted of the second -/
def Aft (K : PySem.W.Frag) (Rp : List Addr → Hp → β → α → Prop) (ρ : List Addr) (Hs H : Hp) (G : α → Mu → List Addr → Hp → Hp → Prop) : β → Hp → Prop := fun v H1 =>
  ∃ a m ρ1 Hs1, Tr ρ Hs H ρ1 Hs1 H1 ∧ Bs K ρ1 m Hs1 H1 ∧ Rp ρ1 Hs1 v a ∧ G a m ρ1 Hs1 H1
theorem Out.bind {r : R α} {f : α → Mu → R γ} {Q : δ → Hp → Prop} (h : Out K mg Rq W (r.bind f) ρ Hs H Q) :
    Out K mg Rp W r ρ Hs H (Aft K Rp ρ Hs H fun a m ρ1 Hs1 H1 => Out K mg Rq W (f a m) ρ1 Hs1 H1 Q) := by
  cases r with
  | ok a m => exact fun v ρ' Hs' H' t b rp => ⟨a, m, ρ', Hs', t, b, rp, Out.tr t h⟩
  | exc c fs m => exact h
  | bad => exact h
end
/-- the reading of an expression that computes c -/
def cE (X : Cx) (H0 : Hp) (W : WX) (ω : List Md) (c : EC) : TE := fun σ H Q => ∃ Γ m ρ Hs, Bs X.K ρ m Hs H ∧ En X.K H0 ω Γ ρ Hs H σ ∧ Out X.K X.mg (Rep X.K) (fun cls dx H' => W cls dx σ H') (c Γ m) ρ Hs H Q
abbrev EV (X : Cx) (H0 : Hp) (W : WX) (ω : List Md) (e : Expr) (c : EC) : Prop := PE X e (cE X H0 W ω c)
/-- arguments -/
def cA (X : Cx) (H0 : Hp) (W : WX) (ω : List Md) (c : Gam → Mu → R (List D)) : TA := fun σ H Q => ∃ Γ m ρ Hs, Bs X.K ρ m Hs H ∧ En X.K H0 ω Γ ρ Hs H σ ∧ Out X.K X.mg (RepAll X.K) (fun cls dx H' => W cls dx σ H') (c Γ m) ρ Hs H Q
abbrev AV (X : Cx) (H0 : Hp) (W : WX) (ω : List Md) (es : List Expr) (c : Gam → Mu → R (List D)) : Prop := PA X es (cA X H0 W ω c)
/-- tests -/
def cT (X : Cx) (H0 : Hp) (W : WX) (ω : List Md) (c : Gam → Mu → R Bool) : TT := fun σ H Q => ∃ Γ m ρ Hs, Bs X.K ρ m Hs H ∧ En X.K H0 ω Γ ρ Hs H σ ∧ Out X.K X.mg (fun _ _ b a => b = a) (fun cls dx H' => W cls dx σ H') (c Γ m) ρ Hs H Q
abbrev TV (X : Cx) (H0 : Hp) (W : WX) (ω : List Md) (e : Expr) (c : Gam → Mu → R Bool) : Prop := PT X e (cT X H0 W ω c)
theorem PE.imp {X : Cx} {e : Expr} {t t' : TE} (h : PE X e t) (q : ∀ σ H Q, t' σ H Q → t σ H Q) : PE X e t' := ⟨fun pins s σ H Q I z => h.run pins s σ H Q I (q _ _ _ z)⟩
theorem PT.imp {X : Cx} {e : Expr} {t t' : TT} (h : PT X e t) (q : ∀ σ H Q, t' σ H Q → t σ H Q) : PT X e t' := ⟨fun pins s σ H Q I z => h.run pins s σ H Q I (q _ _ _ z)⟩
theorem PA.imp {X : Cx} {e : List Expr} {t t' : TA} (h : PA X e t) (q : ∀ σ H Q, t' σ H Q → t σ H Q) : PA X e t' := ⟨fun pos pins s σ H Q I z => h.run pos pins s σ H Q I (q _ _ _ z)⟩
theorem PS.imp {X : Cx} {e : Stmt} {t t' : TS} (h : PS X e t) (q : ∀ D σ H, t' D σ H → t D σ H) : PS X e t' := ⟨fun pins s σ H D I z => h.run pins s σ H D I (q _ _ _ z)⟩
theorem PSs.imp {X : Cx} {e : List Stmt} {t t' : TS} (h : PSs X e t) (q : ∀ D σ H, t' D σ H → t D σ H) : PSs X e t' := ⟨fun pins s σ H D I z => h.run pins s σ H D I (q _ _ _ z)⟩
end Pv
end
section
set_option Elab.async false
set_option linter.all false
set_option maxRecDepth 100000
/-! Pv2: Python's == and < of data, and the library's rules for them. -/
namespace Pv
open PySem L2 PySem.W PyProof.Rows
def szOk (n : Nat) : Bool := Nat.ble n 16777216
theorem szOk_le {n : Nat} (h : szOk n = true) : n ≤ sizeLine := by rw [sizeLine_eq]; exact Nat.le_of_ble_eq_true h
mutual
/-- plain data of depth at most n -/
def D.pl : Nat → D → Bool
  | _, .non | _, .bl _ | _, .int _ | _, .str _ => true
  | n + 1, .lst xs => plAll n xs
  | n + 1, .tup xs => plAll n xs
  | _, _ => false
def plAll : Nat → List D → Bool
  | _, [] => true
  | n, x :: xs => x.pl n && plAll n xs
end
mutual
def D.toPy : D → PyData
  | .non => .none
  | .bl b => .bool b
  | .int i => .int i
  | .str x => .str x
  | .lst xs => .list (toPyAll xs)
  | .tup xs => .tuple (toPyAll xs)
  | _ => .none
def toPyAll : List D → List PyData
  | [] => []
  | x :: xs => x.toPy :: toPyAll xs
end
mutual
/-- Python's == of plain data -/
def D.eqv : D → D → Bool
  | .non, .non => true
  | .bl a, .bl b => a == b
  | .bl a, .int j => (if a then 1 else 0) == j
  | .int i, .bl b => i == (if b then 1 else 0)
  | .int i, .int j => i == j
  | .str x, .str y => x == y
  | .lst xs, .lst ys => eqvAll xs ys
  | .tup xs, .tup ys => eqvAll xs ys
  | _, _ => false
def eqvAll : List D → List D → Bool
  | [], [] => true
  | x :: xs, y :: ys => x.eqv y && eqvAll xs ys
  | _, _ => false
end
mutual
/-- they can be compared by < -/
def D.alk : D → D → Bool
  | .non, .non => true
  | .bl _, .bl _ => true
  | .int _, .int _ => true
  | .str _, .str _ => true
  | .lst xs, .lst ys => alkAll xs ys
  | .tup xs, .tup ys => alkAll xs ys
  | _, _ => false
def alkAll : List D → List D → Bool
  | x :: xs, y :: ys => x.alk y && alkAll xs ys
  | _, _ => true
end
mutual
def D.lt : D → D → Bool
  | .bl a, .bl b => !a && b
  | .int i, .int j => decide (i < j)
  | .str x, .str y => decide (x.cps.toList < y.cps.toList)
  | .lst xs, .lst ys => ltAll xs ys
  | .tup xs, .tup ys => ltAll xs ys
  | _, _ => false
def ltAll : List D → List D → Bool
  | [], _ :: _ => true
  | x :: xs, y :: ys => if x.eqv y then ltAll xs ys else x.lt y
  | _, _ => false
end
theorem plAll_mem {n : Nat} : ∀ {xs : List D}, plAll n xs = true → ∀ x ∈ xs, x.pl n = true
  | [], _, _, h => by cases h
  | y :: ys, h, x, hx => by
    simp only [plAll, Bool.and_eq_true] at h
    rcases List.mem_cons.mp hx with e | e
    · subst e; exact h.1
    · exact plAll_mem h.2 x e
theorem plAll_of {n : Nat} : ∀ {xs : List D}, (∀ x ∈ xs, x.pl n = true) → plAll n xs = true
  | [], _ => by simp [plAll]
  | y :: ys, h => by
    simp only [plAll, Bool.and_eq_true]
    exact ⟨h y (List.mem_cons_self ..), plAll_of fun x hx => h x (List.mem_cons_of_mem _ hx)⟩
mutual
theorem plain_of {n : Nat} : ∀ {d : D}, d.pl n = true → d.toPy.plain = true
  | .non, _ => by simp [D.toPy, PyData.plain]
  | .bl _, _ => by simp [D.toPy, PyData.plain]
  | .int _, _ => by simp [D.toPy, PyData.plain]
  | .str _, _ => by simp [D.toPy, PyData.plain]
  | .lst xs, h => by
    cases n with
    | zero => simp [D.pl] at h
    | succ n => simp only [D.pl] at h; simp only [D.toPy, PyData.plain]; exact plainAll_of h
  | .tup xs, h => by
    cases n with
    | zero => simp [D.pl] at h
    | succ n => simp only [D.pl] at h; simp only [D.toPy, PyData.plain]; exact plainAll_of h
  | .dct _ _, h => by cases n <;> simp [D.pl] at h
  | .set _, h => by cases n <;> simp [D.pl] at h
  | .exc _ _, h => by cases n <;> simp [D.pl] at h
  | .box _, h => by cases n <;> simp [D.pl] at h
  | .scr _, h => by cases n <;> simp [D.pl] at h
theorem plainAll_of {n : Nat} : ∀ {xs : List D}, plAll n xs = true → PyData.plainAll (toPyAll xs) = true
  | [], _ => by simp [toPyAll, PyData.plainAll]
  | x :: xs, h => by
    simp only [plAll, Bool.and_eq_true] at h
    simp only [toPyAll, PyData.plainAll, Bool.and_eq_true]
    exact ⟨plain_of h.1, plainAll_of h.2⟩
end
mutual
theorem depth_of : ∀ {n : Nat} {d : D}, d.pl n = true → d.toPy.depth ≤ n
  | _, .non, _ => by simp [D.toPy, PyData.depth]
  | _, .bl _, _ => by simp [D.toPy, PyData.depth]
  | _, .int _, _ => by simp [D.toPy, PyData.depth]
  | _, .str _, _ => by simp [D.toPy, PyData.depth]
  | 0, .lst xs, h => by simp [D.pl] at h
  | n + 1, .lst xs, h => by
    simp only [D.pl] at h; simp only [D.toPy, PyData.depth]
    have := depthAll_of h; omega
  | 0, .tup xs, h => by simp [D.pl] at h
  | n + 1, .tup xs, h => by
    simp only [D.pl] at h; simp only [D.toPy, PyData.depth]
    have := depthAll_of h; omega
  | n, .dct _ _, h => by cases n <;> simp [D.pl] at h
  | n, .set _, h => by cases n <;> simp [D.pl] at h
  | n, .exc _ _, h => by cases n <;> simp [D.pl] at h
  | n, .box _, h => by cases n <;> simp [D.pl] at h
  | n, .scr _, h => by cases n <;> simp [D.pl] at h
theorem depthAll_of : ∀ {n : Nat} {xs : List D}, plAll n xs = true → PyData.depthAll (toPyAll xs) ≤ n
  | _, [], _ => by simp [toPyAll, PyData.depthAll]
  | n, x :: xs, h => by
    simp only [plAll, Bool.and_eq_true] at h
    simp only [toPyAll, PyData.depthAll]
    have a := depth_of h.1
    have b := depthAll_of h.2
    omega
end
mutual
theorem eqv_py {n m : Nat} : ∀ {d e : D}, d.pl n = true → e.pl m = true → PyData.eqv d.toPy e.toPy = d.eqv e
  | .lst xs, .lst ys, hd, he => by
    cases n with
    | zero => simp [D.pl] at hd
    | succ n => cases m with
      | zero => simp [D.pl] at he
      | succ m =>
        simp only [D.pl] at hd he
        simp only [D.toPy, PyData.eqv, D.eqv]
        exact eqvAll_py hd he
  | .tup xs, .tup ys, hd, he => by
    cases n with
    | zero => simp [D.pl] at hd
    | succ n => cases m with
      | zero => simp [D.pl] at he
      | succ m =>
        simp only [D.pl] at hd he
        simp only [D.toPy, PyData.eqv, D.eqv]
        exact eqvAll_py hd he
  | .non, e, hd, he => by cases e <;> first | (exfalso; cases m <;> simp [D.pl] at he; done) | simp [D.toPy, PyData.eqv, D.eqv]
  | .bl _, e, hd, he => by cases e <;> first | simp [D.toPy, PyData.eqv, D.eqv] | (cases m <;> simp [D.pl] at he)
  | .int _, e, hd, he => by cases e <;> first | simp [D.toPy, PyData.eqv, D.eqv] | (cases m <;> simp [D.pl] at he)
  | .str _, e, hd, he => by cases e <;> first | simp [D.toPy, PyData.eqv, D.eqv] | (cases m <;> simp [D.pl] at he)
  | .lst _, .non, hd, he | .lst _, .bl _, hd, he | .lst _, .int _, hd, he | .lst _, .str _, hd, he | .lst _, .tup _, hd, he => by simp [D.toPy, PyData.eqv, D.eqv]
  | .tup _, .non, hd, he | .tup _, .bl _, hd, he | .tup _, .int _, hd, he | .tup _, .str _, hd, he | .tup _, .lst _, hd, he => by simp [D.toPy, PyData.eqv, D.eqv]
  | .lst _, .dct _ _, hd, he | .lst _, .set _, hd, he | .lst _, .exc _ _, hd, he | .lst _, .box _, hd, he | .lst _, .scr _, hd, he => by cases m <;> simp [D.pl] at he
  | .tup _, .dct _ _, hd, he | .tup _, .set _, hd, he | .tup _, .exc _ _, hd, he | .tup _, .box _, hd, he | .tup _, .scr _, hd, he => by cases m <;> simp [D.pl] at he
  | .dct _ _, _, hd, _ | .set _, _, hd, _ | .exc _ _, _, hd, _ | .box _, _, hd, _ | .scr _, _, hd, _ => by cases n <;> simp [D.pl] at hd
theorem eqvAll_py {n m : Nat} : ∀ {xs ys : List D}, plAll n xs = true → plAll m ys = true → PyData.eqvAll (toPyAll xs) (toPyAll ys) = eqvAll xs ys
  | [], [], _, _ => by simp [toPyAll, PyData.eqvAll, eqvAll]
  | [], _ :: _, _, _ => by simp [toPyAll, PyData.eqvAll, eqvAll]
  | _ :: _, [], _, _ => by simp [toPyAll, PyData.eqvAll, eqvAll]
  | x :: xs, y :: ys, h, k => by
    simp only [plAll, Bool.and_eq_true] at h k
    simp only [toPyAll, PyData.eqvAll, eqvAll]
    rw [eqv_py h.1 k.1, eqvAll_py h.2 k.2]
end
mutual
theorem alk_py {n m : Nat} : ∀ {d e : D}, d.pl n = true → e.pl m = true → alike d.toPy e.toPy = d.alk e
  | .lst xs, .lst ys, hd, he => by
    cases n with
    | zero => simp [D.pl] at hd
    | succ n => cases m with
      | zero => simp [D.pl] at he
      | succ m =>
        simp only [D.pl] at hd he
        simp only [D.toPy, alike, D.alk]
        exact alkAll_py hd he
  | .tup xs, .tup ys, hd, he => by
    cases n with
    | zero => simp [D.pl] at hd
    | succ n => cases m with
      | zero => simp [D.pl] at he
      | succ m =>
        simp only [D.pl] at hd he
        simp only [D.toPy, alike, D.alk]
        exact alkAll_py hd he
  | .non, e, hd, he => by cases e <;> first | (exfalso; cases m <;> simp [D.pl] at he; done) | simp [D.toPy, alike, D.alk]
  | .bl _, e, hd, he => by cases e <;> first | (exfalso; cases m <;> simp [D.pl] at he; done) | simp [D.toPy, alike, D.alk]
  | .int _, e, hd, he => by cases e <;> first | (exfalso; cases m <;> simp [D.pl] at he; done) | simp [D.toPy, alike, D.alk]
  | .str _, e, hd, he => by cases e <;> first | (exfalso; cases m <;> simp [D.pl] at he; done) | simp [D.toPy, alike, D.alk]
  | .lst _, .non, hd, he | .lst _, .bl _, hd, he | .lst _, .int _, hd, he | .lst _, .str _, hd, he | .lst _, .tup _, hd, he => by simp [D.toPy, alike, D.alk]
  | .tup _, .non, hd, he | .tup _, .bl _, hd, he | .tup _, .int _, hd, he | .tup _, .str _, hd, he | .tup _, .lst _, hd, he => by simp [D.toPy, alike, D.alk]
  | .lst _, .dct _ _, hd, he | .lst _, .set _, hd, he | .lst _, .exc _ _, hd, he | .lst _, .box _, hd, he | .lst _, .scr _, hd, he => by cases m <;> simp [D.pl] at he
  | .tup _, .dct _ _, hd, he | .tup _, .set _, hd, he | .tup _, .exc _ _, hd, he | .tup _, .box _, hd, he | .tup _, .scr _, hd, he => by cases m <;> simp [D.pl] at he
  | .dct _ _, _, hd, _ | .set _, _, hd, _ | .exc _ _, _, hd, _ | .box _, _, hd, _ | .scr _, _, hd, _ => by cases n <;> simp [D.pl] at hd
theorem alkAll_py {n m : Nat} : ∀ {xs ys : List D}, plAll n xs = true → plAll m ys = true → alikeAll (toPyAll xs) (toPyAll ys) = alkAll xs ys
  | [], [], _, _ => by simp [toPyAll, alikeAll, alkAll]
  | [], _ :: _, _, _ => by simp [toPyAll, alikeAll, alkAll]
  | _ :: _, [], _, _ => by simp [toPyAll, alikeAll, alkAll]
  | x :: xs, y :: ys, h, k => by
    simp only [plAll, Bool.and_eq_true] at h k
    simp only [toPyAll, alikeAll, alkAll]
    rw [alk_py h.1 k.1, alkAll_py h.2 k.2]
end
mutual
theorem alk_comm : ∀ {d e : D}, d.alk e = true → e.alk d = true
  | .lst xs, .lst ys, h => by simp only [D.alk] at h ⊢; exact alkAll_comm h
  | .tup xs, .tup ys, h => by simp only [D.alk] at h ⊢; exact alkAll_comm h
  | .non, e, h => by cases e <;> simp [D.alk] at h ⊢
  | .bl _, e, h => by cases e <;> simp [D.alk] at h ⊢
  | .int _, e, h => by cases e <;> simp [D.alk] at h ⊢
  | .str _, e, h => by cases e <;> simp [D.alk] at h ⊢
  | .lst _, .non, h | .lst _, .bl _, h | .lst _, .int _, h | .lst _, .str _, h | .lst _, .tup _, h | .lst _, .dct _ _, h | .lst _, .set _, h | .lst _, .exc _ _, h | .lst _, .box _, h | .lst _, .scr _, h => by simp [D.alk] at h
  | .tup _, .non, h | .tup _, .bl _, h | .tup _, .int _, h | .tup _, .str _, h | .tup _, .lst _, h | .tup _, .dct _ _, h | .tup _, .set _, h | .tup _, .exc _ _, h | .tup _, .box _, h | .tup _, .scr _, h => by simp [D.alk] at h
  | .dct _ _, _, h | .set _, _, h | .exc _ _, _, h | .box _, _, h | .scr _, _, h => by simp [D.alk] at h
theorem alkAll_comm : ∀ {xs ys : List D}, alkAll xs ys = true → alkAll ys xs = true
  | [], [], _ => by simp [alkAll]
  | [], _ :: _, _ => by simp [alkAll]
  | _ :: _, [], _ => by simp [alkAll]
  | x :: xs, y :: ys, h => by
    simp only [alkAll, Bool.and_eq_true] at h ⊢
    exact ⟨alk_comm h.1, alkAll_comm h.2⟩
end
theorem rowLt_nil_cons (y : PyData) (ys : List PyData) : PyProof.Rows.lexLt itemOrd (keyToksAll []) (keyToksAll (y :: ys)) = true := by
  simp [keyToksAll, PyProof.Rows.lexLt, itemOrd, itemLt]
theorem rowLt_cons_nil (y : PyData) (ys : List PyData) : PyProof.Rows.lexLt itemOrd (keyToksAll (y :: ys)) (keyToksAll []) = false := by
  simp [keyToksAll, PyProof.Rows.lexLt, itemOrd, itemLt]
theorem rowLt_nil_nil : PyProof.Rows.lexLt itemOrd (keyToksAll []) (keyToksAll []) = false := by
  simp [keyToksAll, PyProof.Rows.lexLt, itemOrd, itemLt]
mutual
theorem lt_py {n m : Nat} : ∀ {d e : D}, d.pl n = true → e.pl m = true → d.alk e = true → dataLt d.toPy e.toPy = d.lt e
  | .lst xs, .lst ys, hd, he, ha => by
    cases n with
    | zero => simp [D.pl] at hd
    | succ n => cases m with
      | zero => simp [D.pl] at he
      | succ m =>
        simp only [D.pl] at hd he
        simp only [D.alk] at ha
        simp only [D.toPy, D.lt]
        rw [dataLt_list]
        exact ltAll_py hd he ha
  | .tup xs, .tup ys, hd, he, ha => by
    cases n with
    | zero => simp [D.pl] at hd
    | succ n => cases m with
      | zero => simp [D.pl] at he
      | succ m =>
        simp only [D.pl] at hd he
        simp only [D.alk] at ha
        simp only [D.toPy, D.lt]
        rw [dataLt_tuple]
        exact ltAll_py hd he ha
  | .bl a, .bl b, _, _, _ => by simp only [D.toPy, D.lt]; rw [dataLt_bool]; cases a <;> cases b <;> rfl
  | .int i, .int j, _, _, _ => by simp only [D.toPy, D.lt]; rw [dataLt_int]
  | .str x, .str y, _, _, _ => by simp only [D.toPy, D.lt]; rw [dataLt_str]
  | .non, .non, _, _, _ => by simp [D.toPy, D.lt, dataLt, keyToks, PyProof.Rows.lexLt, itemOrd, itemLt]
  | .non, .bl _, _, _, ha | .non, .int _, _, _, ha | .non, .str _, _, _, ha | .non, .lst _, _, _, ha | .non, .tup _, _, _, ha | .non, .dct _ _, _, _, ha | .non, .set _, _, _, ha | .non, .exc _ _, _, _, ha | .non, .box _, _, _, ha | .non, .scr _, _, _, ha => by simp [D.alk] at ha
  | .bl _, .non, _, _, ha | .bl _, .int _, _, _, ha | .bl _, .str _, _, _, ha | .bl _, .lst _, _, _, ha | .bl _, .tup _, _, _, ha | .bl _, .dct _ _, _, _, ha | .bl _, .set _, _, _, ha | .bl _, .exc _ _, _, _, ha | .bl _, .box _, _, _, ha | .bl _, .scr _, _, _, ha => by simp [D.alk] at ha
  | .int _, .non, _, _, ha | .int _, .bl _, _, _, ha | .int _, .str _, _, _, ha | .int _, .lst _, _, _, ha | .int _, .tup _, _, _, ha | .int _, .dct _ _, _, _, ha | .int _, .set _, _, _, ha | .int _, .exc _ _, _, _, ha | .int _, .box _, _, _, ha | .int _, .scr _, _, _, ha => by simp [D.alk] at ha
  | .str _, .non, _, _, ha | .str _, .bl _, _, _, ha | .str _, .int _, _, _, ha | .str _, .lst _, _, _, ha | .str _, .tup _, _, _, ha | .str _, .dct _ _, _, _, ha | .str _, .set _, _, _, ha | .str _, .exc _ _, _, _, ha | .str _, .box _, _, _, ha | .str _, .scr _, _, _, ha => by simp [D.alk] at ha
  | .lst _, .non, _, _, ha | .lst _, .bl _, _, _, ha | .lst _, .int _, _, _, ha | .lst _, .str _, _, _, ha | .lst _, .tup _, _, _, ha | .lst _, .dct _ _, _, _, ha | .lst _, .set _, _, _, ha | .lst _, .exc _ _, _, _, ha | .lst _, .box _, _, _, ha | .lst _, .scr _, _, _, ha => by simp [D.alk] at ha
  | .tup _, .non, _, _, ha | .tup _, .bl _, _, _, ha | .tup _, .int _, _, _, ha | .tup _, .str _, _, _, ha | .tup _, .lst _, _, _, ha | .tup _, .dct _ _, _, _, ha | .tup _, .set _, _, _, ha | .tup _, .exc _ _, _, _, ha | .tup _, .box _, _, _, ha | .tup _, .scr _, _, _, ha => by simp [D.alk] at ha
  | .dct _ _, _, hd, _, _ | .set _, _, hd, _, _ | .exc _ _, _, hd, _, _ | .box _, _, hd, _, _ | .scr _, _, hd, _, _ => by cases n <;> simp [D.pl] at hd
theorem ltAll_py {n m : Nat} : ∀ {xs ys : List D}, plAll n xs = true → plAll m ys = true → alkAll xs ys = true → PyProof.Rows.lexLt itemOrd (keyToksAll (toPyAll xs)) (keyToksAll (toPyAll ys)) = ltAll xs ys
  | [], [], _, _, _ => by simp only [toPyAll, ltAll]; exact rowLt_nil_nil
  | [], _ :: _, _, _, _ => by simp only [toPyAll, ltAll]; exact rowLt_nil_cons _ _
  | _ :: _, [], _, _, _ => by simp only [toPyAll, ltAll]; exact rowLt_cons_nil _ _
  | x :: xs, y :: ys, h, k, ha => by
    simp only [plAll, Bool.and_eq_true] at h k
    simp only [alkAll, Bool.and_eq_true] at ha
    simp only [toPyAll, ltAll]
    rw [dataLt_cons (by rw [alk_py h.1 k.1]; exact ha.1), eqv_py h.1 k.1, ltAll_py h.2 k.2 ha.2, lt_py h.1 k.1 ha.1]
end
/-! ### a value reads as its data -/
section
variable {X : Cx} {pins : List (Addr × Obj)} {σ : L2.St} {H : Hp} {s : Shared} {ρ : List Addr}
mutual
theorem Rep.dp {K : PySem.W.Frag} {n : Nat} : ∀ {d : D} {v : V}, d.pl n = true → Rep K ρ H v d → Dp K H v d.toPy
  | .non, _, _, h => by cases h; exact .non
  | .bl _, _, _, h => by cases h; exact .bl _
  | .int _, _, _, h => by cases h; exact .int _
  | .str _, _, _, h => by cases h; exact .str _
  | .lst xs, _, p, h => by
    cases n with
    | zero => simp [D.pl] at p
    | succ n =>
      cases h with
      | lst h r => simp only [D.pl] at p; simp only [D.toPy]; exact .lst (.inl (.inl h)) (RepAll.dp p r)
  | .tup xs, _, p, h => by
    cases n with
    | zero => simp [D.pl] at p
    | succ n =>
      cases h with
      | tup h r => simp only [D.pl] at p; simp only [D.toPy]; exact .tup (sqt h) (RepAll.dp p r)
  | .dct _ _, _, p, _ | .set _, _, p, _ | .exc _ _, _, p, _ | .box _, _, p, _ | .scr _, _, p, _ => by cases n <;> simp [D.pl] at p
theorem RepAll.dp {K : PySem.W.Frag} {n : Nat} : ∀ {ds : List D} {vs : List V}, plAll n ds = true → RepAll K ρ H vs ds → DpAll K H vs (toPyAll ds)
  | [], _, _, h => by cases h; simp only [toPyAll]; exact .nil
  | d :: ds, _, p, h => by
    cases h with
    | cons h r => simp only [plAll, Bool.and_eq_true] at p; simp only [toPyAll]; exact .cons (Rep.dp p.1 h) (RepAll.dp p.2 r)
end
theorem Rep.reads {d : D} {v : V} {u : Value} {n : Nat} (I : Inv X pins σ H s) (p : d.pl n = true) (h : Rep X.K ρ H v d) (r : RelV v u) : ∃ as, Reads s.heap u d.toPy as := Dp.reads I _ _ _ (h.dp p) r
theorem RepAll.reads {ds : List D} {vs : List V} {us : List Value} {n : Nat} (I : Inv X pins σ H s) (p : plAll n ds = true) (h : RepAll X.K ρ H vs ds) (r : Vals vs us) : ∃ as, ReadsAll s.heap us (toPyAll ds) as := Dp.readsAll I _ _ _ (h.dp p) r
end
end Pv
end
section
set_option Elab.async false
set_option linter.all false
set_option maxRecDepth 100000
/-! PvT: a new tuple is laid as an object that is known to have no dict of its own, but for one that may be a key. -/
namespace Pv
open PySem L2 PySem.W PyProof.Rows PySem.SeqAt PySem.Spec
section
variable {X : Cx} {pins : List (Addr × Obj)} {σ : L2.St} {H : Hp} {s : Shared}
abbrev tObj (its : List Value) : Obj := { cls := .type "tuple", data := .seq its.toArray }
theorem objOk_tlet {P : Program} {w : World} {h : Heap} {a : Addr} {o : Obj} {vs : List V} (e : h.get? a = some o) (x : ObjOk P w H h a (.tup vs)) : ObjOk P w H h a (tlet o vs) := by
  unfold tlet
  split
  · exact x
  · exact ⟨e, x⟩
/-- what a rule promises that makes a new tuple -/
def NewT (vs : List V) (H : Hp) (Q : VK) : Prop := ∀ (p : Addr) (o : Obj), o.dict = none → H p = none → Q (.ref p) (upd H p (tlet o vs))
theorem endT {vs : List V} {its : List Value} {Q : VK} (I : L2.Inv X pins σ H s) (r : Vals vs its) (z : vs.length ≤ sizeLine) (q : NewT vs H Q) : EP X pins σ Q (.ref s.heap.objs.size) { s with heap := s.heap.push (tObj its) } := by
  have g : (s.heap.push (tObj its)).get? s.heap.objs.size = some (tObj its) := Heap.get?_push_size _ rfl
  exact ⟨.ref s.heap.objs.size, _, I.laid (t' := s.toks) (fun _ _ w => Heap.get?_push_of_some _ w) (Nat.le_refl _) (objOk_tlet g ⟨z, its, r, IsTup.new _ _⟩), rfl, q _ (tObj its) rfl (I.hok.fresh (Nat.le_refl _))⟩
/-- (a, b, ..) -/
theorem pe_tupN {x1} {es : List Expr} {t : TA} {pos : Pos} (h : PA X es t) : PE X (.Tuple es x1 pos) (fun σ H Q => t σ H fun xs H1 => xs.length ≤ sizeLine ∧ NewT xs H1 Q) := by
  constructor
  intro pins s σ H Q I hq
  exact wpAny_Tuple_spliced (thn (h.run pos pins s σ H _ I hq) fun us s1 ⟨xs, H1, I1, r, z, q⟩ => ⟨r.length ▸ z, endT I1 r z q⟩)
/-- t + u -/
def rCatN (K : PySem.W.Frag) : R2 := fun x y H Q => ∃ a b xs ys, x = .ref a ∧ y = .ref b ∧ SqT K H a xs ∧ SqT K H b ys ∧ xs.length + ys.length ≤ sizeLine ∧
  (xs = [] → Q (.ref b) H) ∧ (xs ≠ [] → ys = [] → Q (.ref a) H) ∧ (xs ≠ [] → ys ≠ [] → NewT (xs ++ ys) H Q)
theorem op_catN : OpR X (binaryOp .Add) (rCatN X.K) := by
  intro pins s σ H x y v u Q I rx ry ⟨a, b, xs, ys, ex, ey, ha, hb, hz, q0, q1, q2⟩
  subst ex ey
  by_cases hx : xs = []
  · exact op_catA pins s σ H _ _ v u Q I rx ry ⟨a, b, xs, ys, rfl, rfl, ha, hb, hz, q0, q1, fun n => absurd hx n⟩
  by_cases hy : ys = []
  · exact op_catA pins s σ H _ _ v u Q I rx ry ⟨a, b, xs, ys, rfl, rfl, ha, hb, hz, q0, q1, fun _ n => absurd hy n⟩
  cases rx
  cases ry
  obtain ⟨is, r1, p1, -⟩ := I.tuple ha
  obtain ⟨js, r2, p2, -⟩ := I.tuple hb
  refine HT.cat_tup p1 p2 (fun e => hx (r1.nil_iff.mp e)) (fun e => absurd (r2.nil_iff.mp e) hy) (fun _ => ?_) (by rw [← r2.length, ← r1.length]; exact hz)
  exact endT I (r1.append r2) (by rw [List.length_append]; exact hz) (q2 hx hy)
/-- t[lo:hi] -/
def rSlN (K : PySem.W.Frag) : V → Option Int → Option Int → Hp → VK → Prop := fun x lo hi H Q => ∃ a xs, x = .ref a ∧ SqT K H a xs ∧
  (HT.sIx xs.length 0 lo = 0 ∧ HT.sIx xs.length xs.length hi = xs.length → Q (.ref a) H) ∧ (¬ (HT.sIx xs.length 0 lo = 0 ∧ HT.sIx xs.length xs.length hi = xs.length) → NewT (cutV xs lo hi) H Q)
theorem sl_tupN : SlR X (rSlN X.K) := by
  intro pins s σ H x v vl vu lo hi sl Q I rx hs pl pu ⟨a, xs, ex, hx, q1, q2⟩
  subst ex
  by_cases hw : HT.sIx xs.length 0 lo = 0 ∧ HT.sIx xs.length xs.length hi = xs.length
  · exact sl_tupA pins s σ H _ v vl vu lo hi sl Q I rx hs pl pu ⟨a, xs, rfl, hx, q1, fun n => absurd hw n⟩
  cases rx
  obtain ⟨is, r, ht, hz⟩ := I.tuple hx
  have hl : is.toArray.size = xs.length := r.length ▸ List.size_toArray
  refine ⟨"tuple", _, PyProof.Rows.slot_tuple_getitem.lookup, ht.typeIs, HT.getItem_tuple_cut ht hs pl pu (by rw [hl]; exact hw) ?_ (by rw [hl]; exact hz)⟩
  rw [hl]
  exact endT I ((r.drop _).take _) (Nat.le_trans (cutV_length xs lo hi) hz) (q2 hw)
/-- tuple(xs), tuple(t) -/
theorem call_tuple_ofN : CallR X (.type "tuple") (fun xs H Q => ∃ p ys, xs = [.ref p] ∧ ((SqL X.K H p ys ∧ NewT ys H Q) ∨ (SqT X.K H p ys ∧ Q (.ref p) H))) := by
  intro pins s σ H xs us Q I r ⟨p, ys, ex, h⟩
  subst ex
  rcases h with ⟨hq, q⟩ | ⟨hq, q⟩
  · obtain ⟨u, rfl, ru⟩ := vals1 r
    cases ru
    obtain ⟨is, r', pl, hz⟩ := I.list hq
    have hl := r'.length
    refine call_tuple_list pl.isList (fun h' kp => ?_) (by rw [List.size_toArray]; omega)
    exact endT (I.kept (t' := s.toks) kp) r' hz q
  · exact call_tuple_of pins s σ H _ us Q I r ⟨p, ys, rfl, .inr ⟨hq, q⟩⟩
/-- tuple(range(..)) -/
theorem pe_tupRgN {e : Expr} {te : L2.St → Hp → (Int → Int → Hp → Prop) → Prop} {p pos : Pos} (hc : X.calm = true) (hg : Gl X "tuple") (hm : X.mg "tuple" = none) (he : PRg X e te) (na : starEach [e] X.env = (false, eval e X.env) :: starEach [] X.env := by rfl) : PE X (.Call (.Name "tuple" p) [e] [] pos) (fun σ H Q => te σ H fun a b H1 => RgOk a b ∧ NewT (rgV a b) H1 Q) := by
  constructor
  intro pins s σ H Q I h
  refine Call_ (ld_blt I hg hm boot_tuple (PyProof.Rows.callWith_type1 (args_cons (thn (he pins s σ H _ I h) fun x s1 w => args_nil ?_) na) na))
  obtain ⟨r, a, b, t, u, v, H1, ex, hr, I1, ⟨b1, b2, b3, b4, b5⟩, q⟩ := w
  subst ex
  refine call_tuple_range (n := (b - a).toNat) (I1.ok.hd hc) hr (small_one b1 b2 b3 b4) (rangeSize_nat a b) b5 fun h' tk acc hk hi => ?_
  have I2 : L2.Inv X pins σ H1 { s1 with heap := h', toks := tk } := I1.kept hk
  have := endT I2 (vals_rg hi) (by rw [rgV_length, sizeLine_eq]; omega) q
  rw [tObj, Array.toArray_toList] at this
  exact this
/-- t * k -/
def rRepN (K : PySem.W.Frag) : R2 := fun x y H Q => ∃ l k xs, x = .ref l ∧ y = .int k ∧ SqT K H l xs ∧ xs ≠ [] ∧ 2 ≤ k ∧ k ≤ 1000 ∧ xs.length ≤ 1000 ∧ NewT (List.replicate k.toNat xs).flatten H Q
theorem op_repN : OpR X (binaryOp .Mult) (rRepN X.K) := by
  intro pins s σ H x y v u Q I rx ry ⟨l, k, xs, ex, ey, hT, hne, h1, h2, hz, q⟩
  subst ex ey
  cases rx
  obtain ⟨t, rfl⟩ := ry
  obtain ⟨is, r, ⟨⟨cls, dd, data, sl⟩, ho, hc, n, hd⟩, -⟩ := I.tuple hT
  simp only at hc hd
  subst hc hd
  have hl : is.length = xs.length := r.length.symm
  have hi : is.toArray.isEmpty = false := by
    cases is with
    | nil => exact absurd (List.eq_nil_of_length_eq_zero hl.symm) hne
    | cons _ _ => rfl
  have hs0 : is.toArray.size = xs.length := by rw [← hl]; exact List.size_toArray
  have hm : ((is.toArray.size : Nat) : Int) * k ≤ 1000000 := by
    rw [hs0]
    have := Int.mul_le_mul_of_nonneg_right (show ((xs.length : Nat) : Int) ≤ 1000 by omega) (show 0 ≤ k by omega)
    omega
  have fl : ∀ {α : Type} (zs : List α), zs.length = xs.length → (List.replicate k.toNat zs).flatten.length ≤ sizeLine := fun zs e => by
    rw [lm_len_rep_flat, e, sizeLine_eq]
    have := Nat.mul_le_mul (show k.toNat ≤ 1000 by omega) hz
    omega
  have d0 : (decide (k < -(2 ^ 63)) || decide (k ≥ 2 ^ 63)) = false := by
    rw [Bool.or_eq_false_iff]; exact ⟨decide_eq_false (by omega), decide_eq_false (by omega)⟩
  have d1 : (is.toArray.isEmpty || k == 1) = false := by
    rw [hi, Bool.false_or, beq_eq_false_iff_ne]; omega
  have d2 : (decide (k ≤ 0) || is.toArray.isEmpty) = false := by
    rw [hi, Bool.or_false, decide_eq_false_iff_not]; omega
  have d4 : Builtin.Tuple.tupleTooMany (((is.toArray.size : Nat) : Int) * k) = false := by
    rw [Builtin.Tuple.tupleTooMany, sizeLine_eq, decide_eq_false_iff_not]; omega
  have hT2 : s.TypeIs (.ref l) "tuple" := ⟨_, ho, rfl⟩
  refine wpAny_binaryOp_repeat_ref (T := "tuple") (U := "int") (by decide) hT2 (fun s' => typeIs_int s' k t) noFill_tuple_mul F.fills_int_mul F.slot_int_rmul repeat_tuple F.slot_int_index.lookup ?_
  refine call_meets F.slot_int_rmul (typeIs_int s k t) F.entry_int_rmul (F.args_int_rmul_2 _ _) (int_rmul_tuple k t l is.toArray n dd sl) ⟨ho, rfl, hT2, ?_⟩
  refine call_meets F.slot_tuple_mul hT2 F.entry_tuple_mul (F.args_tuple_mul_2 _ _) (tuple_mulW l is.toArray n dd sl k t d0 d1 d2 (by omega) d4 (by rw [size_rep, List.size_toArray]; exact fl is hl)) ⟨ho, ?_⟩
  rw [size_rep]
  exact endT I (r.rep k.toNat) (fl xs rfl) q
end
end Pv
end
section
set_option Elab.async false
set_option linter.all false
set_option maxRecDepth 100000
/-! Pv3: expressions. -/
namespace Pv
open PySem L2 PySem.W PyProof.Rows PySem.SeqAt
/-! ### ends of expressions; f: the value is a new list (or dict) of its own -/
def OutB (f : Bool) (K : PySem.W.Frag) (mg : Str → Option Value) (W : Value → Option Addr → Hp → Prop) (r : R D) (ρ : List Addr) (Hs H : Hp) (Q : VK) : Prop := match r with
  | .ok d m => match f with
    | false => ∀ v ρ' Hs' H', Tr ρ Hs H ρ' Hs' H' → Bs K ρ' m Hs' H' → Rep K ρ' Hs' v d → Q v H'
    | true => ∀ a ρ' Hs' H', Tr ρ Hs H ρ' Hs' H' → Bs K ρ' m Hs' H' → Own K ρ' Hs' H' a d → Hs' a = none → a ∉ ρ' → H a = none → H' a ≠ none → Q (.ref a) H'
  | .exc c fs m => ∀ cls dx ρ' Hs' H', Tr ρ Hs H ρ' Hs' H' → Bs K ρ' m Hs' H' → EOk K mg ρ' Hs' cls dx c fs → W cls dx H'
  | .bad => False
def cEB (f : Bool) (X : Cx) (H0 : Hp) (W : WX) (ω : List Md) (c : EC) : TE := fun σ H Q => ∃ Γ m ρ Hs, Bs X.K ρ m Hs H ∧ En X.K H0 ω Γ ρ Hs H σ ∧ OutB f X.K X.mg (fun cls dx H' => W cls dx σ H') (c Γ m) ρ Hs H Q
abbrev EB (f : Bool) (X : Cx) (H0 : Hp) (W : WX) (ω : List Md) (e : Expr) (c : EC) : Prop := PE X e (cEB f X H0 W ω c)
section
variable {γ δ : Type} {f : Bool} {K : PySem.W.Frag} {mg : Str → Option Value} {W : Value → Option Addr → Hp → Prop} {ρ ρ1 : List Addr} {Hs H Hs1 H1 : Hp}
theorem OutB.out {r : R D} {Q : VK} : OutB false K mg W r ρ Hs H Q = Out K mg (Rep K) W r ρ Hs H Q := by cases r <;> rfl
theorem OutB.tr {r : R D} {Q : VK} (t : Tr ρ Hs H ρ1 Hs1 H1) (h : OutB f K mg W r ρ Hs H Q) : OutB f K mg W r ρ1 Hs1 H1 Q := by
  cases r with
  | ok d m =>
    cases f with
    | false => exact fun v ρ' Hs' H' t' b rp => h v ρ' Hs' H' (t.trans t') b rp
    | true => exact fun a ρ' Hs' H' t' b o1 o2 o3 o4 o5 => h a ρ' Hs' H' (t.trans t') b o1 o2 o3 (t.dom a o4) o5
  | exc c fs m => exact fun cls dx ρ' Hs' H' t' b e => h cls dx ρ' Hs' H' (t.trans t') b e
  | bad => exact h
theorem OutB.bind {α β : Type} {Rp : List Addr → Hp → β → α → Prop} {r : R α} {g : α → Mu → R D} {Q : VK} (h : OutB f K mg W (r.bind g) ρ Hs H Q) :
    Out K mg Rp W r ρ Hs H (Aft K Rp ρ Hs H fun a m ρ1 Hs1 H1 => OutB f K mg W (g a m) ρ1 Hs1 H1 Q) := by
  cases r with
  | ok a m => exact fun v ρ' Hs' H' t b rp => ⟨a, m, ρ', Hs', t, b, rp, OutB.tr t h⟩
  | exc c fs m => exact h
  | bad => exact h
theorem hs_none (sb : Sub Hs H) {p : Addr} (hp : H p = none) : Hs p = none := sb.free hp
/-- a new address in the part that never changes -/
theorem tr_new {p : Addr} {o : HO} (sb : Sub Hs H) (hp : H p = none) : Tr ρ Hs H ρ (upd Hs p o) (upd H p o) where
  sub := Sub.new (hs_none sb hp)
  new a u e := by
    by_cases z : a = p
    · subst z; exact .inr hp
    · rw [upd_ne z] at e; exact .inl e
  pre := .refl _
  bnew := fun a h => .inl h
  dom a h := by
    by_cases z : a = p
    · subst z; exact hp
    · rw [upd_ne z] at h; exact h
  same a u _ h := Sub.new hp a u h
/-- a new address that may change later -/
theorem tr_newF {p : Addr} {o : HO} (hp : H p = none) : Tr ρ Hs H ρ Hs (upd H p o) where
  sub := .refl _
  new a u e := .inl e
  pre := .refl _
  bnew := fun a h => .inl h
  dom a h := by
    by_cases z : a = p
    · subst z; exact hp
    · rw [upd_ne z] at h; exact h
  same a u _ h := Sub.new hp a u h
theorem Bs.new {m : Mu} {p : Addr} {o : HO} (b : Bs K ρ m Hs H) (hp : H p = none) : Bs K ρ m (upd Hs p o) (upd H p o) where
  sub a u e := by
    by_cases z : a = p
    · subst z; rw [upd_same] at e ⊢; exact e
    · rw [upd_ne z] at e ⊢; exact b.sub a u e
  bx n ds h := by
    obtain ⟨a, vs, h1, h2, h3, h4⟩ := b.bx n ds h
    have z : a ≠ p := ne_of_none h3 hp
    exact ⟨a, vs, h1, by rw [upd_ne z]; exact h2, by rw [upd_ne z]; exact h3, h4.mono (.refl _) (Sub.new (hs_none b.sub hp))⟩
  nd := b.nd
  len := b.len
theorem Bs.newF {m : Mu} {p : Addr} {o : HO} (b : Bs K ρ m Hs H) (hp : H p = none) : Bs K ρ m Hs (upd H p o) where
  sub := b.sub.trans (Sub.new hp)
  bx n ds h := by
    obtain ⟨a, vs, h1, h2, h3, h4⟩ := b.bx n ds h
    have z : a ≠ p := ne_of_none h3 hp
    exact ⟨a, vs, h1, h2, by rw [upd_ne z]; exact h3, h4⟩
  nd := b.nd
  len := b.len
theorem Bs.out {m : Mu} {p : Addr} (b : Bs K ρ m Hs H) (hp : H p = none) : p ∉ ρ := fun q => by
  obtain ⟨n, hn⟩ := List.getElem?_of_mem q
  have hl : n < m.length := by rw [← b.len]; exact (List.getElem?_eq_some_iff.mp hn).1
  obtain ⟨a, vs, h1, _, h3, _⟩ := b.bx n _ (List.getElem?_eq_getElem hl)
  rw [hn] at h1
  cases h1
  rw [hp] at h3
  cases h3
/-- a new list ends an expression -/
theorem OutB.newL {m : Mu} {vs : List V} {ds : List D} {Q : VK} {p : Addr} (b : Bs K ρ m Hs H) (r : RepAll K ρ Hs vs ds) (h : OutB f K mg W (.ok (.lst ds) m) ρ Hs H Q) (hp : H p = none) : Q (.ref p) (upd H p (.lst vs)) := by
  cases f with
  | false => exact h _ ρ _ _ (tr_new b.sub hp) (b.new hp) (.lst upd_same (r.mono (.refl _) (Sub.new (hs_none b.sub hp))))
  | true => exact h p ρ Hs _ (tr_newF hp) (b.newF hp) (.lst upd_same r) (hs_none b.sub hp) (b.out hp) hp (by rw [upd_same]; exact fun z => nomatch z)
theorem OutB.newT {m : Mu} {vs : List V} {ds : List D} {Q : VK} (b : Bs K ρ m Hs H) (r : RepAll K ρ Hs vs ds) (h : OutB false K mg W (.ok (.tup ds) m) ρ Hs H Q) : NewT vs H Q := fun p o ho hp =>
  h _ ρ _ _ (tr_new b.sub hp) (b.new hp) (.tup ⟨o, ho, upd_same⟩ (r.mono (.refl _) (Sub.new (hs_none b.sub hp))))
theorem OutB.val {m : Mu} {v : V} {d : D} {Q : VK} (b : Bs K ρ m Hs H) (r : Rep K ρ Hs v d) (h : OutB false K mg W (.ok d m) ρ Hs H Q) : Q v H := h v ρ Hs H (.refl ..) b r
/-- a new list may be held as a value -/
theorem own_val {a : Addr} {d : D} {m : Mu} (b : Bs K ρ m Hs H) (o : Own K ρ Hs H a d) (h1 : Hs a = none) (h2 : a ∉ ρ) : ∃ u, H a = some u ∧ Rep K ρ (upd Hs a u) (.ref a) d ∧ Bs K ρ m (upd Hs a u) H := by
  have hb : ∀ u, H a = some u → Bs K ρ m (upd Hs a u) H := fun u hu => ⟨fun c v e => by
      by_cases z : c = a
      · subst z; rw [upd_same] at e; cases e; exact hu
      · rw [upd_ne z] at e; exact b.sub c v e, fun n ds e => by
      obtain ⟨c, vs, q1, q2, q3, q4⟩ := b.bx n ds e
      have z : c ≠ a := fun z => h2 (by subst z; exact List.mem_of_getElem? q1)
      exact ⟨c, vs, q1, by rw [upd_ne z]; exact q2, q3, q4.mono (.refl _) (Sub.new h1)⟩, b.nd, b.len⟩
  cases o with
  | lst h r => exact ⟨_, h, .lst upd_same (r.mono (.refl _) (Sub.new h1)), hb _ h⟩
  | dK h k r => exact ⟨_, h, .dK upd_same k (r.mono (.refl _) (Sub.new h1)), hb _ h⟩
  | dT h k r => exact ⟨_, h, .dT (.inl upd_same) k (r.mono (.refl _) (Sub.new h1)), hb _ h⟩
end
section
variable {X : Cx} {H0 : Hp} {W : WX} {ω : List Md} {e a b : Expr} {c ca cb : EC} {f : Bool} {pos : Pos}
theorem EB.ev (h : EB false X H0 W ω e c) : EV X H0 W ω e c := PE.imp h fun σ H Q ⟨Γ, m, ρ, Hs, b, en, o⟩ => ⟨Γ, m, ρ, Hs, b, en, by rw [OutB.out]; exact o⟩
theorem EV.eb (h : EV X H0 W ω e c) : EB false X H0 W ω e c := PE.imp h fun σ H Q ⟨Γ, m, ρ, Hs, b, en, o⟩ => ⟨Γ, m, ρ, Hs, b, en, by rw [← OutB.out]; exact o⟩
/-- a new list, held as a value -/
theorem EB.frz (h : EB true X H0 W ω e c) : EV X H0 W ω e c := PE.imp h fun σ H Q ⟨Γ, m, ρ, Hs, b, en, o⟩ => ⟨Γ, m, ρ, Hs, b, en, by
  cases hc : c Γ m with
  | ok d m' =>
    rw [hc] at o
    intro a ρ' Hs' H' t b' o1 o2 o3 o4 o5
    obtain ⟨u, hu, rp, b2⟩ := own_val b' o1 o2 o3
    refine o (.ref a) ρ' (upd Hs' a u) H' ⟨t.sub.trans (Sub.new o2), fun x v q => ?_, t.pre, t.bnew, t.dom, t.same⟩ b2 rp
    by_cases z : x = a
    · subst z; exact .inr o4
    · rw [upd_ne z] at q; exact t.new x v q
  | exc c fs m' => rw [hc] at o; exact o
  | bad => rw [hc] at o; exact o⟩
/-! ### names and constants -/
def cVar (i : Nat) : EC := fun Γ m => .ok (Γ.getD i .non) m
def cC (d : D) : EC := fun _ m => .ok d m
theorem ev_var (i : Nat) {x : Str} {p : Pos} (hw : ω[i]? = some .sh := by rfl) (hN : X.N[i]? = some x := by rfl) (hv : Vis X.env.scope x := by first | exact Or.inl rfl | exact Or.inr (Or.inl rfl) | exact Or.inr (Or.inr rfl)) (hd : (x == ("__debug__" : Str)) = false := by decide)
    (hcd : (x == ("__classdict__" : Str)) = false := by decide) : EV X H0 W ω (.Name x p) (cVar i) := PE.imp (pe_var hN hv hd hcd) fun σ H Q ⟨Γ, m, ρ, Hs, b, en, o⟩ => by
  obtain ⟨v, h1, h2⟩ := en.sh i hw
  exact ⟨v, h1, o v ρ Hs H (.refl ..) b h2⟩
theorem ev_int {i j} : EV X H0 W ω (.Constant (.int i) j pos) (cC (.int i)) := PE.imp pe_int fun σ H Q ⟨Γ, m, ρ, Hs, b, en, o⟩ => o _ ρ Hs H (.refl ..) b (.int _)
theorem ev_bl {i j} : EV X H0 W ω (.Constant (.bool i) j pos) (cC (.bl i)) := PE.imp pe_bl fun σ H Q ⟨Γ, m, ρ, Hs, b, en, o⟩ => o _ ρ Hs H (.refl ..) b (.bl _)
theorem ev_non {j} : EV X H0 W ω (.Constant .none j pos) (cC .non) := PE.imp pe_non fun σ H Q ⟨Γ, m, ρ, Hs, b, en, o⟩ => o _ ρ Hs H (.refl ..) b .non
/-- a module's constant number -/
theorem ev_globI {x : Str} {i : Int} {t : Tok} {p : Pos} (hm : X.mg x = some (.int i t)) (hg : Gl X x := by rfl) (hd : (x == ("__debug__" : Str)) = false := by decide) : EV X H0 W ω (.Name x p) (cC (.int i)) :=
  PE.imp (pe_glob (v := .int i) hg hm ⟨_, rfl⟩ hd) fun σ H Q ⟨Γ, m, ρ, Hs, b, en, o⟩ => o _ ρ Hs H (.refl ..) b (.int _)
/-! ### operators -/
def R.of {α : Type} (o : Option α) (m : Mu) : R α := match o with
  | some d => .ok d m
  | none => .bad
/-- a two-place operator computes g -/
def OpD (f : Bool) (X : Cx) (op : Value → Value → Sem Value) (g : Mu → D → D → Option D) : Prop :=
  OpR X op fun x y H Q => ∃ W d e m ρ Hs, Bs X.K ρ m Hs H ∧ Rep X.K ρ Hs x d ∧ Rep X.K ρ Hs y e ∧ OutB f X.K X.mg W (R.of (g m d e) m) ρ Hs H Q
def c2 (g : Mu → D → D → Option D) (ca cb : EC) : EC := fun Γ m => (ca Γ m).bind fun d m1 => (cb Γ m1).bind fun e m2 => R.of (g m2 d e) m2
theorem c2_read {g : Mu → D → D → Option D} {σ : L2.St} {H : Hp} {Q : VK} (h : cEB f X H0 W ω (c2 g ca cb) σ H Q) :
    cE X H0 W ω ca σ H fun x H1 => cE X H0 W ω cb σ H1 fun y H2 => ∃ W d e m ρ Hs, Bs X.K ρ m Hs H2 ∧ Rep X.K ρ Hs x d ∧ Rep X.K ρ Hs y e ∧ OutB f X.K X.mg W (R.of (g m d e) m) ρ Hs H2 Q := by
  obtain ⟨Γ, m, ρ, Hs, b, en, o⟩ := h
  refine ⟨Γ, m, ρ, Hs, b, en, Out.mono (OutB.bind o) fun v H1 ⟨d, m1, ρ1, Hs1, t1, b1, r1, o1⟩ => ?_⟩
  exact ⟨Γ, m1, ρ1, Hs1, b1, en.mono t1, Out.mono (OutB.bind o1) fun w H2 ⟨d2, m2, ρ2, Hs2, t2, b2, r2, o2⟩ => ⟨_, d, d2, m2, ρ2, Hs2, b2, r1.mono t2.pre t2.sub, r2, o2⟩⟩
theorem ev_op {op : Operator} {g : Mu → D → D → Option D} (ho : OpD f X (binaryOp op) g) (ha : EV X H0 W ω a ca) (hb : EV X H0 W ω b cb) : EB f X H0 W ω (.BinOp a op b pos) (c2 g ca cb) :=
  PE.imp (pe_op ho ha hb) fun σ H Q h => c2_read h
end
section
variable {X : Cx} {f : Bool}
def mulOk (i j : Int) : Bool := decide (-(18446744073709551616) < i ∧ i < 18446744073709551616) || decide (-(18446744073709551616) < j ∧ j < 18446744073709551616) || Nat.blt (i.natAbs.log2 + j.natAbs.log2) 1000000
def addD : Mu → D → D → Option D
  | _, .int i, .int j => some (.int (i + j))
  | _, .lst xs, .lst ys => if szOk (xs.length + ys.length) then some (.lst (xs ++ ys)) else none
  | _, .tup xs, .tup ys => if szOk (xs.length + ys.length) then some (.tup (xs ++ ys)) else none
  | _, .str x, .str y => if szOk (x.length + y.length) then some (.str (x ++ y)) else none
  | _, _, _ => none
def subD : Mu → D → D → Option D
  | _, .int i, .int j => some (.int (i - j))
  | _, _, _ => none
def mulD : Mu → D → D → Option D
  | _, .int i, .int j => if mulOk i j then some (.int (i * j)) else none
  | _, .lst xs, .int k => if Nat.ble k.toNat 1000000 && szOk (xs.length * k.toNat) && decide (-1000000 ≤ k) then some (.lst (List.replicate k.toNat xs).flatten) else none
  | _, .tup xs, .int k => if !xs.isEmpty && decide (2 ≤ k) && decide (k ≤ 1000) && Nat.ble xs.length 1000 then some (.tup (List.replicate k.toNat xs).flatten) else none
  | _, _, _ => none
def fdivD : Mu → D → D → Option D
  | _, .int i, .int j => if decide (0 < j) && Nat.blt j.natAbs.log2 9000 then some (.int (i / j)) else none
  | _, _, _ => none
def modD : Mu → D → D → Option D
  | _, .int i, .int j => if decide (0 < j) then some (.int (i % j)) else none
  | _, _, _ => none
def powD : Mu → D → D → Option D
  | _, .int i, .int j => if decide (0 ≤ j) && Nat.ble ((i.natAbs.log2 + 1) * j.toNat) 134217728 then some (.int (i ^ j.toNat)) else none
  | _, _, _ => none
theorem OutB.bad {K : PySem.W.Frag} {mg : Str → Option Value} {W : Value → Option Addr → Hp → Prop} {ρ : List Addr} {Hs H : Hp} {Q : VK} (h : OutB f K mg W .bad ρ Hs H Q) : False := h
theorem RepAll.rep {K : PySem.W.Frag} {ρ : List Addr} {H : Hp} {vs : List V} {ds : List D} (h : RepAll K ρ H vs ds) : ∀ n : Nat, RepAll K ρ H (List.replicate n vs).flatten (List.replicate n ds).flatten
  | 0 => .nil
  | n + 1 => by rw [List.replicate_succ, List.replicate_succ, List.flatten_cons, List.flatten_cons]; exact h.append (RepAll.rep h n)
/-- a guard in an operator's value -/
theorem of_if {α : Type} {c : Bool} {x r : α} (h : (if c = true then some x else none) = some r) : c = true ∧ x = r := by
  cases c with
  | true => exact ⟨rfl, Option.some.inj h⟩
  | false => cases h
theorem OutB.of {K : PySem.W.Frag} {mg : Str → Option Value} {W : Value → Option Addr → Hp → Prop} {ρ : List Addr} {Hs H : Hp} {Q : VK} {o : Option D} {m : Mu} (h : OutB f K mg W (R.of o m) ρ Hs H Q) : ∃ r, o = some r ∧ OutB f K mg W (.ok r m) ρ Hs H Q := by
  cases o with
  | none => exact h.elim
  | some r => exact ⟨r, rfl, h⟩
theorem opD_add : OpD false X (binaryOp .Add) addD := by
  intro pins s σ H x y v u Q I rx ry h
  obtain ⟨W, d, e, m, ρ, Hs, b, hx, hy, o⟩ := h
  obtain ⟨r, hg, o⟩ := OutB.of o
  cases hx <;> cases hy <;> simp only [addD] at hg <;> try (cases hg; done)
  case int.int i j => cases hg; exact op_add pins s σ H _ _ v u Q I rx ry ⟨i, j, rfl, rfl, o.val b (.int _)⟩
  case str.str i j =>
    obtain ⟨hz, rfl⟩ := of_if hg
    exact op_add_str pins s σ H _ _ v u Q I rx ry ⟨i, j, rfl, rfl, szOk_le hz, o.val b (.str _)⟩
  case lst.lst a vs ds r1 h1 a' vs' ds' r2 h2 =>
    obtain ⟨hz, rfl⟩ := of_if hg
    refine op_cat pins s σ H _ _ v u Q I rx ry ⟨_, _, _, _, rfl, rfl, b.sub _ _ r1, b.sub _ _ r2, ?_, fun p hp => OutB.newL b (h1.append h2) o hp⟩
    rw [h1.length, h2.length]; exact szOk_le hz
  case tup.tup a vs ds r1 h1 a' vs' ds' r2 h2 =>
    obtain ⟨hz, rfl⟩ := of_if hg
    have nil1 : vs = [] → ds = [] := fun z => by subst z; cases h1; rfl
    have nil2 : vs' = [] → ds' = [] := fun z => by subst z; cases h2; rfl
    refine op_catN pins s σ H _ _ v u Q I rx ry ⟨_, _, _, _, rfl, rfl, sqt (r1.sub b.sub), sqt (r2.sub b.sub), ?_, fun z => ?_, fun _ z => ?_, fun _ _ => OutB.newT b (h1.append h2) o⟩
    · rw [h1.length, h2.length]; exact szOk_le hz
    · rw [nil1 z] at o; exact o.val b (.tup r2 h2)
    · rw [nil2 z, List.append_nil] at o; exact o.val b (.tup r1 h1)
/-- + of two lists, the value a new list -/
def addL : Mu → D → D → Option D
  | _, .lst xs, .lst ys => if szOk (xs.length + ys.length) then some (.lst (xs ++ ys)) else none
  | _, _, _ => none
theorem opD_addL : OpD f X (binaryOp .Add) addL := by
  intro pins s σ H x y v u Q I rx ry h
  obtain ⟨W, d, e, m, ρ, Hs, b, hx, hy, o⟩ := h
  obtain ⟨r, hg, o⟩ := OutB.of o
  cases hx <;> cases hy <;> simp only [addL] at hg <;> try (cases hg; done)
  case lst.lst a vs ds r1 h1 a' vs' ds' r2 h2 =>
    obtain ⟨hz, rfl⟩ := of_if hg
    refine op_cat pins s σ H _ _ v u Q I rx ry ⟨_, _, _, _, rfl, rfl, b.sub _ _ r1, b.sub _ _ r2, ?_, fun p hp => OutB.newL b (h1.append h2) o hp⟩
    rw [h1.length, h2.length]; exact szOk_le hz
theorem opD_sub : OpD false X (binaryOp .Sub) subD := by
  intro pins s σ H x y v u Q I rx ry h
  obtain ⟨W, d, e, m, ρ, Hs, b, hx, hy, o⟩ := h
  obtain ⟨r, hg, o⟩ := OutB.of o
  cases hx <;> cases hy <;> simp only [subD] at hg <;> try (cases hg; done)
  case int.int i j => cases hg; exact op_sub pins s σ H _ _ v u Q I rx ry ⟨i, j, rfl, rfl, o.val b (.int _)⟩
theorem opD_mod : OpD false X (binaryOp .Mod) modD := by
  intro pins s σ H x y v u Q I rx ry h
  obtain ⟨W, d, e, m, ρ, Hs, b, hx, hy, o⟩ := h
  obtain ⟨r, hg, o⟩ := OutB.of o
  cases hx <;> cases hy <;> simp only [modD] at hg <;> try (cases hg; done)
  case int.int i j =>
    obtain ⟨hz, rfl⟩ := of_if hg
    exact op_mod pins s σ H _ _ v u Q I rx ry ⟨i, j, rfl, rfl, of_decide_eq_true hz, o.val b (.int _)⟩
theorem opD_fdiv : OpD false X (binaryOp .FloorDiv) fdivD := by
  intro pins s σ H x y v u Q I rx ry h
  obtain ⟨W, d, e, m, ρ, Hs, b, hx, hy, o⟩ := h
  obtain ⟨r, hg, o⟩ := OutB.of o
  cases hx <;> cases hy <;> simp only [fdivD] at hg <;> try (cases hg; done)
  case int.int i j =>
    obtain ⟨hz, rfl⟩ := of_if hg
    rw [Bool.and_eq_true] at hz
    exact op_fdivW pins s σ H _ _ v u Q I rx ry ⟨i, j, rfl, rfl, ⟨of_decide_eq_true hz.1, Nat.lt_of_succ_le (Nat.le_of_ble_eq_true hz.2)⟩, o.val b (.int _)⟩
theorem op_powW {X : Cx} : OpR X (binaryOp .Pow) (rI (fun i j => 0 ≤ j ∧ (i.natAbs.log2 + 1) * j.toNat ≤ 134217728) fun i j => .int (i ^ j.toNat)) := opI fun i j _ _ _ _ _ hc q => PyProof.Rows.pow_int hc.1 (by
  have h2 : Builtin.Int.intBits i ≤ i.natAbs.log2 + 1 := by unfold Builtin.Int.intBits; split <;> omega
  have h3 : Builtin.Int.intBits i * j.toNat ≤ (i.natAbs.log2 + 1) * j.toNat := Nat.mul_le_mul_right _ h2
  have h4 : ((Builtin.Int.intBits i : Nat) : Int) * j = ((Builtin.Int.intBits i * j.toNat : Nat) : Int) := by rw [Int.natCast_mul, Int.toNat_of_nonneg hc.1]
  rw [h4]
  have := hc.2
  omega) q
theorem opD_pow : OpD false X (binaryOp .Pow) powD := by
  intro pins s σ H x y v u Q I rx ry h
  obtain ⟨W, d, e, m, ρ, Hs, b, hx, hy, o⟩ := h
  obtain ⟨r, hg, o⟩ := OutB.of o
  cases hx <;> cases hy <;> simp only [powD] at hg <;> try (cases hg; done)
  case int.int i j =>
    obtain ⟨hz, rfl⟩ := of_if hg
    rw [Bool.and_eq_true] at hz
    exact op_powW pins s σ H _ _ v u Q I rx ry ⟨i, j, rfl, rfl, ⟨of_decide_eq_true hz.1, Nat.le_of_ble_eq_true hz.2⟩, o.val b (.int _)⟩
theorem opD_mul : OpD false X (binaryOp .Mult) mulD := by
  intro pins s σ H x y v u Q I rx ry h
  obtain ⟨W, d, e, m, ρ, Hs, b, hx, hy, o⟩ := h
  obtain ⟨r, hg, o⟩ := OutB.of o
  cases hx <;> cases hy <;> simp only [mulD] at hg <;> try (cases hg; done)
  case int.int i j =>
    obtain ⟨hz, rfl⟩ := of_if hg
    simp only [mulOk, Bool.or_eq_true] at hz
    rcases hz with (hz | hz) | hz
    · exact op_mul pins s σ H _ _ v u Q I rx ry ⟨i, j, rfl, rfl, .inl (of_decide_eq_true hz), o.val b (.int _)⟩
    · exact op_mul pins s σ H _ _ v u Q I rx ry ⟨i, j, rfl, rfl, .inr (of_decide_eq_true hz), o.val b (.int _)⟩
    · exact op_mulW pins s σ H _ _ v u Q I rx ry ⟨i, j, rfl, rfl, Nat.lt_of_succ_le (Nat.le_of_ble_eq_true hz), o.val b (.int _)⟩
  case lst.int a vs ds r1 h1 k =>
    obtain ⟨hz, rfl⟩ := of_if hg
    rw [Bool.and_eq_true, Bool.and_eq_true] at hz
    have z1 := Nat.le_of_ble_eq_true hz.1.1
    have z2 := of_decide_eq_true hz.2
    have z3 := szOk_le hz.1.2
    exact op_rep pins s σ H _ _ v u Q I rx ry ⟨_, k, _, rfl, rfl, b.sub _ _ r1, by omega, by omega, by rw [h1.length]; exact z3, fun p hp => OutB.newL b (h1.rep _) o hp⟩
  case tup.int a vs ds r1 h1 k =>
    obtain ⟨hz, rfl⟩ := of_if hg
    rw [Bool.and_eq_true, Bool.and_eq_true, Bool.and_eq_true] at hz
    refine op_repN pins s σ H _ _ v u Q I rx ry ⟨_, k, _, rfl, rfl, sqt (r1.sub b.sub), fun z => ?_, of_decide_eq_true hz.1.1.2, of_decide_eq_true hz.1.2, by rw [h1.length]; exact Nat.le_of_ble_eq_true hz.2, OutB.newT b (h1.rep _) o⟩
    subst z
    cases h1
    exact absurd hz.1.1.1 (by decide)
/-! ### comparisons -/
def PLN : Nat := 40
def eqD (_ : Mu) (d e : D) : Option D := if d.pl PLN && e.pl PLN then some (.bl (d.eqv e)) else none
def neD (_ : Mu) (d e : D) : Option D := if d.pl PLN && e.pl PLN then some (.bl (!d.eqv e)) else none
def isNone : D → Bool
  | .non => true
  | _ => false
def ltOk (d e : D) : Bool := d.pl PLN && e.pl PLN && d.alk e && !isNone d
def ltD (_ : Mu) (d e : D) : Option D := if ltOk d e then some (.bl (d.lt e)) else none
def gtD (_ : Mu) (d e : D) : Option D := if ltOk d e then some (.bl (e.lt d)) else none
def leD (_ : Mu) (d e : D) : Option D := if ltOk d e then some (.bl (!e.lt d)) else none
def geD (_ : Mu) (d e : D) : Option D := if ltOk d e then some (.bl (!d.lt e)) else none
def isD : Mu → D → D → Option D
  | _, d, .non => some (.bl (isNone d))
  | _, _, _ => none
def isnD : Mu → D → D → Option D
  | _, d, .non => some (.bl (!isNone d))
  | _, _, _ => none
def inD : Mu → D → D → Option D
  | _, d, .lst xs => if d.pl PLN && plAll PLN xs then some (.bl (xs.any fun y => y.eqv d)) else none
  | _, d, .tup xs => if d.pl PLN && plAll PLN xs then some (.bl (xs.any fun y => y.eqv d)) else none
  | _, _, _ => none
def ninD : Mu → D → D → Option D
  | _, d, .lst xs => if d.pl PLN && plAll PLN xs then some (.bl (!xs.any fun y => y.eqv d)) else none
  | _, d, .tup xs => if d.pl PLN && plAll PLN xs then some (.bl (!xs.any fun y => y.eqv d)) else none
  | _, _, _ => none
/-- by values: both read over the whole heap, the answer a plain one -/
def BopD (X : Cx) (op : Value → Value → Sem Value) (g : Mu → D → D → Option D) : Prop :=
  ∀ (pins : List (Addr × Obj)) (s : Shared) (σ : L2.St) (H : Hp) (x y : V) (v u : Value) (Q : VK) (ρ : List Addr) (m : Mu) (d e r : D), Inv X pins σ H s → RelV x v → RelV y u → Rep X.K ρ H x d → Rep X.K ρ H y e → g m d e = some r →
    (∀ z, (∀ ρ' H', Rep X.K ρ' H' z r) → Q z H) → wpAny (model X.prog X.w) X.A (op v u) (EP X pins σ Q) X.xe s
theorem not_none_of {n : Nat} {d : D} (h : d.pl n = true) (h' : isNone d = false) : d.toPy ≠ .none := by
  cases d <;> first | (simp [isNone] at h'; done) | (simp [D.toPy]; done) | (cases n <;> simp [D.pl] at h)
theorem any_py {n m : Nat} {d : D} (hd : d.pl m = true) : ∀ {xs : List D}, plAll n xs = true → ((toPyAll xs).any fun y => PyData.eqv y d.toPy) = xs.any fun y => y.eqv d
  | [], _ => by simp [toPyAll]
  | x :: xs, h => by
    simp only [plAll, Bool.and_eq_true] at h
    simp only [toPyAll, List.any_cons]
    rw [eqv_py h.1 hd, any_py hd h.2]
theorem bop_is : BopD X (compareOp .Is) isD := by
  intro pins s σ H x y v u Q ρ m d e r I rx ry hx hy hg q
  cases hy <;> simp only [isD] at hg <;> try (cases hg; done)
  cases hg
  refine op_isN pins s σ H _ _ v u Q I rx ry ⟨rfl, ?_⟩
  cases hx <;> exact q _ fun _ _ => .bl _
theorem bop_isn : BopD X (compareOp .IsNot) isnD := by
  intro pins s σ H x y v u Q ρ m d e r I rx ry hx hy hg q
  cases hy <;> simp only [isnD] at hg <;> try (cases hg; done)
  cases hg
  refine op_notN pins s σ H _ _ v u Q I rx ry ⟨rfl, ?_⟩
  cases hx <;> exact q _ fun _ _ => .bl _
section
variable (hu : X.A.units + 64 < cLine)
include hu
theorem bop_eq : BopD X (compareOp .Eq) eqD := by
  intro pins s σ H x y v u Q ρ m d e r I rx ry hx hy hg q
  obtain ⟨hz, rfl⟩ := of_if hg
  rw [Bool.and_eq_true] at hz
  obtain ⟨as, ra⟩ := hx.reads I hz.1 rx
  obtain ⟨bs, rb⟩ := hy.reads I hz.2 ry
  refine eq_plain ra rb (plain_of hz.1) (plain_of hz.2) ?_ ⟨.bl _, H, I, rfl, ?_⟩
  · have := depth_of hz.1; have z : PLN = 40 := rfl; omega
  · rw [eqv_py hz.1 hz.2]; exact q _ fun _ _ => .bl _
theorem bop_ne : BopD X (compareOp .NotEq) neD := by
  intro pins s σ H x y v u Q ρ m d e r I rx ry hx hy hg q
  obtain ⟨hz, rfl⟩ := of_if hg
  rw [Bool.and_eq_true] at hz
  obtain ⟨as, ra⟩ := hx.reads I hz.1 rx
  obtain ⟨bs, rb⟩ := hy.reads I hz.2 ry
  refine ne_plain ra rb (plain_of hz.1) (plain_of hz.2) ?_ ⟨.bl _, H, I, rfl, ?_⟩
  · have := depth_of hz.1; have z : PLN = 40 := rfl; omega
  · rw [eqv_py hz.1 hz.2]; exact q _ fun _ _ => .bl _
theorem bop_lt : BopD X (compareOp .Lt) ltD := by
  intro pins s σ H x y v u Q ρ m d e r I rx ry hx hy hg q
  obtain ⟨hz, rfl⟩ := of_if hg
  simp only [ltOk, Bool.and_eq_true, Bool.not_eq_true'] at hz
  obtain ⟨⟨⟨h1, h2⟩, h3⟩, h4⟩ := hz
  obtain ⟨as, ra⟩ := hx.reads I h1 rx
  obtain ⟨bs, rb⟩ := hy.reads I h2 ry
  refine lt_data ra rb (by rw [alk_py h1 h2]; exact h3) (not_none_of h1 h4) ?_ ⟨.bl _, H, I, rfl, ?_⟩
  · have := depth_of h1; have z : PLN = 40 := rfl; omega
  · rw [lt_py h1 h2 h3]; exact q _ fun _ _ => .bl _
theorem bop_gt : BopD X (compareOp .Gt) gtD := by
  intro pins s σ H x y v u Q ρ m d e r I rx ry hx hy hg q
  obtain ⟨hz, rfl⟩ := of_if hg
  simp only [ltOk, Bool.and_eq_true, Bool.not_eq_true'] at hz
  obtain ⟨⟨⟨h1, h2⟩, h3⟩, h4⟩ := hz
  obtain ⟨as, ra⟩ := hx.reads I h1 rx
  obtain ⟨bs, rb⟩ := hy.reads I h2 ry
  refine gt_data ra rb (by rw [alk_py h1 h2]; exact h3) (not_none_of h1 h4) ?_ ⟨.bl _, H, I, rfl, ?_⟩
  · have := depth_of h1; have z : PLN = 40 := rfl; omega
  · rw [lt_py h2 h1 (alk_comm h3)]; exact q _ fun _ _ => .bl _
theorem bop_ge : BopD X (compareOp .GtE) geD := by
  intro pins s σ H x y v u Q ρ m d e r I rx ry hx hy hg q
  obtain ⟨hz, rfl⟩ := of_if hg
  simp only [ltOk, Bool.and_eq_true, Bool.not_eq_true'] at hz
  obtain ⟨⟨⟨h1, h2⟩, h3⟩, h4⟩ := hz
  obtain ⟨as, ra⟩ := hx.reads I h1 rx
  obtain ⟨bs, rb⟩ := hy.reads I h2 ry
  refine ge_data ra rb (by rw [alk_py h1 h2]; exact h3) (not_none_of h1 h4) ?_ ⟨.bl _, H, I, rfl, ?_⟩
  · have := depth_of h1; have z : PLN = 40 := rfl; omega
  · rw [lt_py h1 h2 h3]; exact q _ fun _ _ => .bl _
theorem bop_in : BopD X (compareOp .In) inD := by
  intro pins s σ H x y v u Q ρ m d e r I rx ry hx hy hg q
  cases hy <;> simp only [inD] at hg <;> try (cases hg; done)
  case lst a vs ds r1 h1 =>
    obtain ⟨hz, rfl⟩ := of_if hg
    rw [Bool.and_eq_true] at hz
    obtain ⟨as, ra⟩ := hx.reads I hz.1 rx
    obtain ⟨bs, rb⟩ := Rep.reads (ρ := ρ) (n := PLN + 1) I (show (D.lst ds).pl (PLN + 1) = true by simp only [D.pl]; exact hz.2) (.lst r1 h1) ry
    simp only [D.toPy] at rb
    refine in_list_data rb ra (plainAll_of hz.2) (plain_of hz.1) ?_ ⟨.bl _, H, I, rfl, ?_⟩
    · have := depth_of hz.1; have z : PLN = 40 := rfl; omega
    · rw [any_py hz.1 hz.2]; exact q _ fun _ _ => .bl _
  case tup a vs ds r1 h1 =>
    obtain ⟨hz, rfl⟩ := of_if hg
    rw [Bool.and_eq_true] at hz
    obtain ⟨as, ra⟩ := hx.reads I hz.1 rx
    obtain ⟨bs, rb⟩ := Rep.reads (ρ := ρ) (n := PLN + 1) I (show (D.tup ds).pl (PLN + 1) = true by simp only [D.pl]; exact hz.2) (.tup r1 h1) ry
    simp only [D.toPy] at rb
    refine in_tuple_data rb ra (plainAll_of hz.2) (plain_of hz.1) ?_ ⟨.bl _, H, I, rfl, ?_⟩
    · have := depth_of hz.1; have z : PLN = 40 := rfl; omega
    · rw [any_py hz.1 hz.2]; exact q _ fun _ _ => .bl _
theorem bop_nin : BopD X (compareOp .NotIn) ninD := by
  intro pins s σ H x y v u Q ρ m d e r I rx ry hx hy hg q
  cases hy <;> simp only [ninD] at hg <;> try (cases hg; done)
  case lst a vs ds r1 h1 =>
    obtain ⟨hz, rfl⟩ := of_if hg
    rw [Bool.and_eq_true] at hz
    obtain ⟨as, ra⟩ := hx.reads I hz.1 rx
    obtain ⟨bs, rb⟩ := Rep.reads (ρ := ρ) (n := PLN + 1) I (show (D.lst ds).pl (PLN + 1) = true by simp only [D.pl]; exact hz.2) (.lst r1 h1) ry
    simp only [D.toPy] at rb
    refine notIn_list_data rb ra (plainAll_of hz.2) (plain_of hz.1) ?_ ⟨.bl _, H, I, rfl, ?_⟩
    · have := depth_of hz.1; have z : PLN = 40 := rfl; omega
    · rw [any_py hz.1 hz.2]; exact q _ fun _ _ => .bl _
  case tup a vs ds r1 h1 =>
    obtain ⟨hz, rfl⟩ := of_if hg
    rw [Bool.and_eq_true] at hz
    obtain ⟨as, ra⟩ := hx.reads I hz.1 rx
    obtain ⟨bs, rb⟩ := Rep.reads (ρ := ρ) (n := PLN + 1) I (show (D.tup ds).pl (PLN + 1) = true by simp only [D.pl]; exact hz.2) (.tup r1 h1) ry
    simp only [D.toPy] at rb
    refine notIn_tuple_data rb ra (plainAll_of hz.2) (plain_of hz.1) ?_ ⟨.bl _, H, I, rfl, ?_⟩
    · have := depth_of hz.1; have z : PLN = 40 := rfl; omega
    · rw [any_py hz.1 hz.2]; exact q _ fun _ _ => .bl _
end
end
end Pv
end
section
set_option Elab.async false
set_option linter.all false
set_option maxRecDepth 100000
/-! Pv4: expressions: reading of what is one's own, calls of built-ins, displays, subscripts, tests. -/
namespace Pv
open PySem L2 PySem.W PyProof.Rows PySem.SeqAt
/-- a value, or a list of one's own that is only read -/
def BRep (K : PySem.W.Frag) (ρ : List Addr) (Hs H : Hp) (v : V) (d : D) : Prop := Rep K ρ Hs v d ∨ ∃ a, v = .ref a ∧ Own K ρ Hs H a d ∧ Hs a = none ∧ a ∉ ρ ∧ H a ≠ none
section
variable {K : PySem.W.Frag} {ρ ρ' : List Addr} {Hs H Hs' H' : Hp} {v : V} {d : D} {m : Mu}
theorem BRep.mono (t : Tr ρ Hs H ρ' Hs' H') (h : BRep K ρ Hs H v d) : BRep K ρ' Hs' H' v d := by
  rcases h with h | ⟨a, e, h2, h3, h4, h6⟩
  · exact .inl (h.mono t.pre t.sub)
  · refine .inr ⟨a, e, h2.mono t h4, ?_, ?_, fun z => h6 (t.dom a z)⟩
    · cases q : Hs' a with
      | none => rfl
      | some o =>
        rcases t.new a o q with z | z
        · rw [h3] at z; cases z
        · exact (h2.nw z).elim
    · intro q
      rcases t.bnew a q with z | z
      · exact h4 z
      · exact h6 z
theorem BRep.full (b : Bs K ρ m Hs H) (h : BRep K ρ Hs H v d) : Rep K ρ H v d := by
  rcases h with h | ⟨a, rfl, o, _, _, _⟩
  · exact h.mono (.refl _) b.sub
  · cases o with
    | lst h r => exact .lst h (r.mono (.refl _) b.sub)
    | dK h k r => exact .dK h k (r.mono (.refl _) b.sub)
    | dT h k r => exact .dT (.inl h) k (r.mono (.refl _) b.sub)
theorem BRep.itemsK {kvs : List (D × D)} (b : Bs K ρ m Hs H) (h : BRep K ρ Hs H v (.dct false kvs)) : ∃ a, ∃ es : List (Key × V), v = .ref a ∧ H a = some (.dK es) ∧ kvs.map (·.1) = es.map (fun e => kD e.1) ∧ RepAll K ρ Hs (es.map (·.2)) (kvs.map (·.2)) := by
  rcases h with h | ⟨a, rfl, o, _, _, _⟩
  · cases h with
    | dK h k r => exact ⟨_, _, rfl, b.sub _ _ h, k, r⟩
  · cases o with
    | dK h k r => exact ⟨_, _, rfl, h, k, r⟩
theorem BRep.itemsTk {kvs : List (D × D)} (b : Bs K ρ m Hs H) (h : BRep K ρ Hs H v (.dct true kvs)) : ∃ a, ∃ es : List (List Key × V), v = .ref a ∧ Rd H a (.dT es) ∧ kvs.map (·.1) = es.map (fun e => tD e.1) ∧ RepAll K ρ Hs (es.map (·.2)) (kvs.map (·.2)) := by
  rcases h with h | ⟨a, rfl, o, _, _, _⟩
  · cases h with
    | dT h k r => exact ⟨_, _, rfl, b.sub.rd h, k, r⟩
  · cases o with
    | dT h k r => exact ⟨_, _, rfl, .inl h, k, r⟩
theorem BRep.items {ds : List D} (b : Bs K ρ m Hs H) (h : BRep K ρ Hs H v (.lst ds)) : ∃ a vs, v = .ref a ∧ H a = some (.lst vs) ∧ RepAll K ρ Hs vs ds := by
  rcases h with h | ⟨a, rfl, o, _, _, _⟩
  · cases h with
    | lst h r => exact ⟨_, _, rfl, b.sub _ _ h, r⟩
  · cases o with
    | lst h r => exact ⟨_, _, rfl, h, r⟩
theorem BRep.itemsT {ds : List D} (b : Bs K ρ m Hs H) (h : BRep K ρ Hs H v (.tup ds)) : ∃ a vs, v = .ref a ∧ SqT K H a vs ∧ RepAll K ρ Hs vs ds ∧ Rep K ρ Hs v (.tup ds) := by
  rcases h with h | ⟨a, rfl, o, _, _, _⟩
  · cases h with
    | tup h r => exact ⟨_, _, rfl, sqt (h.sub b.sub), r, .tup h r⟩
  · cases o
end
def OutW (K : PySem.W.Frag) (mg : Str → Option Value) (W : Value → Option Addr → Hp → Prop) (r : R D) (ρ : List Addr) (Hs H : Hp) (Q : VK) : Prop := match r with
  | .ok d m => ∀ v ρ' Hs' H', Tr ρ Hs H ρ' Hs' H' → Bs K ρ' m Hs' H' → BRep K ρ' Hs' H' v d → Q v H'
  | .exc c fs m => ∀ cls dx ρ' Hs' H', Tr ρ Hs H ρ' Hs' H' → Bs K ρ' m Hs' H' → EOk K mg ρ' Hs' cls dx c fs → W cls dx H'
  | .bad => False
def cW (X : Cx) (H0 : Hp) (W : WX) (ω : List Md) (c : EC) : TE := fun σ H Q => ∃ Γ m ρ Hs, Bs X.K ρ m Hs H ∧ En X.K H0 ω Γ ρ Hs H σ ∧ OutW X.K X.mg (fun cls dx H' => W cls dx σ H') (c Γ m) ρ Hs H Q
abbrev BV (X : Cx) (H0 : Hp) (W : WX) (ω : List Md) (e : Expr) (c : EC) : Prop := PE X e (cW X H0 W ω c)
/-- the state behind a part that is read -/
def AftW (K : PySem.W.Frag) (ρ : List Addr) (Hs H : Hp) (G : D → Mu → List Addr → Hp → Hp → Prop) : V → Hp → Prop := fun v H1 =>
  ∃ a m ρ1 Hs1, Tr ρ Hs H ρ1 Hs1 H1 ∧ Bs K ρ1 m Hs1 H1 ∧ BRep K ρ1 Hs1 H1 v a ∧ G a m ρ1 Hs1 H1
section
variable {f : Bool} {K : PySem.W.Frag} {mg : Str → Option Value} {W : Value → Option Addr → Hp → Prop} {ρ ρ1 : List Addr} {Hs H Hs1 H1 : Hp}
theorem OutW.mono {r : R D} {Q Q' : VK} (h : OutW K mg W r ρ Hs H Q) (q : ∀ v H', Q v H' → Q' v H') : OutW K mg W r ρ Hs H Q' := by
  cases r with
  | ok a m => exact fun v ρ' Hs' H' t' b rp => q _ _ (h v ρ' Hs' H' t' b rp)
  | exc c fs m => exact h
  | bad => exact h
theorem OutB.bindW {r : R D} {g : D → Mu → R D} {Q : VK} (h : OutB f K mg W (r.bind g) ρ Hs H Q) :
    OutW K mg W r ρ Hs H (AftW K ρ Hs H fun a m ρ1 Hs1 H1 => OutB f K mg W (g a m) ρ1 Hs1 H1 Q) := by
  cases r with
  | ok a m => exact fun v ρ' Hs' H' t b rp => ⟨a, m, ρ', Hs', t, b, rp, OutB.tr t h⟩
  | exc c fs m => exact h
  | bad => exact h
theorem Out.bindW {β γ : Type} {Rp : List Addr → Hp → β → γ → Prop} {r : R D} {g : D → Mu → R γ} {Q : β → Hp → Prop} (h : Out K mg Rp W (r.bind g) ρ Hs H Q) :
    OutW K mg W r ρ Hs H (AftW K ρ Hs H fun a m ρ1 Hs1 H1 => Out K mg Rp W (g a m) ρ1 Hs1 H1 Q) := by
  cases r with
  | ok a m => exact fun v ρ' Hs' H' t b rp => ⟨a, m, ρ', Hs', t, b, rp, Out.tr t h⟩
  | exc c fs m => exact h
  | bad => exact h
end
section
variable {X : Cx} {H0 : Hp} {W : WX} {ω : List Md} {e a b : Expr} {es : List Expr} {c ca cb : EC} {f : Bool} {pos p : Pos} {x : Str} {id T : String}
theorem EV.bv (h : EV X H0 W ω e c) : BV X H0 W ω e c := PE.imp h fun σ H Q ⟨Γ, m, ρ, Hs, b, en, o⟩ => ⟨Γ, m, ρ, Hs, b, en, by
  cases hc : c Γ m with
  | ok d m' => rw [hc] at o; exact fun v ρ' Hs' H' t b' r => o v ρ' Hs' H' t b' (.inl r)
  | exc c fs m' => rw [hc] at o; exact o
  | bad => rw [hc] at o; exact o⟩
/-- a list of one's own, read -/
theorem bv_own (i : Nat) {x : Str} {p : Pos} (hw : ω[i]? = some .ow := by rfl) (hN : X.N[i]? = some x := by rfl) (hv : Vis X.env.scope x := by first | exact Or.inl rfl | exact Or.inr (Or.inl rfl) | exact Or.inr (Or.inr rfl)) (hd : (x == ("__debug__" : Str)) = false := by decide)
    (hcd : (x == ("__classdict__" : Str)) = false := by decide) : BV X H0 W ω (.Name x p) (cVar i) := PE.imp (pe_var hN hv hd hcd) fun σ H Q ⟨Γ, m, ρ, Hs, b, en, o⟩ => by
  obtain ⟨a, h1, h2, h3, h4, h5, h6⟩ := en.ow i hw
  exact ⟨.ref a, h1, o _ ρ Hs H (.refl ..) b (.inr ⟨a, rfl, h2, h3, h4, h6⟩)⟩
/-! ### comparisons of what is read -/
theorem c2_readW {g : Mu → D → D → Option D} {σ : L2.St} {H : Hp} {Q : VK} (h : cEB f X H0 W ω (c2 g ca cb) σ H Q) :
    cW X H0 W ω ca σ H fun x H1 => cW X H0 W ω cb σ H1 fun y H2 => ∃ W d e m ρ Hs, Bs X.K ρ m Hs H2 ∧ BRep X.K ρ Hs H2 x d ∧ BRep X.K ρ Hs H2 y e ∧ OutB f X.K X.mg W (R.of (g m d e) m) ρ Hs H2 Q := by
  obtain ⟨Γ, m, ρ, Hs, b, en, o⟩ := h
  refine ⟨Γ, m, ρ, Hs, b, en, OutW.mono (OutB.bindW o) fun v H1 ⟨d, m1, ρ1, Hs1, t1, b1, r1, o1⟩ => ?_⟩
  exact ⟨Γ, m1, ρ1, Hs1, b1, en.mono t1, OutW.mono (OutB.bindW o1) fun w H2 ⟨d2, m2, ρ2, Hs2, t2, b2, r2, o2⟩ => ⟨_, d, d2, m2, ρ2, Hs2, b2, r1.mono t2, r2, o2⟩⟩
theorem bop_opr {op : Value → Value → Sem Value} {g : Mu → D → D → Option D} (h : BopD X op g) : OpR X op fun x y H Q => ∃ W d e m ρ Hs, Bs X.K ρ m Hs H ∧ BRep X.K ρ Hs H x d ∧ BRep X.K ρ Hs H y e ∧ OutB false X.K X.mg W (R.of (g m d e) m) ρ Hs H Q := by
  intro pins s σ H x y v u Q I rx ry ⟨W, d, e, m, ρ, Hs, b, hx, hy, o⟩
  obtain ⟨r, hg, o⟩ := OutB.of o
  exact h pins s σ H x y v u Q ρ m d e r I rx ry (hx.full b) (hy.full b) hg fun z hz => o.val b (hz _ _)
theorem bv_cmp {op : CmpOp} {g : Mu → D → D → Option D} (ho : BopD X (compareOp op) g) (ha : BV X H0 W ω a ca) (hb : BV X H0 W ω b cb) (hm : behindInMarks op b = false) : EV X H0 W ω (.Compare a [op] [b] pos) (c2 g ca cb) :=
  EB.ev (PE.imp (pe_cmpR (bop_opr ho) ha hb hm) fun σ H Q h => c2_readW h)
/-! ### calls of built-ins with one argument -/
def c1 (g : Mu → D → Option D) (ca : EC) : EC := fun Γ m => (ca Γ m).bind fun d m1 => R.of (g m1 d) m1
/-- a reading r of one value holds where g answers -/
def RdD (f : Bool) (X : Cx) (r : V → Hp → VK → Prop) (g : Mu → D → Option D) : Prop :=
  ∀ (x : V) (H : Hp) (Q : VK) (W : Value → Option Addr → Hp → Prop) (ρ : List Addr) (m : Mu) (Hs : Hp) (d z : D), Bs X.K ρ m Hs H → BRep X.K ρ Hs H x d → g m d = some z → OutB f X.K X.mg W (.ok z m) ρ Hs H Q → r x H Q
theorem c1_read {g : Mu → D → Option D} {r : V → Hp → VK → Prop} {σ : L2.St} {H : Hp} {Q : VK} (hr : RdD f X r g) (h : cEB f X H0 W ω (c1 g ca) σ H Q) : cW X H0 W ω ca σ H fun x H1 => r x H1 Q := by
  obtain ⟨Γ, m, ρ, Hs, b, en, o⟩ := h
  refine ⟨Γ, m, ρ, Hs, b, en, OutW.mono (OutB.bindW o) fun v H1 ⟨d, m1, ρ1, Hs1, t1, b1, r1, o1⟩ => ?_⟩
  obtain ⟨z, hg, o1⟩ := OutB.of o1
  exact hr v H1 Q _ ρ1 m1 Hs1 d z b1 r1 hg o1
theorem ev_callB {g : Mu → D → Option D} {r : List V → Hp → VK → Prop} (hc : CallR X (.builtin id) r) (hr : RdD f X (fun x H Q => r [x] H Q) g) (hg : Gl X x) (hm : X.mg x = none) (hv : bootBuiltins x = some (.builtin id)) (ha : BV X H0 W ω a ca)
    (hn : x ≠ "__name__" := by decide) (hdb : (x == ("__debug__" : Str)) = false := by decide) (he : starEach [a] X.env = [(false, eval a X.env)] := by rfl) : EB f X H0 W ω (.Call (.Name x p) [a] [] pos) (c1 g ca) :=
  PE.imp (pe_callB hc hg hm hv (pa_cons ha pa_nil he) hn hdb he) fun σ H Q h => c1_read hr h
theorem ev_callT {g : Mu → D → Option D} {r : List V → Hp → VK → Prop} (hc : CallR X (.type T) r) (hr : RdD f X (fun x H Q => r [x] H Q) g) (hg : Gl X x) (hm : X.mg x = none) (hv : bootBuiltins x = some (.type T)) (ha : BV X H0 W ω a ca)
    (hn : x ≠ "__name__" := by decide) (hdb : (x == ("__debug__" : Str)) = false := by decide) (he : starEach [a] X.env = [(false, eval a X.env)] := by rfl) : EB f X H0 W ω (.Call (.Name x p) [a] [] pos) (c1 g ca) :=
  PE.imp (pe_callTy hc hg hm hv (pa_cons ha pa_nil he) hn hdb he) fun σ H Q h => c1_read hr h
end
section
variable {X : Cx} {f : Bool}
def lenD : Mu → D → Option D
  | _, .lst xs => some (.int xs.length)
  | _, .tup xs => some (.int xs.length)
  | _, .scr xs => some (.int xs.length)
  | _, .str x => if szOk x.length then some (.int x.length) else none
  | _, _ => none
theorem rd_len : RdD false X (fun x H Q => ∃ y n, [x] = [y] ∧ LenV X.K y H n ∧ Q (.int n) H) lenD := by
  intro x H Q W ρ m Hs d z b hx hg o
  cases d <;> simp only [lenD] at hg <;> try (cases hg; done)
  case str y => obtain ⟨hz, rfl⟩ := of_if hg; rcases hx with hx | ⟨_, _, hx, _⟩ <;> cases hx; exact ⟨_, y.length, rfl, ⟨szOk_le hz, rfl⟩, o.val b (.int _)⟩
  case lst ds =>
    cases hg
    obtain ⟨a, vs, rfl, h1, h2⟩ := hx.items b
    refine ⟨_, vs.length, rfl, .inl ⟨vs, .inl (.inl h1), rfl⟩, ?_⟩
    rw [h2.length]; exact o.val b (.int _)
  case tup ds =>
    cases hg
    obtain ⟨a, vs, rfl, h1, h2, _⟩ := hx.itemsT b
    refine ⟨_, vs.length, rfl, .inr ⟨vs, h1, rfl⟩, ?_⟩
    rw [h2.length]; exact o.val b (.int _)
  case scr ns =>
    cases hg
    rcases hx with hx | ⟨_, _, hx, _⟩ <;> cases hx
    rename_i a hq
    refine ⟨_, (ns.map V.int).length, rfl, .inl ⟨_, b.sub.l hq, rfl⟩, ?_⟩
    rw [List.length_map]; exact o.val b (.int _)
def absD : Mu → D → Option D
  | _, .int i => some (.int (if i < 0 then -i else i))
  | _, _ => none
theorem rd_abs : RdD false X (fun x H Q => ∃ i, [x] = [.int i] ∧ Q (.int (if i < 0 then -i else i)) H) absD := by
  intro x H Q W ρ m Hs d z b hx hg o
  cases d <;> simp only [absD] at hg <;> try (cases hg; done)
  cases hg
  rcases hx with hx | ⟨_, _, hx, _⟩ <;> cases hx
  exact ⟨_, rfl, o.val b (.int _)⟩
def intD : Mu → D → Option D
  | _, .int i => some (.int i)
  | _, .bl k => some (.int (if k then 1 else 0))
  | _, _ => none
theorem rd_int : RdD false X (fun x H Q => (∃ i, [x] = [.int i] ∧ Q (.int i) H) ∨ ∃ k, [x] = [.bl k] ∧ Q (.int (if k then 1 else 0)) H) intD := by
  intro x H Q W ρ m Hs d z b hx hg o
  cases d <;> simp only [intD] at hg <;> try (cases hg; done)
  · cases hg
    rcases hx with hx | ⟨_, _, hx, _⟩ <;> cases hx
    exact .inr ⟨_, rfl, o.val b (.int _)⟩
  · cases hg
    rcases hx with hx | ⟨_, _, hx, _⟩ <;> cases hx
    exact .inl ⟨_, rfl, o.val b (.int _)⟩
/-- a list of truth values | of numbers -/
def blsOf : List D → Option (List Bool)
  | [] => some []
  | .bl b :: xs => (blsOf xs).map (b :: ·)
  | _ => none
def intsOf : List D → Option (List Int)
  | [] => some []
  | .int b :: xs => (intsOf xs).map (b :: ·)
  | _ => none
theorem blsOf_eq : ∀ {xs : List D} {bs : List Bool}, blsOf xs = some bs → xs = bs.map D.bl
  | [], _, h => by simp [blsOf] at h; subst h; rfl
  | .bl b :: xs, bs, h => by
    simp only [blsOf, Option.map_eq_some_iff] at h
    obtain ⟨cs, h1, rfl⟩ := h
    rw [blsOf_eq h1]; rfl
  | .non :: _, _, h | .int _ :: _, _, h | .str _ :: _, _, h | .lst _ :: _, _, h | .tup _ :: _, _, h | .dct _ _ :: _, _, h | .set _ :: _, _, h | .exc _ _ :: _, _, h | .box _ :: _, _, h | .scr _ :: _, _, h => by simp [blsOf] at h
theorem intsOf_eq : ∀ {xs : List D} {bs : List Int}, intsOf xs = some bs → xs = bs.map D.int
  | [], _, h => by simp [intsOf] at h; subst h; rfl
  | .int b :: xs, bs, h => by
    simp only [intsOf, Option.map_eq_some_iff] at h
    obtain ⟨cs, h1, rfl⟩ := h
    rw [intsOf_eq h1]; rfl
  | .non :: _, _, h | .bl _ :: _, _, h | .str _ :: _, _, h | .lst _ :: _, _, h | .tup _ :: _, _, h | .dct _ _ :: _, _, h | .set _ :: _, _, h | .exc _ _ :: _, _, h | .box _ :: _, _, h | .scr _ :: _, _, h => by simp [intsOf] at h
theorem blsOf_map : ∀ bs : List Bool, blsOf (bs.map D.bl) = some bs
  | [] => rfl
  | b :: bs => by simp [blsOf, blsOf_map bs]
theorem intsOf_map : ∀ bs : List Int, intsOf (bs.map D.int) = some bs
  | [] => rfl
  | b :: bs => by simp [intsOf, intsOf_map bs]
theorem RepAll.bls {K : PySem.W.Frag} {ρ : List Addr} {H : Hp} : ∀ {vs : List V} {bs : List Bool}, RepAll K ρ H vs (bs.map D.bl) → vs = bs.map V.bl
  | _, [], .nil => rfl
  | _, b :: bs, .cons h r => by cases h; rw [RepAll.bls r]; rfl
theorem RepAll.ints' {K : PySem.W.Frag} {ρ : List Addr} {H : Hp} : ∀ {vs : List V} {bs : List Int}, RepAll K ρ H vs (bs.map D.int) → vs = bs.map V.int
  | _, [], .nil => rfl
  | _, b :: bs, .cons h r => by cases h; rw [RepAll.ints' r]; rfl
def allD : Mu → D → Option D
  | _, .lst xs => (blsOf xs).map fun bs => .bl (bs.all id)
  | _, _ => none
def anyD : Mu → D → Option D
  | _, .lst xs => (blsOf xs).map fun bs => .bl (bs.any id)
  | _, _ => none
theorem rd_all : RdD false X (fun x H Q => rAll X.K [x] H Q) allD := by
  intro x H Q W ρ m Hs d z b hx hg o
  cases d <;> simp only [allD] at hg <;> try (cases hg; done)
  case lst ds =>
    obtain ⟨bs, hb, rfl⟩ := Option.map_eq_some_iff.mp hg
    obtain ⟨a, vs, rfl, h1, h2⟩ := hx.items b
    rw [blsOf_eq hb] at h2
    rw [h2.bls] at h1
    exact ⟨a, bs, rfl, .inl (.inl h1), o.val b (.bl _)⟩
theorem rd_any : RdD false X (fun x H Q => rAny X.K [x] H Q) anyD := by
  intro x H Q W ρ m Hs d z b hx hg o
  cases d <;> simp only [anyD] at hg <;> try (cases hg; done)
  case lst ds =>
    obtain ⟨bs, hb, rfl⟩ := Option.map_eq_some_iff.mp hg
    obtain ⟨a, vs, rfl, h1, h2⟩ := hx.items b
    rw [blsOf_eq hb] at h2
    rw [h2.bls] at h1
    exact ⟨a, bs, rfl, .inl (.inl h1), o.val b (.bl _)⟩
/-- list(x) -/
def listD : Mu → D → Option D
  | _, .lst xs => some (.lst xs)
  | _, .tup xs => some (.lst xs)
  | _, _ => none
theorem rd_list : RdD f X (fun x H Q => ∃ p ys, [x] = [.ref p] ∧ (SqL X.K H p ys ∨ SqT X.K H p ys) ∧ ∀ l, H l = none → Q (.ref l) (upd H l (.lst ys))) listD := by
  intro x H Q W ρ m Hs d z b hx hg o
  cases d <;> simp only [listD] at hg <;> try (cases hg; done)
  case lst ds =>
    cases hg
    obtain ⟨a, vs, rfl, h1, h2⟩ := hx.items b
    exact ⟨a, vs, rfl, .inl (.inl (.inl h1)), fun l hl => OutB.newL b h2 o hl⟩
  case tup ds =>
    cases hg
    obtain ⟨a, vs, rfl, h1, h2, _⟩ := hx.itemsT b
    exact ⟨a, vs, rfl, .inr h1, fun l hl => OutB.newL b h2 o hl⟩
def tupleD : Mu → D → Option D
  | _, .lst xs => some (.tup xs)
  | _, .tup xs => some (.tup xs)
  | _, _ => none
theorem rd_tuple : RdD false X (fun x H Q => ∃ p ys, [x] = [.ref p] ∧ ((SqL X.K H p ys ∧ NewT ys H Q) ∨ (SqT X.K H p ys ∧ Q (.ref p) H))) tupleD := by
  intro x H Q W ρ m Hs d z b hx hg o
  cases d <;> simp only [tupleD] at hg <;> try (cases hg; done)
  case lst ds =>
    cases hg
    obtain ⟨a, vs, rfl, h1, h2⟩ := hx.items b
    exact ⟨a, vs, rfl, .inl ⟨.inl (.inl h1), OutB.newT b h2 o⟩⟩
  case tup ds =>
    cases hg
    obtain ⟨a, vs, rfl, h1, h2, h3⟩ := hx.itemsT b
    exact ⟨a, vs, rfl, .inr ⟨h1, o.val b h3⟩⟩
end
end Pv
end
section
set_option Elab.async false
set_option linter.all false
set_option maxRecDepth 100000
/-! Pv5: displays, subscripts, slices, isinstance, tests, calls' arguments. -/
namespace Pv
open PySem L2 PySem.W PyProof.Rows PySem.SeqAt
section
variable {X : Cx} {H0 : Hp} {W : WX} {ω : List Md} {e a b : Expr} {es : List Expr} {c ca cb : EC} {cs : Gam → Mu → R (List D)} {f : Bool} {pos p : Pos} {x : Str} {id T : String}
/-! ### arguments, displays -/
def aNil : Gam → Mu → R (List D) := fun _ m => .ok [] m
def aCons (ca : EC) (cs : Gam → Mu → R (List D)) : Gam → Mu → R (List D) := fun Γ m => (ca Γ m).bind fun d m1 => (cs Γ m1).bind fun ds m2 => .ok (d :: ds) m2
/-- the items of a list or tuple -/
def itemsD : Mu → D → Option (List D)
  | _, .lst xs => some xs
  | _, .tup xs => some xs
  | _, _ => none
def aStar (ca : EC) (cs : Gam → Mu → R (List D)) : Gam → Mu → R (List D) := fun Γ m => (ca Γ m).bind fun d m1 => (R.of (itemsD m1 d) m1).bind fun xs m1 => (cs Γ m1).bind fun ds m2 => .ok (xs ++ ds) m2
theorem av_nil : AV X H0 W ω [] aNil := PA.imp pa_nil fun σ H Q ⟨Γ, m, ρ, Hs, b, en, o⟩ => o [] ρ Hs H (.refl ..) b .nil
theorem av_cons (ha : EV X H0 W ω a ca) (hs : AV X H0 W ω es cs) (he : starEach (a :: es) X.env = (false, eval a X.env) :: starEach es X.env := by rfl) : AV X H0 W ω (a :: es) (aCons ca cs) :=
  PA.imp (pa_cons ha hs he) fun σ H Q ⟨Γ, m, ρ, Hs, b, en, o⟩ => ⟨Γ, m, ρ, Hs, b, en, Out.mono (Out.bind o) fun v H1 ⟨d, m1, ρ1, Hs1, t1, b1, r1, o1⟩ =>
    ⟨Γ, m1, ρ1, Hs1, b1, en.mono t1, Out.mono (Out.bind o1) fun vs H2 ⟨ds, m2, ρ2, Hs2, t2, b2, r2, o2⟩ => o2 _ ρ2 Hs2 H2 (.refl ..) b2 (.cons (r1.mono t2.pre t2.sub) r2)⟩⟩
theorem items_of {K : PySem.W.Frag} {ρ : List Addr} {Hs H : Hp} {v : V} {d : D} {m : Mu} {xs : List D} (b : Bs K ρ m Hs H) (h : BRep K ρ Hs H v d) (hi : itemsD m d = some xs) : ∃ a vs, v = .ref a ∧ (SqT K H a vs ∨ SqL K H a vs) ∧ RepAll K ρ Hs vs xs := by
  cases d <;> simp only [itemsD] at hi <;> try (cases hi; done)
  · cases hi
    obtain ⟨a, vs, h1, h2, h3⟩ := h.items b
    exact ⟨a, vs, h1, .inr (.inl (.inl h2)), h3⟩
  · cases hi
    obtain ⟨a, vs, h1, h2, h3, _⟩ := h.itemsT b
    exact ⟨a, vs, h1, .inl h2, h3⟩
theorem Out.of {α β : Type} {K : PySem.W.Frag} {mg : Str → Option Value} {Rp : List Addr → Hp → β → α → Prop} {W : Value → Option Addr → Hp → Prop} {ρ : List Addr} {Hs H : Hp} {Q : β → Hp → Prop} {γ : Type} {o : Option γ} {m : Mu} {g : γ → Mu → R α} (h : Out K mg Rp W ((R.of o m).bind g) ρ Hs H Q) : ∃ r, o = some r ∧ Out K mg Rp W (g r m) ρ Hs H Q := by
  cases o with
  | none => exact h.elim
  | some r => exact ⟨r, rfl, h⟩
theorem av_star (ha : BV X H0 W ω a ca) (hs : AV X H0 W ω es cs) (he : starEach (.Starred a p :: es) X.env = (true, eval a X.env) :: starEach es X.env := by rfl) : AV X H0 W ω (.Starred a p :: es) (aStar ca cs) :=
  PA.imp (StX.pa_star ha hs he) fun σ H Q ⟨Γ, m, ρ, Hs, b, en, o⟩ => ⟨Γ, m, ρ, Hs, b, en, OutW.mono (Out.bindW o) fun v H1 ⟨d, m1, ρ1, Hs1, t1, b1, r1, o1⟩ => by
    obtain ⟨xs, hi, o1⟩ := Out.of o1
    obtain ⟨a', vs, rfl, h1, h2⟩ := items_of b1 r1 hi
    exact ⟨a', vs, rfl, h1, Γ, m1, ρ1, Hs1, b1, en.mono t1, Out.mono (Out.bind o1) fun ws H2 ⟨ds, m2, ρ2, Hs2, t2, b2, r2, o2⟩ => o2 _ ρ2 Hs2 H2 (.refl ..) b2 ((h2.mono t2.pre t2.sub).append r2)⟩⟩
theorem OutB.guard {K : PySem.W.Frag} {mg : Str → Option Value} {W : Value → Option Addr → Hp → Prop} {ρ : List Addr} {Hs H : Hp} {Q : VK} {k : Bool} {d : D} {m : Mu} (h : OutB f K mg W (if k = true then .ok d m else .bad) ρ Hs H Q) : k = true ∧ OutB f K mg W (.ok d m) ρ Hs H Q := by
  cases k with
  | true => exact ⟨rfl, h⟩
  | false => exact h.elim
def cLst (cs : Gam → Mu → R (List D)) : EC := fun Γ m => (cs Γ m).bind fun ds m1 => if szOk ds.length then .ok (.lst ds) m1 else .bad
def cTup (cs : Gam → Mu → R (List D)) : EC := fun Γ m => (cs Γ m).bind fun ds m1 => if szOk ds.length then .ok (.tup ds) m1 else .bad
theorem ev_lst (hs : AV X H0 W ω es cs) : EB f X H0 W ω (.List es pos) (cLst cs) :=
  PE.imp (pe_lst hs) fun σ H Q ⟨Γ, m, ρ, Hs, b, en, o⟩ => ⟨Γ, m, ρ, Hs, b, en, Out.mono (OutB.bind o) fun vs H1 ⟨ds, m1, ρ1, Hs1, t1, b1, r1, o1⟩ => by
    obtain ⟨hz, o1⟩ := OutB.guard o1
    exact ⟨by rw [r1.length]; exact szOk_le hz, fun q hq => OutB.newL b1 r1 o1 hq⟩⟩
theorem ev_tup {x1} (hs : AV X H0 W ω es cs) : EV X H0 W ω (.Tuple es x1 pos) (cTup cs) :=
  EB.ev (PE.imp (pe_tupN hs) fun σ H Q ⟨Γ, m, ρ, Hs, b, en, o⟩ => ⟨Γ, m, ρ, Hs, b, en, Out.mono (OutB.bind o) fun vs H1 ⟨ds, m1, ρ1, Hs1, t1, b1, r1, o1⟩ => by
    obtain ⟨hz, o1⟩ := OutB.guard o1
    exact ⟨by rw [r1.length]; exact szOk_le hz, OutB.newT b1 r1 o1⟩⟩)
/-! ### subscripts -/
def ixD : Mu → D → D → Option D
  | _, .lst xs, .int i => atI xs i
  | _, .tup xs, .int i => atI xs i
  | _, .scr ns, .int i => (atI ns i).map .int
  | m, .box n, .int i => (m[n]?).bind fun xs => atI xs i
  | _, _, _ => none
theorem RepAll.atI {K : PySem.W.Frag} {ρ : List Addr} {H : Hp} {vs : List V} {ds : List D} {i : Int} {d : D} (h : RepAll K ρ H vs ds) (hd : L2.atI ds i = some d) : ∃ v, L2.atI vs i = some v ∧ Rep K ρ H v d := by
  unfold L2.atI at hd ⊢
  rw [h.length]
  cases hx : ixN ds.length i with
  | none => rw [hx] at hd; cases hd
  | some j => rw [hx] at hd; exact h.get' hd
theorem ix_all : IxR X fun x y H Q => ∃ W d e m ρ Hs, Bs X.K ρ m Hs H ∧ BRep X.K ρ Hs H x d ∧ BRep X.K ρ Hs H y e ∧ OutB false X.K X.mg W (R.of (ixD m d e) m) ρ Hs H Q := by
  intro value slice pins s σ H x y v u Q I rx ry ⟨W, d, e, m, ρ, Hs, b, hx, hy, o⟩ hs
  obtain ⟨r, hg, o'⟩ := OutB.of o
  cases e <;> (cases d <;> simp only [ixD] at hg <;> try (cases hg; done))
  all_goals (rcases hy with hy | ⟨_, _, hy, _⟩ <;> cases hy)
  case int.lst ds =>
    obtain ⟨a, vs, rfl, h1, h2⟩ := hx.items b
    obtain ⟨w, h3, h4⟩ := h2.atI hg
    exact ix_list value slice pins s σ H _ _ v u Q I rx ry ⟨a, vs, _, w, rfl, rfl, .inl (.inl h1), h3, o'.val b h4⟩ hs
  case int.tup ds =>
    obtain ⟨a, vs, rfl, h1, h2, _⟩ := hx.itemsT b
    obtain ⟨w, h3, h4⟩ := h2.atI hg
    exact ix_tup value slice pins s σ H _ _ v u Q I rx ry ⟨a, vs, _, w, rfl, rfl, h1, h3, o'.val b h4⟩ hs
  case int.box n =>
    rcases hx with hx | ⟨_, _, hx, _⟩ <;> cases hx
    rename_i a hr
    obtain ⟨ds, hm, hg⟩ := Option.bind_eq_some_iff.mp hg
    obtain ⟨a', vs, q1, q2, q3, q4⟩ := b.bx n ds hm
    rw [hr] at q1
    cases q1
    obtain ⟨w, h3, h4⟩ := q4.atI hg
    exact ix_list value slice pins s σ H _ _ v u Q I rx ry ⟨a, vs, _, w, rfl, rfl, .inl (.inl q3), h3, o'.val b h4⟩ hs
  case int.scr ns =>
    rcases hx with hx | ⟨_, _, hx, _⟩ <;> cases hx
    rename_i i a hr
    obtain ⟨k, hk, rfl⟩ := Option.map_eq_some_iff.mp hg
    have h3 : L2.atI (ns.map V.int) i = some (.int k) := by
      unfold L2.atI at hk ⊢
      rw [List.length_map]
      cases hx : ixN ns.length i with
      | none => rw [hx] at hk; cases hk
      | some j => rw [hx] at hk; show (ns.map V.int)[j]? = _; rw [List.getElem?_map, show ns[j]? = some k from hk]; rfl
    exact ix_list value slice pins s σ H _ _ v u Q I rx ry ⟨a, _, _, _, rfl, rfl, b.sub.l hr, h3, o'.val b (.int _)⟩ hs
theorem ev_ix (ha : BV X H0 W ω a ca) (hb : BV X H0 W ω b cb) (hs : PlainIx b := by exact fun _ _ => rfl) : EV X H0 W ω (.Subscript a b pos) (c2 ixD ca cb) :=
  EB.ev (PE.imp (pe_ix ix_all ha hb hs) fun σ H Q h => c2_readW h)
/-! ### slices -/
def cutG {α : Type} (xs : List α) (lo hi : Option Int) : List α := (xs.drop (HT.sIx xs.length 0 lo)).take (HT.sIx xs.length xs.length hi - HT.sIx xs.length 0 lo)
theorem RepAll.cut {K : PySem.W.Frag} {ρ : List Addr} {H : Hp} {vs : List V} {ds : List D} (h : RepAll K ρ H vs ds) (lo hi : Option Int) : RepAll K ρ H (cutV vs lo hi) (cutG ds lo hi) := by
  unfold cutV cutG
  rw [h.length]
  exact (h.drop _).take _
def cPO (X : Cx) (H0 : Hp) (W : WX) (ω : List Md) (c : Gam → Mu → R (Option Int)) : TO := fun σ H Q => ∃ Γ m ρ Hs, Bs X.K ρ m Hs H ∧ En X.K H0 ω Γ ρ Hs H σ ∧ Out X.K X.mg (fun _ _ b a => b = a) (fun cls dx H' => W cls dx σ H') (c Γ m) ρ Hs H Q
abbrev OV (X : Cx) (H0 : Hp) (W : WX) (ω : List Md) (e : Option Expr) (c : Gam → Mu → R (Option Int)) : Prop := PO X e (cPO X H0 W ω c)
theorem PO.imp {X : Cx} {e : Option Expr} {t t' : TO} (h : PO X e t) (q : ∀ σ H Q, t' σ H Q → t σ H Q) : PO X e t' := ⟨fun pins s σ H Q I z => h.run pins s σ H Q I (q _ _ _ z)⟩
def oNone : Gam → Mu → R (Option Int) := fun _ m => .ok none m
def asInt : D → Option Int
  | .int i => some i
  | _ => none
def oSome (c : EC) : Gam → Mu → R (Option Int) := fun Γ m => (c Γ m).bind fun d m1 => (R.of (asInt d) m1).bind fun i m1 => .ok (some i) m1
theorem ov_none : OV X H0 W ω none oNone := PO.imp po_none fun σ H Q ⟨Γ, m, ρ, Hs, b, en, o⟩ => o _ ρ Hs H (.refl ..) b rfl
theorem ov_some (h : EV X H0 W ω e c) : OV X H0 W ω (some e) (oSome c) := PO.imp (po_some h) fun σ H Q ⟨Γ, m, ρ, Hs, b, en, o⟩ => ⟨Γ, m, ρ, Hs, b, en, Out.mono (Out.bind o) fun v H1 ⟨d, m1, ρ1, Hs1, t1, b1, r1, o1⟩ => by
  obtain ⟨i, hi, o1⟩ := Out.of o1
  cases d <;> simp only [asInt] at hi <;> try (cases hi; done)
  cases hi
  cases r1
  exact ⟨i, rfl, o1 _ ρ1 Hs1 H1 (.refl ..) b1 rfl⟩⟩
def slD : Mu → D → Option Int → Option Int → Option D
  | _, .lst xs, lo, hi => some (.lst (cutG xs lo hi))
  | _, .tup xs, lo, hi => some (.tup (cutG xs lo hi))
  | _, .scr ns, lo, hi => some (.lst ((cutG ns lo hi).map .int))
  | _, _, _, _ => none
def SlD (f : Bool) (X : Cx) (g : Mu → D → Option Int → Option Int → Option D) : Prop :=
  SlR X fun x lo hi H Q => ∃ W d m ρ Hs, Bs X.K ρ m Hs H ∧ BRep X.K ρ Hs H x d ∧ OutB f X.K X.mg W (R.of (g m d lo hi) m) ρ Hs H Q
theorem cutV_ints (ns : List Int) (lo hi : Option Int) : cutV (ns.map V.int) lo hi = (cutG ns lo hi).map V.int := by
  unfold cutV cutG
  rw [List.length_map, List.map_take, List.map_drop]
theorem sl_all : SlD false X slD := by
  intro pins s σ H x v vl vu lo hi sl Q I rx hs pl pu ⟨W, d, m, ρ, Hs, b, hx, o⟩
  obtain ⟨r, hg, o⟩ := OutB.of o
  cases d <;> simp only [slD] at hg <;> try (cases hg; done)
  case lst ds =>
    cases hg
    obtain ⟨a, vs, rfl, h1, h2⟩ := hx.items b
    exact sl_list pins s σ H _ v vl vu lo hi sl Q I rx hs pl pu ⟨a, vs, rfl, .inl (.inl h1), fun q hq => OutB.newL b (h2.cut lo hi) o hq⟩
  case tup ds =>
    cases hg
    obtain ⟨a, vs, rfl, h1, h2, h3⟩ := hx.itemsT b
    refine sl_tupN pins s σ H _ v vl vu lo hi sl Q I rx hs pl pu ⟨a, vs, rfl, h1, fun ⟨z1, z2⟩ => ?_, fun _ => OutB.newT b (h2.cut lo hi) o⟩
    have e : cutG ds lo hi = ds := by
      unfold cutG
      rw [← h2.length, z1, z2, h2.length]
      simp
    rw [e] at o
    exact o.val b h3
  case scr ns =>
    cases hg
    rcases hx with hx | ⟨_, _, hx, _⟩ <;> cases hx
    rename_i a hr
    exact sl_list pins s σ H _ v vl vu lo hi sl Q I rx hs pl pu ⟨a, _, rfl, b.sub.l hr, fun q hq => by rw [cutV_ints]; exact OutB.newL b (RepAll.ints _) o hq⟩
def cSl (g : Mu → D → Option Int → Option Int → Option D) (ca : EC) (cl ch : Gam → Mu → R (Option Int)) : EC := fun Γ m => (ca Γ m).bind fun d m1 => (cl Γ m1).bind fun lo m2 => (ch Γ m2).bind fun hi m3 => R.of (g m3 d lo hi) m3
theorem ev_sl {g : Mu → D → Option Int → Option Int → Option D} {lo hi : Option Expr} {cl ch : Gam → Mu → R (Option Int)} {p2 : Pos} (hr : SlD f X g) (ha : BV X H0 W ω a ca) (hl : OV X H0 W ω lo cl) (hh : OV X H0 W ω hi ch) :
    EB f X H0 W ω (.Subscript a (.Slice lo hi none p2) pos) (cSl g ca cl ch) :=
  PE.imp (pe_slice hr ha hl hh) fun σ H Q ⟨Γ, m, ρ, Hs, b, en, o⟩ => ⟨Γ, m, ρ, Hs, b, en, OutW.mono (OutB.bindW o) fun v H1 ⟨d, m1, ρ1, Hs1, t1, b1, r1, o1⟩ =>
    ⟨Γ, m1, ρ1, Hs1, b1, en.mono t1, Out.mono (OutB.bind o1) fun l H2 ⟨lo, m2, ρ2, Hs2, t2, b2, e2, o2⟩ =>
      ⟨Γ, m2, ρ2, Hs2, b2, (en.mono t1).mono t2, Out.mono (OutB.bind o2) fun l' H3 ⟨hi, m3, ρ3, Hs3, t3, b3, e3, o3⟩ => ⟨_, d, m3, ρ3, Hs3, b3, (r1.mono t2).mono t3, by subst e2 e3; exact o3⟩⟩⟩⟩
end
end Pv
end
section
set_option Elab.async false
set_option linter.all false
set_option maxRecDepth 100000
/-! Pv6: isinstance, truth, tests, conditional expressions, calls of the program's own defs. -/
namespace Pv
open PySem L2 PySem.W PyProof.Rows PySem.SeqAt
/-! ### isinstance -/
inductive Ty where
  | int | bool | str | list | tuple
def Ty.nm : Ty → String
  | .int => "int" | .bool => "bool" | .str => "str" | .list => "list" | .tuple => "tuple"
def isi : Ty → D → Option Bool
  | .int, .int _ => some true
  | .int, .bl _ => some true
  | .bool, .bl _ => some true
  | .str, .str _ => some true
  | .list, .lst _ => some true
  | .list, .scr _ => some true
  | .tuple, .tup _ => some true
  | _, .non | _, .bl _ | _, .int _ | _, .str _ | _, .lst _ | _, .tup _ | _, .scr _ | _, .exc _ _ => some false
  | _, _ => none
def kindN : D → Option String
  | .non => some "NoneType" | .bl _ => some "bool" | .int _ => some "int" | .str _ => some "str" | .lst _ => some "list" | .tup _ => some "tuple" | .scr _ => some "list"
  | _ => none
def isExc : D → Bool
  | .exc _ _ => true
  | _ => false
theorem isi_kit {t : Ty} {d : D} {k : Bool} (he : isExc d = false) (h : isi t d = some k) : ∃ n, kindN d = some n ∧ kitB n t.nm = some k := by
  cases t <;> cases d <;> simp only [isi] at h <;> try (cases h; done)
  all_goals first | (cases h; exact ⟨_, rfl, by decide +kernel⟩) | cases he
section
variable {X : Cx} {H0 : Hp} {W : WX} {ω : List Md} {e a b : Expr} {es : List Expr} {c ca cb : EC} {cs : Gam → Mu → R (List D)} {f : Bool} {pos p : Pos} {x : Str} {id T : String}
theorem tyx_of {K : PySem.W.Frag} {ρ : List Addr} {H : Hp} {v : V} {d : D} {n : String} (h : Rep K ρ H v d) (hn : kindN d = some n) : TyX K H v (.type n) := by
  cases h <;> simp only [kindN] at hn <;> try (cases hn; done)
  all_goals cases hn
  case non => exact .base .non
  case bl => exact .base (.bl _)
  case int => exact .base (.int _)
  case str => exact .base (.str _)
  case lst h _ => exact .base (.lst h)
  case tup h _ =>
    rcases h.rd with h | ⟨o, h⟩
    · exact .base (.tup h)
    · exact .fTuple h
  case scr h =>
    rcases h with (h | ⟨o, h⟩) | ⟨o, its, n, h, hc, _⟩
    · exact .base (.lst h)
    · exact .base (.frz h)
    · exact .kList h hc
/-- isinstance of an error of the program's own -/
def rIsX (K : PySem.W.Frag) : List V → Hp → VK → Prop := fun xs H Q => ∃ (a : Addr) (c : String) (dx : Option Addr) (y : V) (cv : Value) (b : Bool), xs = [.ref a, y] ∧ xcB K c = true ∧ H a = some (ExT (clA K c) dx a) ∧ (∀ d, dx = some d → ∃ fs, H d = some (.xd fs)) ∧ (∀ u, RelV y u → u = cv) ∧ PySem.W.kitOne K (clA K c) cv = some b ∧ Q (.bl b) H
theorem xc_kit {K : PySem.W.Frag} {c : String} (h : xcB K c = true) {x : Addr} {ox : Obj} {od : Option Obj} : KitX K (.ref x) (clA K c) (fun h => InstAt h x ox (He.ga K (Str.ofString c)) od) := by
  unfold xcB at h
  simp only [Bool.and_eq_true, decide_eq_true_eq] at h
  obtain ⟨⟨⟨⟨⟨⟨⟨⟨⟨⟨⟨⟨h1, h2⟩, h3⟩, h4⟩, h5⟩, h6⟩, h7⟩, h8⟩, h9⟩, h10⟩, h11⟩, h12⟩, h13⟩ := h
  exact kitx_exc h1 h2 h3 h4 h5 h6 h7 h8
theorem xc_ty {K : PySem.W.Frag} {c : String} (h : xcB K c = true) (t : Ty) : PySem.W.kitOne K (clA K c) (.type t.nm) = some false := by
  unfold xcB at h
  simp only [Bool.and_eq_true, decide_eq_true_eq] at h
  obtain ⟨⟨⟨⟨⟨⟨⟨⟨⟨⟨⟨⟨h1, h2⟩, h3⟩, h4⟩, h5⟩, h6⟩, h7⟩, h8⟩, h9⟩, h10⟩, h11⟩, h12⟩, h13⟩ := h
  have := List.all_eq_true.mp h9 t.nm (by cases t <;> decide)
  exact of_decide_eq_true this
theorem xc_kt {K : PySem.W.Frag} {c : String} (h : xcB K c = true) : PySem.W.keepIn K (clA K c) = true ∧ PySem.W.typeIn K (clA K c) = some (.type "type") ∧ PySem.W.subIn K (clA K c) (.type "BaseException") = some true := by
  unfold xcB at h
  simp only [Bool.and_eq_true, decide_eq_true_eq] at h
  obtain ⟨⟨⟨⟨⟨⟨⟨⟨⟨⟨⟨⟨h1, h2⟩, h3⟩, h4⟩, h5⟩, h6⟩, h7⟩, h8⟩, h9⟩, h10⟩, h11⟩, h12⟩, h13⟩ := h
  exact ⟨h13, h12, h4⟩
theorem xd_get {P : Program} {w : World} {H : Hp} {h : Heap} {d : Addr} {fs : List (Str × V)} (x : ObjOk P w H h d (.xd fs)) : ∃ o, h.get? d = some o := by
  obtain ⟨_, ⟨o, _, _, e, _⟩, _⟩ := x
  exact ⟨o, e⟩
theorem call_isX : CallR X (.builtin "isinstance") (rIsX X.K) := by
  intro pins s σ H xs us Q I r h
  obtain ⟨a, c, dx, y, cv, b, rfl, hx, ha, hd, hcv, e, q⟩ := h
  cases r with
  | cons rx rr =>
    cases rr with
    | cons rt rr =>
      cases rr
      cases rx
      have ec := hcv _ rt
      subst ec
      obtain ⟨⟨oe, vs, hg, hz, hf⟩, _⟩ := I.hok a _ ha
      have J : ∃ od, InstAt s.heap a oe (He.ga X.K (Str.ofString c)) od := by
        cases hdx : dx with
        | none => exact ⟨none, hg, hz.1, by unfold notCls; rw [hf] <;> rfl, by rw [hz.2, hdx]; trivial⟩
        | some d =>
          obtain ⟨fs, hfs⟩ := hd d hdx
          obtain ⟨o, ho⟩ := xd_get (I.hok d _ hfs)
          exact ⟨some o, hg, hz.1, by unfold notCls; rw [hf] <;> rfl, by rw [hz.2, hdx]; exact ho⟩
      obtain ⟨od, J⟩ := J
      exact kia_one (xc_kit hx) I.kIn J e (fun z => nomatch z) fun tk => ⟨.bl b, H, I.kept (t' := tk) fun _ _ z => z, rfl, q⟩
theorem CallR.or {v : Value} {r r' : List V → Hp → VK → Prop} (h : CallR X v r) (h' : CallR X v r') : CallR X v (fun xs H Q => r xs H Q ∨ r' xs H Q) := fun pins s σ H xs us Q I rr z => z.elim (h pins s σ H xs us Q I rr) (h' pins s σ H xs us Q I rr)
theorem isx_read {K : PySem.W.Frag} {ρ : List Addr} {H : Hp} {v : V} {c : String} {fs : List D} {T : String} {b : Bool} {Q : VK} (h : Rep K ρ H v (.exc c fs)) (hk : xcB K c = true → PySem.W.kitOne K (clA K c) (.type T) = some b) (q : Q (.bl b) H) : rIsX K [v, .ty T] H Q := by
  cases h with
  | exc0 x h => exact ⟨_, c, none, .ty T, .type T, b, rfl, x, h, (fun _ z => nomatch z), fun u z => z, hk x, q⟩
  | exc1 x h k r => exact ⟨_, c, some _, .ty T, .type T, b, rfl, x, h, (fun d z => by cases z; exact ⟨_, k⟩), fun u z => z, hk x, q⟩
def isiD (t : Ty) (_ : Mu) (d : D) : Option D := (isi t d).map .bl
theorem ev_isi (t : Ty) {q : Pos} {y : Str} (ha : BV X H0 W ω a ca) (hm : X.mg "isinstance" = none) (hmT : X.mg y = none) (hvT : bootBuiltins y = some (.type t.nm)) (hg : Gl X "isinstance" := by rfl) (hgT : Gl X y := by rfl) (hnT : y ≠ "__name__" := by decide) (hdT : (y == ("__debug__" : Str)) = false := by decide)
    (he : starEach [a, .Name y q] X.env = (false, eval a X.env) :: starEach [.Name y q] X.env := by rfl) (he2 : starEach [.Name y q] X.env = [(false, eval (.Name y q) X.env)] := by rfl) (hpl : (backTo pos (starEach [.Name y q] X.env)).any (·.1) = false := by rfl) :
    EV X H0 W ω (.Call (.Name "isinstance" p) [a, .Name y q] [] pos) (c1 (isiD t) ca) :=
  EB.ev (PE.imp (pe_callB (CallR.or call_isi call_isX) hg hm (by decide +kernel) (pa_cons ha (pa_cons (pe_bltn (v := .ty t.nm) hgT hmT hvT rfl hnT hdT) pa_nil he2) he) (by decide) (by decide) he hpl) fun σ H Q h =>
    c1_read (r := fun x H Q => rIsi X.K [x, .ty t.nm] H Q ∨ rIsX X.K [x, .ty t.nm] H Q) (fun v H Q W ρ m Hs d z b hx hg o => by
      obtain ⟨k, hk, rfl⟩ := Option.map_eq_some_iff.mp hg
      cases he : isExc d with
      | true =>
        cases d <;> try (cases he; done)
        case exc c fs =>
          have ek : k = false := by cases t <;> (simp only [isi] at hk; cases hk; rfl)
          subst ek
          exact .inr (isx_read (hx.full b) (fun x => xc_ty x t) (o.val b (.bl _)))
      | false =>
      obtain ⟨n, h1, h2⟩ := isi_kit he hk
      exact .inl ⟨v, .ty t.nm, .type n, .type t.nm, k, rfl, .ty _, tyx_of (hx.full b) h1, kit_ty h2, o.val b (.bl _)⟩) h)
def isi2D (t u : Ty) (_ : Mu) (d : D) : Option D := match isExc d, isi t d, isi u d with
  | false, some k, some l => some (.bl (k || l))
  | _, _, _ => none
theorem ev_isi2 (t u : Ty) {q q' q2 : Pos} {y y' : Str} {kk : Nat} (ha : BV X H0 W ω a ca) (hm : X.mg "isinstance" = none) (hmT : X.mg y = none) (hvT : bootBuiltins y = some (.type t.nm)) (hmU : X.mg y' = none) (hvU : bootBuiltins y' = some (.type u.nm)) (hg : Gl X "isinstance" := by rfl) (hgT : Gl X y := by rfl) (hnT : y ≠ "__name__" := by decide) (hdT : (y == ("__debug__" : Str)) = false := by decide)
    (hgU : Gl X y' := by rfl) (hnU : y' ≠ "__name__" := by decide) (hdU : (y' == ("__debug__" : Str)) = false := by decide)
    (he : starEach [a, .Tuple [.Name y q, .Name y' q'] kk q2] X.env = (false, eval a X.env) :: starEach [.Tuple [.Name y q, .Name y' q'] kk q2] X.env := by rfl) (he2 : starEach [.Tuple [.Name y q, .Name y' q'] kk q2] X.env = [(false, eval (.Tuple [.Name y q, .Name y' q'] kk q2) X.env)] := by rfl) (hpl : (backTo pos (starEach [.Tuple [.Name y q, .Name y' q'] kk q2] X.env)).any (·.1) = false := by rfl)
    (he3 : starEach [.Name y q, .Name y' q'] X.env = (false, eval (.Name y q) X.env) :: starEach [.Name y' q'] X.env := by rfl) (he4 : starEach [.Name y' q'] X.env = [(false, eval (.Name y' q') X.env)] := by rfl) :
    EV X H0 W ω (.Call (.Name "isinstance" p) [a, .Tuple [.Name y q, .Name y' q'] kk q2] [] pos) (c1 (isi2D t u) ca) :=
  EB.ev (PE.imp (pe_callB call_isiT hg hm (by decide +kernel) (pa_cons ha (pa_cons (pe_tup (pa_cons (pe_bltn (v := .ty t.nm) hgT hmT hvT rfl hnT hdT) (pa_cons (pe_bltn (v := .ty u.nm) hgU hmU hvU rfl hnU hdU) pa_nil he4) he3)) pa_nil he2) he) (by decide) (by decide) he hpl) fun σ H Q h =>
    c1_read (r := fun x H Q => [V.ty t.nm, .ty u.nm].length ≤ sizeLine ∧ ∀ q, H q = none → rIsiT X.K [x, .ref q] (upd H q (.tup [.ty t.nm, .ty u.nm])) Q) (fun v H Q W ρ m Hs d z b hx hg o => by
      refine ⟨by show 2 ≤ sizeLine; decide, fun q hq => ?_⟩
      unfold isi2D at hg
      split at hg
      case h_2 => cases hg
      case h_1 k l he hk hl =>
        cases hg
        obtain ⟨n, h1, h2⟩ := isi_kit he hk
        obtain ⟨n', h1', h2'⟩ := isi_kit he hl
        rw [h1] at h1'
        cases h1'
        have tr : Tr ρ Hs H ρ Hs (upd H q (.tup [.ty t.nm, .ty u.nm])) := tr_newF hq
        have b' := Bs.newF (o := .tup [.ty t.nm, .ty u.nm]) b hq
        refine ⟨v, q, _, .type n, [.type t.nm, .type u.nm], k || l, rfl, upd_same, .cons (.ty _) (.cons (.ty _) .nil), tyx_of ((hx.mono tr).full b') h1, ?_, (o.tr tr).val b' (.bl _)⟩
        refine kitAny_cons (kit_ty h2) (fun z => ?_) (fun z => by rw [z]; rfl)
        refine kitAny_cons (kit_ty h2') (fun z' => ?_) (fun z' => by rw [z, z']; rfl)
        rw [z, z']
        rfl) h)
/-! ### truth -/
def truD : Mu → D → Option Bool
  | _, .non => some false
  | _, .bl k => some k
  | _, .int i => some (i != 0)
  | _, .str y => if szOk y.length then some ((y.length : Int) != 0) else none
  | _, .lst xs => some (!xs.isEmpty)
  | _, .tup xs => some (!xs.isEmpty)
  | _, _ => none
theorem RepAll.emp {K : PySem.W.Frag} {ρ : List Addr} {H : Hp} {vs : List V} {ds : List D} (h : RepAll K ρ H vs ds) : vs.isEmpty = ds.isEmpty := by cases h <;> rfl
theorem tru_of {K : PySem.W.Frag} {ρ : List Addr} {Hs H : Hp} {m m' : Mu} {v : V} {d : D} {k : Bool} (b : Bs K ρ m Hs H) (h : BRep K ρ Hs H v d) (hk : truD m' d = some k) : TruV K v H k := by
  cases d <;> simp only [truD] at hk <;> try (cases hk; done)
  case non => cases hk; rcases h with h | ⟨_, _, h, _⟩ <;> cases h; rfl
  case bl => cases hk; rcases h with h | ⟨_, _, h, _⟩ <;> cases h; rfl
  case int => cases hk; rcases h with h | ⟨_, _, h, _⟩ <;> cases h; rfl
  case str => obtain ⟨hz, rfl⟩ := of_if hk; rcases h with h | ⟨_, _, h, _⟩ <;> cases h; exact ⟨szOk_le hz, rfl⟩
  case lst ds =>
    cases hk
    obtain ⟨a, vs, rfl, h1, h2⟩ := h.items b
    exact .inl ⟨vs, .inl (.inl h1), by rw [h2.emp]⟩
  case tup ds =>
    cases hk
    obtain ⟨a, vs, rfl, h1, h2, _⟩ := h.itemsT b
    exact .inr (.inl ⟨vs, h1, by rw [h2.emp]⟩)
abbrev TC := Gam → Mu → R Bool
def tTru (c : EC) : TC := fun Γ m => (c Γ m).bind fun d m1 => R.of (truD m1 d) m1
theorem Out.ofV {α β : Type} {K : PySem.W.Frag} {mg : Str → Option Value} {Rp : List Addr → Hp → β → α → Prop} {W : Value → Option Addr → Hp → Prop} {ρ : List Addr} {Hs H : Hp} {Q : β → Hp → Prop} {o : Option α} {m : Mu} (h : Out K mg Rp W (R.of o m) ρ Hs H Q) : ∃ r, o = some r ∧ Out K mg Rp W (.ok r m) ρ Hs H Q := by
  cases o with
  | none => exact h.elim
  | some r => exact ⟨r, rfl, h⟩
theorem tv_val (h : BV X H0 W ω e c) (he : ∀ whole, isTrue e X.env whole = (do let v ← whole; standAt e.pos; holding [v] (truthy v)) := by intro _; rfl) : TV X H0 W ω e (tTru c) :=
  PT.imp (pt_truth h he) fun σ H Q ⟨Γ, m, ρ, Hs, b, en, o⟩ => ⟨Γ, m, ρ, Hs, b, en, OutW.mono (Out.bindW o) fun v H1 ⟨d, m1, ρ1, Hs1, t1, b1, r1, o1⟩ => by
    obtain ⟨k, hk, o1⟩ := Out.ofV o1
    exact ⟨k, tru_of b1 r1 hk, o1 k ρ1 Hs1 H1 (.refl ..) b1 rfl⟩⟩
abbrev WV (X : Cx) (H0 : Hp) (W : WX) (ω : List Md) (e : Expr) (c : TC) : Prop := PW X e (cT X H0 W ω c)
theorem PW.imp {X : Cx} {e : Expr} {t t' : TT} (h : PW X e t) (q : ∀ σ H Q, t' σ H Q → t σ H Q) : PW X e t' := ⟨fun wh pins s σ H Q I z => h.run wh pins s σ H Q I (q _ _ _ z)⟩
variable {ta tb : TC} {rest : List Expr}
def tAnd' (ta tb : TC) : TC := fun Γ m => (ta Γ m).bind fun k m1 => if k then tb Γ m1 else .ok false m1
def tOr' (ta tb : TC) : TC := fun Γ m => (ta Γ m).bind fun k m1 => if k then .ok true m1 else tb Γ m1
def tNot' (ta : TC) : TC := fun Γ m => (ta Γ m).bind fun k m1 => .ok (!k) m1
theorem wv_and1 (ha : TV X H0 W ω a ta) : WV X H0 W ω (.BoolOp .And [a] pos) ta := pw_and1 ha
theorem wv_or1 (ha : TV X H0 W ω a ta) : WV X H0 W ω (.BoolOp .Or [a] pos) ta := pw_or1 ha
theorem wv_and (ha : TV X H0 W ω a ta) (hb : WV X H0 W ω (.BoolOp .And (b :: rest) pos) tb) : WV X H0 W ω (.BoolOp .And (a :: b :: rest) pos) (tAnd' ta tb) :=
  PW.imp (pw_and ha hb) fun σ H Q ⟨Γ, m, ρ, Hs, b, en, o⟩ => ⟨Γ, m, ρ, Hs, b, en, Out.mono (Out.bind o) fun v H1 ⟨k, m1, ρ1, Hs1, t1, b1, e1, o1⟩ => by
    subst e1
    cases v with
    | true => exact ⟨Γ, m1, ρ1, Hs1, b1, en.mono t1, o1⟩
    | false => exact o1 false ρ1 Hs1 H1 (.refl ..) b1 rfl⟩
theorem wv_or (ha : TV X H0 W ω a ta) (hb : WV X H0 W ω (.BoolOp .Or (b :: rest) pos) tb) : WV X H0 W ω (.BoolOp .Or (a :: b :: rest) pos) (tOr' ta tb) :=
  PW.imp (pw_or ha hb) fun σ H Q ⟨Γ, m, ρ, Hs, b, en, o⟩ => ⟨Γ, m, ρ, Hs, b, en, Out.mono (Out.bind o) fun v H1 ⟨k, m1, ρ1, Hs1, t1, b1, e1, o1⟩ => by
    subst e1
    cases v with
    | false => exact ⟨Γ, m1, ρ1, Hs1, b1, en.mono t1, o1⟩
    | true => exact o1 true ρ1 Hs1 H1 (.refl ..) b1 rfl⟩
theorem tv_bool (h : WV X H0 W ω e ta) : TV X H0 W ω e ta := PW.pt h
theorem tv_not (ha : TV X H0 W ω a ta) : TV X H0 W ω (.UnaryOp .Not a pos) (tNot' ta) :=
  PT.imp (pt_not ha) fun σ H Q ⟨Γ, m, ρ, Hs, b, en, o⟩ => ⟨Γ, m, ρ, Hs, b, en, Out.mono (Out.bind o) fun v H1 ⟨k, m1, ρ1, Hs1, t1, b1, e1, o1⟩ => by
    subst e1
    exact o1 _ ρ1 Hs1 H1 (.refl ..) b1 rfl⟩
/-! ### and, or, not, a conditional, as values -/
def cIf (t : TC) (ca cb : EC) : EC := fun Γ m => (t Γ m).bind fun k m1 => if k then ca Γ m1 else cb Γ m1
theorem ev_if {q : Expr} (hq : TV X H0 W ω q ta) (ha : EB f X H0 W ω a ca) (hb : EB f X H0 W ω b cb) : EB f X H0 W ω (.IfExp q a b pos) (cIf ta ca cb) :=
  PE.imp (pe_ifExp hq ha hb) fun σ H Q ⟨Γ, m, ρ, Hs, b, en, o⟩ => ⟨Γ, m, ρ, Hs, b, en, Out.mono (OutB.bind o) fun v H1 ⟨k, m1, ρ1, Hs1, t1, b1, e1, o1⟩ => by
    subst e1
    cases v with
    | false => exact ⟨Γ, m1, ρ1, Hs1, b1, en.mono t1, o1⟩
    | true => exact ⟨Γ, m1, ρ1, Hs1, b1, en.mono t1, o1⟩⟩
def notD (m : Mu) (d : D) : Option D := (truD m d).map fun k => .bl (!k)
theorem ev_not (ha : BV X H0 W ω a ca) : EV X H0 W ω (.UnaryOp .Not a pos) (c1 notD ca) :=
  EB.ev (PE.imp (pe_notT ha) fun σ H Q h => c1_read (r := fun x H Q => ∃ k, TruV X.K x H k ∧ Q (.bl (!k)) H) (fun v H Q W ρ m Hs d z b hx hg o => by
    obtain ⟨k, hk, rfl⟩ := Option.map_eq_some_iff.mp hg
    exact ⟨k, tru_of b hx hk, o.val b (.bl _)⟩) h)
def negD : Mu → D → Option D
  | _, .int i => some (.int (-i))
  | _, _ => none
theorem ev_neg (ha : BV X H0 W ω a ca) : EV X H0 W ω (.UnaryOp .USub a pos) (c1 negD ca) :=
  EB.ev (PE.imp (pe_un un_neg ha) fun σ H Q h => c1_read (r := rU fun i => .int (-i)) (fun v H Q W ρ m Hs d z b hx hg o => by
    cases d <;> simp only [negD] at hg <;> try (cases hg; done)
    cases hg
    rcases hx with hx | ⟨_, _, hx, _⟩ <;> cases hx
    exact ⟨_, rfl, o.val b (.int _)⟩) h)
def cAnd (ca cb : EC) : EC := fun Γ m => (ca Γ m).bind fun d m1 => (R.of (truD m1 d) m1).bind fun k m1 => if k then cb Γ m1 else .ok d m1
def cOr (ca cb : EC) : EC := fun Γ m => (ca Γ m).bind fun d m1 => (R.of (truD m1 d) m1).bind fun k m1 => if k then .ok d m1 else cb Γ m1
theorem ev_one {op : BoolOp} (h : EB f X H0 W ω a ca) : EB f X H0 W ω (.BoolOp op [a] pos) ca := pe_one h
theorem ev_and (ha : EV X H0 W ω a ca) (hb : EV X H0 W ω (.BoolOp .And (b :: rest) pos) cb) : EV X H0 W ω (.BoolOp .And (a :: b :: rest) pos) (cAnd ca cb) :=
  PE.imp (pe_andT ha hb) fun σ H Q ⟨Γ, m, ρ, Hs, b, en, o⟩ => ⟨Γ, m, ρ, Hs, b, en, Out.mono (Out.bind o) fun v H1 ⟨d, m1, ρ1, Hs1, t1, b1, r1, o1⟩ => by
    obtain ⟨k, hk, o1⟩ := Out.of o1
    refine ⟨k, tru_of b1 (.inl r1) hk, ?_⟩
    cases k with
    | true => exact ⟨Γ, m1, ρ1, Hs1, b1, en.mono t1, o1⟩
    | false => exact o1 v ρ1 Hs1 H1 (.refl ..) b1 r1⟩
/-- x or y, both new lists -/
theorem ev_orF (ha : EB true X H0 W ω a ca) (hb : EB true X H0 W ω (.BoolOp .Or (b :: rest) pos) cb) : EB true X H0 W ω (.BoolOp .Or (a :: b :: rest) pos) (cOr ca cb) :=
  PE.imp (pe_orT ha hb) fun σ H Q ⟨Γ, m, ρ, Hs, b, en, o⟩ => ⟨Γ, m, ρ, Hs, b, en, by
    unfold cOr at o
    cases hc : ca Γ m with
    | bad => rw [hc] at o; exact o
    | exc c fs m' => rw [hc] at o; exact o
    | ok d m1 =>
      rw [hc] at o
      intro a' ρ1 Hs1 H1 t1 b1 o1 o2 o3 o4 o5
      have o : OutB true X.K X.mg (fun cls dx H' => W cls dx σ H') ((R.of (truD m1 d) m1).bind fun k m1 => if k = true then .ok d m1 else cb Γ m1) ρ Hs H Q := o
      cases hk : truD m1 d with
      | none => rw [hk] at o; exact o.elim
      | some k =>
        rw [hk] at o
        refine ⟨k, tru_of b1 (.inr ⟨a', rfl, o1, o2, o3, o5⟩) hk, ?_⟩
        cases k with
        | true => exact o a' ρ1 Hs1 H1 t1 b1 o1 o2 o3 o4 o5
        | false => exact ⟨Γ, m1, ρ1, Hs1, b1, en.mono t1, OutB.tr t1 o⟩⟩
/-! ### a < b < c -/
def cChain (g g' : Mu → D → D → Option D) (ca cb cc : EC) : EC := fun Γ m => (ca Γ m).bind fun d m1 => (cb Γ m1).bind fun e m2 => (R.of (g m2 d e) m2).bind fun z m2 => match z with
  | .bl true => (cc Γ m2).bind fun e' m3 => R.of (g' m3 e e') m3
  | .bl false => .ok (.bl false) m2
  | _ => .bad
/-! ### calls of the program's own defs -/
/-- the promise: the def computes G -/
def spD (K : PySem.W.Frag) (mg : Str → Option Value) (f : Bool) (n : Nat) (G : List D → Mu → R D) : Sp := fun vs H Q E => ∃ ρ m Hs ds, Bs K ρ m Hs H ∧ RepAll K ρ Hs vs ds ∧ ds.length = n ∧ OutB f K mg E (G ds m) ρ Hs H Q
def LenA (cs : Gam → Mu → R (List D)) (n : Nat) : Prop := ∀ Γ m ds m', cs Γ m = .ok ds m' → ds.length = n
theorem len_nil : LenA aNil 0 := fun Γ m ds m' h => by cases h; rfl
theorem len_cons {n : Nat} (h : LenA cs n) : LenA (aCons ca cs) (n + 1) := fun Γ m ds m' e => by
  unfold aCons at e
  cases h1 : ca Γ m with
  | bad => rw [h1] at e; cases e
  | exc c fs m' => rw [h1] at e; cases e
  | ok d m1 =>
    rw [h1] at e
    have e : ((cs Γ m1).bind fun ds m2 => R.ok (d :: ds) m2) = .ok ds m' := e
    cases h2 : cs Γ m1 with
    | bad => rw [h2] at e; cases e
    | exc c fs m' => rw [h2] at e; cases e
    | ok ds' m2 =>
      rw [h2] at e
      cases e
      rw [List.length_cons, h _ _ _ _ h2]
def cCall (G : List D → Mu → R D) (cs : Gam → Mu → R (List D)) : EC := fun Γ m => (cs Γ m).bind G
theorem ev_call {CX : CXT} {k : Nat} {fa : Addr} {fd : FuncData} {ps : List Str} {G : List D → Mu → R D} (F : FnOk X.prog X.w X.K X.mg X.base CX k fa fd ps (spD X.K X.mg f ps.length G)) (hr : Room k X.A) (hm : X.mg x = some (.ref fa)) (hk : PySem.W.keepIn X.K (.ref fa) = true)
    (hb : Binds X.K fd ps []) (hx : ∀ σ, PassesAt CX X σ (fun cls dx H' => W cls dx σ H')) (ha : AV X H0 W ω (e :: es) cs) (hl : LenA cs ps.length) (hg : Gl X x := by rfl)
    (hdb : (x == ("__debug__" : Str)) = false := by decide) (he : starEach (e :: es) X.env = (false, eval e X.env) :: starEach es X.env := by rfl) (hpl : (backTo pos (starEach es X.env)).any (·.1) = false := by rfl) :
    EB f X H0 W ω (.Call (.Name x p) (e :: es) [] pos) (cCall G cs) :=
  PE.imp (pe_callSD (E := fun σ cls dx H' => W cls dx σ H') F hr hg hm hk hb .nil hx ha hdb he hpl) fun σ H Q ⟨Γ, m, ρ, Hs, b, en, o⟩ => ⟨Γ, m, ρ, Hs, b, en, by
    unfold cCall at o
    cases hc : cs Γ m with
    | bad => rw [hc] at o; exact o
    | exc c fs m' => rw [hc] at o; exact o
    | ok ds m1 =>
      rw [hc] at o
      intro vs ρ1 Hs1 H1 t1 b1 r1
      rw [List.append_nil]
      exact ⟨ρ1, m1, Hs1, ds, b1, r1, hl _ _ _ _ hc, OutB.tr t1 o⟩⟩
theorem passes0 (σ : L2.St) {E : XK} : PassesAt CX0 X σ E := fun _ _ _ _ _ _ h => h.elim
end
end Pv
end
section
set_option Elab.async false
set_option linter.all false
set_option maxRecDepth 100000
/-! Pv7: targets, statements, what is walked, loops, comprehensions. -/
namespace Pv
open PySem L2 PySem.W PyProof.Rows PySem.SeqAt
/-! ### slots -/
section
variable {K : PySem.W.Frag} {H0 : Hp} {ω ω2 : List Md} {Γ : Gam} {ρ : List Addr} {Hs H : Hp} {σ : L2.St}
theorem getD_set_same {i : Nat} {d : D} (h : i < Γ.length) : (Γ.set i d).getD i .non = d := by
  rw [List.getD_eq_getElem?_getD, List.getElem?_set_self h]; rfl
theorem getD_set_ne {i j : Nat} {d : D} (h : i ≠ j) : (Γ.set i d).getD j .non = Γ.getD j .non := by
  rw [List.getD_eq_getElem?_getD, List.getElem?_set_ne h, List.getD_eq_getElem?_getD]
/-- a value into a slot -/
theorem En.setSh {i : Nat} {v : V} {d : D} (e : En K H0 ω Γ ρ Hs H σ) (hi : i < ω.length) (r : Rep K ρ Hs v d) : En K H0 (ω.set i .sh) (Γ.set i d) ρ Hs H (σ.set i (some v)) where
  ln := by rw [List.length_set, List.length_set]; exact e.ln
  wl := by rw [List.length_set, List.length_set]; exact e.wl
  sh j h := by
    by_cases z : i = j
    · subst z
      exact ⟨v, List.getElem?_set_self (by rw [← e.wl]; exact hi), by rw [getD_set_same (by rw [e.ln, ← e.wl]; exact hi)]; exact r⟩
    · rw [List.getElem?_set_ne z] at h
      obtain ⟨w, h1, h2⟩ := e.sh j h
      exact ⟨w, by rw [List.getElem?_set_ne z]; exact h1, by rw [getD_set_ne z]; exact h2⟩
  ow j h := by
    by_cases z : i = j
    · subst z; rw [List.getElem?_set_self hi] at h; cases h
    · rw [List.getElem?_set_ne z] at h
      obtain ⟨a, h1, h2⟩ := e.ow j h
      exact ⟨a, by rw [List.getElem?_set_ne z]; exact h1, by rw [getD_set_ne z]; exact h2⟩
  nd j k a h1 h2 h3 h4 := by
    have zj : i ≠ j := fun z => by subst z; rw [List.getElem?_set_self hi] at h1; cases h1
    have zk : i ≠ k := fun z => by subst z; rw [List.getElem?_set_self hi] at h2; cases h2
    rw [List.getElem?_set_ne zj] at h1 h3
    rw [List.getElem?_set_ne zk] at h2 h4
    exact e.nd j k a h1 h2 h3 h4
/-- a new list into a slot -/
theorem En.setOw {i : Nat} {a : Addr} {d : D} (e : En K H0 ω Γ ρ Hs H σ) (hi : i < ω.length) (o : Own K ρ Hs H a d) (h1 : Hs a = none) (h2 : a ∉ ρ) (h3 : H0 a = none) (h4 : H a ≠ none) (hne : ∀ j : Nat, ω[j]? = some Md.ow → σ[j]? ≠ some (some (V.ref a))) :
    En K H0 (ω.set i .ow) (Γ.set i d) ρ Hs H (σ.set i (some (.ref a))) where
  ln := by rw [List.length_set, List.length_set]; exact e.ln
  wl := by rw [List.length_set, List.length_set]; exact e.wl
  sh j h := by
    by_cases z : i = j
    · subst z; rw [List.getElem?_set_self hi] at h; cases h
    · rw [List.getElem?_set_ne z] at h
      obtain ⟨w, h1, h2⟩ := e.sh j h
      exact ⟨w, by rw [List.getElem?_set_ne z]; exact h1, by rw [getD_set_ne z]; exact h2⟩
  ow j h := by
    by_cases z : i = j
    · subst z
      exact ⟨a, List.getElem?_set_self (by rw [← e.wl]; exact hi), by rw [getD_set_same (by rw [e.ln, ← e.wl]; exact hi)]; exact o, h1, h2, h3, h4⟩
    · rw [List.getElem?_set_ne z] at h
      obtain ⟨b, q1, q2⟩ := e.ow j h
      exact ⟨b, by rw [List.getElem?_set_ne z]; exact q1, by rw [getD_set_ne z]; exact q2⟩
  nd j k b q1 q2 q3 q4 := by
    have hs : i < σ.length := by rw [← e.wl]; exact hi
    by_cases zj : i = j
    · by_cases zk : i = k
      · rw [← zj, ← zk]
      · subst zj
        rw [List.getElem?_set_self hs] at q3
        cases q3
        rw [List.getElem?_set_ne zk] at q2 q4
        exact absurd q4 (hne k q2)
    · by_cases zk : i = k
      · subst zk
        rw [List.getElem?_set_self hs] at q4
        cases q4
        rw [List.getElem?_set_ne zj] at q1 q3
        exact absurd q3 (hne j q1)
      · rw [List.getElem?_set_ne zj] at q1 q3
        rw [List.getElem?_set_ne zk] at q2 q4
        exact e.nd j k b q1 q2 q3 q4
/-- less is known of the slots -/
def MdLe (ω2 ω : List Md) : Bool := ω2.length == ω.length && (ω2.zip ω).all fun p => p.1 == .un || p.1 == p.2
theorem MdLe.at (h : MdLe ω2 ω = true) {i : Nat} {k : Md} (hk : k ≠ .un) (e : ω2[i]? = some k) : ω[i]? = some k := by
  unfold MdLe at h
  rw [Bool.and_eq_true, beq_iff_eq, List.all_eq_true] at h
  obtain ⟨h1, h2⟩ := h
  have hi : i < ω2.length := (List.getElem?_eq_some_iff.mp e).1
  have hi2 : i < ω.length := by rw [← h1]; exact hi
  have := h2 (ω2[i], ω[i]) (by
    rw [List.mem_iff_getElem?]
    exact ⟨i, by rw [List.getElem?_zip_eq_some]; exact ⟨List.getElem?_eq_getElem hi, List.getElem?_eq_getElem hi2⟩⟩)
  have e2 : ω2[i] = k := Option.some.inj ((List.getElem?_eq_getElem hi).symm.trans e)
  rw [Bool.or_eq_true, beq_iff_eq, beq_iff_eq] at this
  rcases this with z | z
  · exact absurd (e2.symm.trans z) hk
  · rw [List.getElem?_eq_getElem hi2]
    show some ω[i] = some k
    rw [← e2]; exact congrArg some z.symm
theorem En.weak (e : En K H0 ω Γ ρ Hs H σ) (h : MdLe ω2 ω = true) : En K H0 ω2 Γ ρ Hs H σ where
  ln := e.ln
  wl := by
    unfold MdLe at h
    rw [Bool.and_eq_true, beq_iff_eq] at h
    rw [h.1]; exact e.wl
  sh i q := e.sh i (MdLe.at h (by decide) q)
  ow i q := e.ow i (MdLe.at h (by decide) q)
  nd i j a q1 q2 := e.nd i j a (MdLe.at h (by decide) q1) (MdLe.at h (by decide) q2)
end
theorem Own.hs {K : PySem.W.Frag} {ρ : List Addr} {Hs H : Hp} {a c : Addr} {d : D} {u : HO} (h : Own K ρ Hs H c d) (h3 : Hs a = none) : Own K ρ (upd Hs a u) H c d := by
  cases h with
  | lst h r => exact .lst h (r.mono (.refl _) (Sub.new h3))
  | dK h k r => exact .dK h k (r.mono (.refl _) (Sub.new h3))
  | dT h k r => exact .dT h k (r.mono (.refl _) (Sub.new h3))
/-! ### targets -/
abbrev GC := D → Gam → Option Gam
def SameOff (is : List Nat) (σ σ' : L2.St) : Prop := σ'.length = σ.length ∧ ∀ j, j ∉ is → σ'[j]? = σ[j]?
def cG (X : Cx) (H0 : Hp) (is : List Nat) (ω ω' : List Md) (ct : GC) : TG := fun v σ H Q => ∃ Γ m ρ Hs d Γ', Bs X.K ρ m Hs H ∧ En X.K H0 ω Γ ρ Hs H σ ∧ Rep X.K ρ Hs v d ∧ ct d Γ = some Γ' ∧ ∀ σ', SameOff is σ σ' → En X.K H0 ω' Γ' ρ Hs H σ' → Q σ' H
abbrev GV (X : Cx) (H0 : Hp) (is : List Nat) (ω : List Md) (tg : Expr) (ct : GC) (ω' : List Md) : Prop := PG X tg (cG X H0 is ω ω' ct)
theorem PG.imp {X : Cx} {e : Expr} {t t' : TG} (h : PG X e t) (q : ∀ v σ H Q, t' v σ H Q → t v σ H Q) : PG X e t' := ⟨fun pins s σ H v u Q I r z => h.run pins s σ H v u Q I r (q _ _ _ _ z)⟩
theorem PGs.imp {X : Cx} {e : List Expr} {t t' : TGs} (h : PGs X e t) (q : ∀ v σ H Q, t' v σ H Q → t v σ H Q) : PGs X e t' := ⟨fun pins s σ H v u Q I r z => h.run pins s σ H v u Q I r (q _ _ _ _ z)⟩
theorem PG.or {X : Cx} {e : Expr} {t t' : TG} (h : PG X e t) (h' : PG X e t') : PG X e fun v σ H Q => t v σ H Q ∨ t' v σ H Q := ⟨fun pins s σ H v u Q I r z => z.elim (h.run pins s σ H v u Q I r) (h'.run pins s σ H v u Q I r)⟩
def gN (i : Nat) : GC := fun d Γ => some (Γ.set i d)
theorem gv_name (i : Nat) {X : Cx} {H0 : Hp} {ω : List Md} {x : Str} {pos : Pos} (hN : X.N.Nodup) (hw : i < ω.length := by decide) (hi : X.N[i]? = some x := by rfl) (hx : Loc X.env.scope x := by first | exact Or.inl rfl | exact Or.inr rfl) (hf : X.fn x = true ∨ X.env.scope.names.lookup x = some .local := by first | exact .inl rfl | exact .inr rfl | assumption) :
    GV X H0 [i] ω (.Name x pos) (gN i) (ω.set i .sh) := PG.imp (pg_name hN hi hx hf) fun v σ H Q ⟨Γ, m, ρ, Hs, d, Γ', b, en, r, e, q⟩ => by
  cases e
  refine q _ ⟨List.length_set, fun j hj => ?_⟩ (en.setSh hw r)
  rw [List.getElem?_set_ne (fun z => hj (by rw [z]; exact List.mem_singleton.mpr rfl))]
abbrev GCs := List D → Gam → Option Gam
def cGs (X : Cx) (H0 : Hp) (is : List Nat) (ω ω' : List Md) (ct : GCs) : TGs := fun vs σ H Q => ∃ Γ m ρ Hs ds Γ', Bs X.K ρ m Hs H ∧ En X.K H0 ω Γ ρ Hs H σ ∧ RepAll X.K ρ Hs vs ds ∧ ct ds Γ = some Γ' ∧ ∀ σ', SameOff is σ σ' → En X.K H0 ω' Γ' ρ Hs H σ' → Q σ' H
abbrev GVs (X : Cx) (H0 : Hp) (is : List Nat) (ω : List Md) (tg : List Expr) (ct : GCs) (ω' : List Md) : Prop := PGs X tg (cGs X H0 is ω ω' ct)
def gsNil : GCs := fun ds Γ => match ds with
  | [] => some Γ
  | _ => none
def gsCons (t : GC) (u : GCs) : GCs := fun ds Γ => match ds with
  | d :: r => (t d Γ).bind fun Γ' => u r Γ'
  | _ => none
section
variable {X : Cx} {H0 : Hp} {ω ω1 ω2 : List Md} {is js : List Nat} {t : GC} {u : GCs} {e : Expr} {es : List Expr} {pos : Pos}
theorem gvs_nil : GVs X H0 [] ω [] gsNil ω := PGs.imp pgs_nil fun v σ H Q ⟨Γ, m, ρ, Hs, d, Γ', b, en, r, e, q⟩ => by
  cases r with
  | nil => cases e; exact ⟨rfl, q σ ⟨rfl, fun _ _ => rfl⟩ en⟩
  | cons h r => cases e
theorem gvs_cons (h1 : GV X H0 is ω e t ω1) (h2 : GVs X H0 js ω1 es u ω2) (hs : (assignEach (e :: es) X.env).map (·.2) = assign e X.env :: (assignEach es X.env).map (·.2) := by rfl) : GVs X H0 (is ++ js) ω (e :: es) (gsCons t u) ω2 :=
  PGs.imp (pgs_cons h1 h2 hs) fun v σ H Q ⟨Γ, m, ρ, Hs, d, Γ', b, en, r, e, q⟩ => by
    cases r with
    | nil => cases e
    | cons h r =>
      obtain ⟨Γ1, e1, e2⟩ := Option.bind_eq_some_iff.mp e
      exact ⟨_, _, rfl, Γ, m, ρ, Hs, _, Γ1, b, en, h, e1, fun σ1 so1 en1 => ⟨Γ1, m, ρ, Hs, _, Γ', b, en1, r, e2, fun σ2 so2 en2 => q σ2 ⟨so2.1.trans so1.1, fun j hj => by
        rw [List.mem_append, not_or] at hj
        rw [so2.2 j hj.2, so1.2 j hj.1]⟩ en2⟩⟩
def gT (n : Nat) (u : GCs) : GC := fun d Γ => match d with
  | .tup ds => if ds.length = n then u ds Γ else none
  | .lst ds => if ds.length = n then u ds Γ else none
  | _ => none
theorem gv_tup {k n : Nat} (hc : X.calm = true) (h : GVs X H0 is ω es u ω2) (hn : (assignEach es X.env).length = n := by rfl) (hst : (assignEach es X.env).findIdx? (·.1) = none := by rfl) : GV X H0 is ω (.Tuple es k pos) (gT n u) ω2 :=
  PG.imp (PG.or (pg_tup hc h hn hst) (pg_lst hc h hn hst)) fun v σ H Q ⟨Γ, m, ρ, Hs, d, Γ', b, en, r, e, q⟩ => by
    cases d <;> simp only [gT] at e <;> try (cases e; done)
    case tup ds =>
      split at e
      case isFalse => cases e
      case isTrue hl =>
        cases r with
        | tup h r => exact .inl ⟨_, _, rfl, sqt (h.sub b.sub), by rw [r.length]; exact hl, Γ, m, ρ, Hs, ds, Γ', b, en, r, e, q⟩
    case lst ds =>
      split at e
      case isFalse => cases e
      case isTrue hl =>
        cases r with
        | lst h r => exact .inr ⟨_, _, rfl, .inl (.inl (b.sub _ _ h)), by rw [r.length]; exact hl, Γ, m, ρ, Hs, ds, Γ', b, en, r, e, q⟩
end
/-! ### statements -/
inductive SR where
  | nx (Γ : Gam) (m : Mu) | rt (d : D) (m : Mu) | exc (c : String) (fs : List D) (Γ : Gam) (m : Mu) | bad
abbrev SC := Gam → Mu → SR
structure Ent where
  ρ : List Addr
  Hs : Hp
  H : Hp
abbrev Ent.tr (N : Ent) (ρ : List Addr) (Hs H : Hp) : Prop := Tr N.ρ N.Hs N.H ρ Hs H
/-- a later state of the def, behind ρ, Hs -/
def Fwd (N : Ent) (ρ : List Addr) (Hs : Hp) (ρ' : List Addr) (Hs' H' : Hp) : Prop := N.tr ρ' Hs' H' ∧ Pre ρ ρ' ∧ Sub Hs Hs'
theorem Fwd.mk {N : Ent} {ρ ρ' : List Addr} {Hs H Hs' H' : Hp} (t : N.tr ρ Hs H) (t' : Tr ρ Hs H ρ' Hs' H') : Fwd N ρ Hs ρ' Hs' H' := ⟨t.trans t', t'.pre, t'.sub⟩
theorem Fwd.same {N : Ent} {ρ : List Addr} {Hs H : Hp} (t : N.tr ρ Hs H) : Fwd N ρ Hs ρ Hs H := ⟨t, .refl _, .refl _⟩
/-- ωx: what is known of the slots where an error leaves -/
def SOut (f : Bool) (X : Cx) (N : Ent) (W : WX) (ωx ω' : List Md) (ρ : List Addr) (Hs : Hp) (r : SR) (dn : Ends) : Prop := match r with
  | .nx Γ m => ∀ σ' ρ' Hs' H', Fwd N ρ Hs ρ' Hs' H' → Bs X.K ρ' m Hs' H' → En X.K N.H ω' Γ ρ' Hs' H' σ' → dn.nx σ' H'
  | .rt d m => OutB f X.K X.mg (fun _ _ _ => False) (.ok d m) N.ρ N.Hs N.H dn.rt
  | .exc c fs Γ m => ∀ cls dx σ' ρ' Hs' H', Fwd N ρ Hs ρ' Hs' H' → Bs X.K ρ' m Hs' H' → En X.K N.H ωx Γ ρ' Hs' H' σ' → EOk X.K X.mg ρ' Hs' cls dx c fs → W cls dx σ' H'
  | .bad => False
def cS (f : Bool) (X : Cx) (N : Ent) (W : WX) (ωx ω ω' : List Md) (c : SC) : TS := fun dn σ H => ∃ Γ m ρ Hs, N.tr ρ Hs H ∧ Bs X.K ρ m Hs H ∧ En X.K N.H ω Γ ρ Hs H σ ∧ SOut f X N W ωx ω' ρ Hs (c Γ m) dn
abbrev SV (f : Bool) (X : Cx) (N : Ent) (W : WX) (ωx ω : List Md) (st : Stmt) (c : SC) (ω' : List Md) : Prop := PS X st (cS f X N W ωx ω ω' c)
abbrev SVs (f : Bool) (X : Cx) (N : Ent) (W : WX) (ωx ω : List Md) (st : List Stmt) (c : SC) (ω' : List Md) : Prop := PSs X st (cS f X N W ωx ω ω' c)
def sSeq (a b : SC) : SC := fun Γ m => match a Γ m with
  | .nx Γ' m' => b Γ' m'
  | r => r
def sNil : SC := fun Γ m => .nx Γ m
section
variable {f : Bool} {X : Cx} {N : Ent} {W : WX} {ωx ω ω1 ω2 ω3 : List Md} {st : Stmt} {sts : List Stmt} {a b : SC} {c : EC} {e : Expr} {pos : Pos} {t : TC}
theorem SOut.fwd {ρ ρ' : List Addr} {Hs Hs' : Hp} {r : SR} {dn : Ends} (p : Pre ρ ρ') (s : Sub Hs Hs') (o : SOut f X N W ωx ω2 ρ Hs r dn) : SOut f X N W ωx ω2 ρ' Hs' r dn := by
  cases r with
  | nx Γ m => exact fun σ' ρ2 Hs2 H2 t b en => o σ' ρ2 Hs2 H2 ⟨t.1, p.trans t.2.1, s.trans t.2.2⟩ b en
  | rt d m => exact o
  | exc c fs Γ m => exact fun cls dx σ' ρ2 Hs2 H2 t b en e => o cls dx σ' ρ2 Hs2 H2 ⟨t.1, p.trans t.2.1, s.trans t.2.2⟩ b en e
  | bad => exact o
theorem svs_nil : SVs f X N W ωx ω [] sNil ω := PSs.imp pss_nil fun dn σ H ⟨Γ, m, ρ, Hs, t, b, en, o⟩ => o σ ρ Hs H (.same t) b en
theorem svs_cons (h1 : SV f X N W ωx ω st a ω1) (h2 : SVs f X N W ωx ω1 sts b ω2) : SVs f X N W ωx ω (st :: sts) (sSeq a b) ω2 :=
  PSs.imp (pss_cons h1 h2) fun dn σ H ⟨Γ, m, ρ, Hs, t, bs, en, o⟩ => ⟨Γ, m, ρ, Hs, t, bs, en, by
    unfold sSeq at o
    cases ha : a Γ m with
    | nx Γ' m' => rw [ha] at o; exact fun σ' ρ' Hs' H' t' b' en' => ⟨Γ', m', ρ', Hs', t'.1, b', en', SOut.fwd t'.2.1 t'.2.2 o⟩
    | rt d m' => rw [ha] at o; exact o
    | exc c fs Γ' m' => rw [ha] at o; exact o
    | bad => rw [ha] at o; exact o⟩
theorem svs_one (h1 : SV f X N W ωx ω st a ω1) : SVs f X N W ωx ω [st] a ω1 := pss_one h1
/-- a statement after which less need be known -/
theorem SOut.weak {ρ : List Addr} {Hs : Hp} {r : SR} {dn : Ends} (h : MdLe ω2 ω1 = true) (o : SOut f X N W ωx ω2 ρ Hs r dn) : SOut f X N W ωx ω1 ρ Hs r dn := by
  cases r with
  | nx Γ m => exact fun σ' ρ' Hs' H' t b en => o σ' ρ' Hs' H' t b (en.weak h)
  | rt d m => exact o
  | exc c fs Γ m => exact o
  | bad => exact o
theorem SVs.post (h1 : SVs f X N W ωx ω sts a ω1) (h : MdLe ω2 ω1 = true) : SVs f X N W ωx ω sts a ω2 := PSs.imp h1 fun dn σ H ⟨Γ, m, ρ, Hs, t, b, en, o⟩ => ⟨Γ, m, ρ, Hs, t, b, en, o.weak h⟩
theorem SVs.pre (h1 : SVs f X N W ωx ω1 sts a ω2) (h : MdLe ω1 ω = true) : SVs f X N W ωx ω sts a ω2 := PSs.imp h1 fun dn σ H ⟨Γ, m, ρ, Hs, t, b, en, o⟩ => ⟨Γ, m, ρ, Hs, t, b, en.weak h, o⟩
/-- from here on the list in slot i is a value -/
theorem En.frz {K : PySem.W.Frag} {Γ : Gam} {ρ : List Addr} {Hs H : Hp} {σ : L2.St} {m : Mu} {i : Nat} (t : N.tr ρ Hs H) (b : Bs K ρ m Hs H) (e : En K N.H ω Γ ρ Hs H σ) (hi : ω[i]? = some .ow) : ∃ Hs', N.tr ρ Hs' H ∧ Sub Hs Hs' ∧ Bs K ρ m Hs' H ∧ En K N.H (ω.set i .sh) Γ ρ Hs' H σ := by
  obtain ⟨a, h1, h2, h3, h4, h5, h6⟩ := e.ow i hi
  have hil : i < ω.length := (List.getElem?_eq_some_iff.mp hi).1
  obtain ⟨u, hu, rp, b2⟩ := own_val b h2 h3 h4
  refine ⟨upd Hs a u, ⟨t.sub.trans (Sub.new h3), fun x o q => ?_, t.pre, t.bnew, t.dom, t.same⟩, Sub.new h3, b2, ?_⟩
  · by_cases z : x = a
    · subst z; exact .inr h5
    · rw [upd_ne z] at q; exact t.new x o q
  · refine ⟨e.ln, by rw [List.length_set]; exact e.wl, fun j q => ?_, fun j q => ?_, fun j k c q1 q2 => ?_⟩
    · by_cases z : i = j
      · subst z; exact ⟨_, h1, rp⟩
      · rw [List.getElem?_set_ne z] at q
        obtain ⟨v, q1, q2⟩ := e.sh j q
        exact ⟨v, q1, q2.mono (.refl _) (Sub.new h3)⟩
    · have z : i ≠ j := fun z => by subst z; rw [List.getElem?_set_self hil] at q; cases q
      rw [List.getElem?_set_ne z] at q
      obtain ⟨c, q1, q2, q3, q4, q5, q6⟩ := e.ow j q
      have hne : c ≠ a := fun w => z (e.nd i j a hi q h1 (by rw [← w]; exact q1))
      refine ⟨c, q1, ?_, by rw [upd_ne hne]; exact q3, q4, q5, q6⟩
      exact q2.hs h3
    · have zj : i ≠ j := fun z => by subst z; rw [List.getElem?_set_self hil] at q1; cases q1
      have zk : i ≠ k := fun z => by subst z; rw [List.getElem?_set_self hil] at q2; cases q2
      rw [List.getElem?_set_ne zj] at q1
      rw [List.getElem?_set_ne zk] at q2
      exact e.nd j k c q1 q2
theorem SVs.frz (i : Nat) (h : SVs f X N W ωx (ω.set i .sh) sts a ω2) (hi : ω[i]? = some .ow := by rfl) : SVs f X N W ωx ω sts a ω2 := PSs.imp h fun dn σ H ⟨Γ, m, ρ, Hs, t, b, en, o⟩ => by
  obtain ⟨Hs', t', s', b', en'⟩ := En.frz t b en hi
  exact ⟨Γ, m, ρ, Hs', t', b', en', SOut.fwd (.refl _) s' o⟩
theorem SV.frz (i : Nat) (h : SV f X N W ωx (ω.set i .sh) st a ω2) (hi : ω[i]? = some .ow := by rfl) : SV f X N W ωx ω st a ω2 := PS.imp h fun dn σ H ⟨Γ, m, ρ, Hs, t, b, en, o⟩ => by
  obtain ⟨Hs', t', s', b', en'⟩ := En.frz t b en hi
  exact ⟨Γ, m, ρ, Hs', t', b', en', SOut.fwd (.refl _) s' o⟩
/-- how an expression's end becomes a statement's -/
def toS (r : R D) (Γ : Gam) (k : D → Mu → SR) : SR := match r with
  | .ok d m => k d m
  | .exc c fs m => .exc c fs Γ m
  | .bad => .bad
/-- from a statement's wish to its expression's -/
theorem toS_out {r : R D} {Γ : Gam} {k : D → Mu → SR} {dn : Ends} {ρ : List Addr} {Hs H : Hp} {σ : L2.St} {Q : VK} (t : N.tr ρ Hs H) (en : En X.K N.H ω Γ ρ Hs H σ) (hx : MdLe ωx ω = true) (o : SOut f X N W ωx ω2 ρ Hs (toS r Γ k) dn)
    (h : ∀ d m v ρ' Hs' H', r = .ok d m → SOut f X N W ωx ω2 ρ Hs (k d m) dn → Tr ρ Hs H ρ' Hs' H' → Bs X.K ρ' m Hs' H' → Rep X.K ρ' Hs' v d → Q v H') : Out X.K X.mg (Rep X.K) (fun cls dx H' => W cls dx σ H') r ρ Hs H Q := by
  cases r with
  | ok d m => exact fun v ρ' Hs' H' t' b' r' => h d m v ρ' Hs' H' rfl o t' b' r'
  | exc c fs m => exact fun cls dx ρ' Hs' H' t' b' e' => o cls dx σ ρ' Hs' H' (.mk t t') b' ((en.weak hx).mono t') e'
  | bad => exact o
def sSet (i : Nat) (c : EC) : SC := fun Γ m => toS (c Γ m) Γ fun d m' => .nx (Γ.set i d) m'
theorem sv_set (i : Nat) {x : Str} {pos' : Pos} (hN : X.N.Nodup) (he : EV X N.H W ω e c) (hx : MdLe ωx ω = true := by rfl) (hw : i < ω.length := by decide) (hi : X.N[i]? = some x := by rfl) (hl : Loc X.env.scope x := by first | exact Or.inl rfl | exact Or.inr rfl)
    (hs : swapsWith e (some (.Name x pos')) pos.line X.env = pure false := by rfl) (hf : X.fn x = true ∨ X.env.scope.names.lookup x = some .local := by first | exact .inl rfl | exact .inr rfl | assumption) : SV f X N W ωx ω (.Assign [.Name x pos'] e pos) (sSet i c) (ω.set i .sh) :=
  PS.imp (ps_set hN hi hl he hs hf) fun dn σ H ⟨Γ, m, ρ, Hs, t, b, en, o⟩ => ⟨Γ, m, ρ, Hs, b, en, toS_out t en hx o fun d m' v ρ' Hs' H' _ o' t' b' r' => o' _ ρ' Hs' H' (.mk t t') b' ((en.mono t').setSh hw r')⟩
/-- a new list into a slot: from here on it may be changed -/
theorem sv_setF (i : Nat) {x : Str} {pos' : Pos} (hN : X.N.Nodup) (he : EB true X N.H W ω e c) (hx : MdLe ωx ω = true := by rfl) (hw : i < ω.length := by decide) (hi : X.N[i]? = some x := by rfl) (hl : Loc X.env.scope x := by first | exact Or.inl rfl | exact Or.inr rfl)
    (hs : swapsWith e (some (.Name x pos')) pos.line X.env = pure false := by rfl) (hf : X.fn x = true ∨ X.env.scope.names.lookup x = some .local := by first | exact .inl rfl | exact .inr rfl | assumption) : SV f X N W ωx ω (.Assign [.Name x pos'] e pos) (sSet i c) (ω.set i .ow) :=
  PS.imp (ps_set hN hi hl he hs hf) fun dn σ H ⟨Γ, m, ρ, Hs, t, b, en, o⟩ => ⟨Γ, m, ρ, Hs, b, en, by
    unfold sSet at o
    cases hc : c Γ m with
    | bad => rw [hc] at o; exact o
    | exc c fs m' => rw [hc] at o; exact fun cls dx ρ' Hs' H' t' b' e' => o cls dx σ ρ' Hs' H' (.mk t t') b' ((en.weak hx).mono t') e'
    | ok d m' =>
      rw [hc] at o
      intro a ρ' Hs' H' t' b' o1 o2 o3 o4 o5
      refine o _ ρ' Hs' H' (.mk t t') b' ((en.mono t').setOw hw o1 o2 o3 (t.dom a o4) o5 fun j hj z => ?_)
      obtain ⟨a', q1, _, _, _, _, q6⟩ := en.ow j hj
      rw [q1] at z
      cases z
      exact q6 o4⟩
def sRet (c : EC) : SC := fun Γ m => toS (c Γ m) Γ fun d m' => .rt d m'
theorem sv_ret (he : EB f X N.H W ω e c) (hx : MdLe ωx ω = true := by rfl) : SV f X N W ωx ω (.Return (some e) pos) (sRet c) ω2 :=
  PS.imp (ps_ret he) fun dn σ H ⟨Γ, m, ρ, Hs, t, b, en, o⟩ => ⟨Γ, m, ρ, Hs, b, en, by
    unfold sRet at o
    cases hc : c Γ m with
    | bad => rw [hc] at o; exact o
    | exc c fs m' => rw [hc] at o; exact fun cls dx ρ' Hs' H' t' b' e' => o cls dx σ ρ' Hs' H' (.mk t t') b' ((en.weak hx).mono t') e'
    | ok d m' =>
      rw [hc] at o
      have o : OutB f X.K X.mg (fun _ _ _ => False) (.ok d m') N.ρ N.Hs N.H dn.rt := o
      cases f with
      | false => exact fun v ρ' Hs' H' t' b' r' => o v ρ' Hs' H' (t.trans t') b' r'
      | true => exact fun a ρ' Hs' H' t' b' o1 o2 o3 o4 o5 => o a ρ' Hs' H' (t.trans t') b' o1 o2 o3 (t.dom a o4) o5⟩
def sDrop (c : EC) : SC := fun Γ m => toS (c Γ m) Γ fun _ m' => .nx Γ m'
theorem sv_expr (he : EV X N.H W ω e c) (hx : MdLe ωx ω = true := by rfl) (hs : swapsWith e none pos.line X.env = pure false := by rfl) : SV f X N W ωx ω (.Expr e pos) (sDrop c) ω :=
  PS.imp (ps_expr he hs) fun dn σ H ⟨Γ, m, ρ, Hs, t, b, en, o⟩ => ⟨Γ, m, ρ, Hs, b, en, toS_out t en hx o fun d m' v ρ' Hs' H' _ o' t' b' r' => o' σ ρ' Hs' H' (.mk t t') b' (en.mono t')⟩
def toSB (r : R Bool) (Γ : Gam) (k : Bool → Mu → SR) : SR := match r with
  | .ok d m => k d m
  | .exc c fs m => .exc c fs Γ m
  | .bad => .bad
def sIf (t : TC) (a b : SC) : SC := fun Γ m => toSB (t Γ m) Γ fun k m' => if k then a Γ m' else b Γ m'
theorem sv_if {q : Expr} {as bs : List Stmt} (hq : TV X N.H W ω q t) (ha : SVs f X N W ωx ω as a ω2) (hb : SVs f X N W ωx ω bs b ω2) (hx : MdLe ωx ω = true := by rfl) : SV f X N W ωx ω (.If q as bs pos) (sIf t a b) ω2 :=
  PS.imp (ps_if hq ha hb) fun dn σ H ⟨Γ, m, ρ, Hs, tr, b, en, o⟩ => ⟨Γ, m, ρ, Hs, b, en, by
    unfold sIf at o
    cases hc : t Γ m with
    | bad => rw [hc] at o; exact o
    | exc c fs m' => rw [hc] at o; exact fun cls dx ρ' Hs' H' t' b' e' => o cls dx σ ρ' Hs' H' (.mk tr t') b' ((en.weak hx).mono t') e'
    | ok k m' =>
      rw [hc] at o
      intro k' ρ' Hs' H' t' b' e'
      subst e'
      cases k' with
      | true => exact ⟨Γ, m', ρ', Hs', tr.trans t', b', en.mono t', SOut.fwd t'.pre t'.sub o⟩
      | false => exact ⟨Γ, m', ρ', Hs', tr.trans t', b', en.mono t', SOut.fwd t'.pre t'.sub o⟩⟩
end
end Pv
end
section
set_option Elab.async false
set_option linter.all false
set_option maxRecDepth 100000
/-! Pv8: lists of one's own changed; boxes changed; walks; loops. -/
namespace Pv
open PySem L2 PySem.W PyProof.Rows PySem.SeqAt
section
variable {f : Bool} {X : Cx} {N : Ent} {W : WX} {ωx ω ω1 ω2 ω3 : List Md} {st : Stmt} {sts : List Stmt} {a b : SC} {c ck : EC} {e k : Expr} {pos : Pos} {t : TC}
/-- an object of one's own is changed -/
theorem tr_mut {ρ : List Addr} {Hs H : Hp} {a : Addr} {o : HO} (t : N.tr ρ Hs H) (h0 : N.H a = none) (h : H a ≠ none) : N.tr ρ Hs (upd H a o) where
  sub := t.sub
  new := t.new
  pre := t.pre
  bnew := t.bnew
  dom x q := by
    by_cases z : x = a
    · subst z; exact h0
    · rw [upd_ne z] at q; exact t.dom x q
  same x u n q := by
    have z : x ≠ a := fun z => by subst z; rw [h0] at q; cases q
    rw [upd_ne z]; exact t.same x u n q
theorem Bs.mut {K : PySem.W.Frag} {ρ : List Addr} {m : Mu} {Hs H : Hp} {a : Addr} {o : HO} (b : Bs K ρ m Hs H) (h1 : Hs a = none) (h2 : a ∉ ρ) : Bs K ρ m Hs (upd H a o) where
  sub x u q := by
    have z : x ≠ a := fun z => by subst z; rw [h1] at q; cases q
    rw [upd_ne z]; exact b.sub x u q
  bx n ds q := by
    obtain ⟨c, vs, q1, q2, q3, q4⟩ := b.bx n ds q
    have z : c ≠ a := fun z => h2 (by subst z; exact List.mem_of_getElem? q1)
    exact ⟨c, vs, q1, q2, by rw [upd_ne z]; exact q3, q4⟩
  nd := b.nd
  len := b.len
theorem Own.other {K : PySem.W.Frag} {ρ : List Addr} {Hs H : Hp} {a c : Addr} {d : D} {o : HO} (h : Own K ρ Hs H c d) (z : c ≠ a) : Own K ρ Hs (upd H a o) c d := by
  cases h with
  | lst h r => exact .lst (by rw [upd_ne z]; exact h) r
  | dK h k r => exact .dK (by rw [upd_ne z]; exact h) k r
  | dT h k r => exact .dT (by rw [upd_ne z]; exact h) k r
theorem En.updOw {K : PySem.W.Frag} {H0 : Hp} {Γ : Gam} {ρ : List Addr} {Hs H : Hp} {σ : L2.St} {i : Nat} {a : Addr} {o : HO} {d : D} (en : En K H0 ω Γ ρ Hs H σ) (hi : ω[i]? = some .ow) (ha : σ[i]? = some (some (.ref a))) (hn : Own K ρ Hs (upd H a o) a d) : En K H0 ω (Γ.set i d) ρ Hs (upd H a o) σ where
  ln := by rw [List.length_set]; exact en.ln
  wl := en.wl
  sh j q := by
    obtain ⟨v, q1, q2⟩ := en.sh j q
    have z : i ≠ j := fun z => by subst z; rw [hi] at q; cases q
    exact ⟨v, q1, by rw [getD_set_ne z]; exact q2⟩
  ow j q := by
    obtain ⟨c, q1, q2, q3, q4, q5, q6⟩ := en.ow j q
    by_cases z : i = j
    · subst z
      rw [ha] at q1
      cases q1
      refine ⟨a, ha, ?_, q3, q4, q5, by rw [upd_same]; exact fun z => nomatch z⟩
      rw [getD_set_same (by rw [en.ln, ← en.wl]; exact (List.getElem?_eq_some_iff.mp hi).1)]
      exact hn
    · have zc : c ≠ a := fun w => z (en.nd i j a hi q ha (by rw [← w]; exact q1))
      exact ⟨c, q1, by rw [getD_set_ne z]; exact q2.other zc, q3, q4, q5, by rw [upd_ne zc]; exact q6⟩
  nd := en.nd
theorem ownL {K : PySem.W.Frag} {ρ : List Addr} {Hs H : Hp} {a : Addr} {ds : List D} (h : Own K ρ Hs H a (.lst ds)) : ∃ vs, H a = some (.lst vs) ∧ RepAll K ρ Hs vs ds := by
  cases h with
  | lst h r => exact ⟨_, h, r⟩
def sApp (i : Nat) (c : EC) : SC := fun Γ m => match Γ.getD i .non with
  | .lst xs => toS (c Γ m) Γ fun d m' => if szOk (xs.length + 1) then .nx (Γ.set i (.lst (xs ++ [d]))) m' else .bad
  | _ => .bad
theorem SOut.guard {ρ : List Addr} {Hs : Hp} {k : Bool} {r : SR} {dn : Ends} (h : SOut f X N W ωx ω ρ Hs (if k = true then r else .bad) dn) : k = true ∧ SOut f X N W ωx ω ρ Hs r dn := by
  cases k with
  | true => exact ⟨rfl, h⟩
  | false => exact h.elim
theorem sv_app (i : Nat) {x : Str} {p apos cpos : Pos} (hi : ω[i]? = some .ow) (hx : MdLe ωx ω = true)
    (hp : PS X (.Expr (.Call (.Attribute (.Name x p) "append" apos) [e] [] cpos) pos) (tDrop (tBM X.K "list" rAppend (tVar i) (tCons (cE X N.H W ω c) tNil)))) :
    SV f X N W ωx ω (.Expr (.Call (.Attribute (.Name x p) "append" apos) [e] [] cpos) pos) (sApp i c) ω :=
  PS.imp hp fun dn σ H ⟨Γ, m, ρ, Hs, t, b, en, o⟩ => by
    unfold sApp at o
    obtain ⟨a, h1, h2, h3, h4, h5, h6⟩ := en.ow i hi
    generalize hg : Γ.getD i .non = g at o h2
    cases g <;> try exact o.elim
    rename_i xs
    obtain ⟨vs0, w0, _⟩ := ownL h2
    refine ⟨.ref a, h1, .inl ⟨rfl, _, .inl (.inl w0)⟩, Γ, m, ρ, Hs, b, en, toS_out t en hx o fun d m' v ρ' Hs' H' hq o' t' b' r' => ?_⟩
    have en' := en.mono t'
    obtain ⟨a', q1, q2, q3, q4, q5, q6⟩ := en'.ow i hi
    rw [h1] at q1
    cases q1
    rw [hg] at q2
    obtain ⟨vs, w1, w2⟩ := ownL q2
    obtain ⟨hz, o'⟩ := SOut.guard o'
    have hl : vs.length < sizeLine := by rw [w2.length]; exact szOk_le hz
    exact ⟨a, vs, v, rfl, rfl, w1, hl, o' σ ρ' Hs' _ ⟨tr_mut (t.trans t') q5 q6, t'.pre, t'.sub⟩ (b'.mut q3 q4) (en'.updOw hi h1 (.lst upd_same (w2.append (.one r'))))⟩
/-- x[k] = e, x a list of one's own -/
def sPut (i : Nat) (c ck : EC) : SC := fun Γ m => toS (c Γ m) Γ fun d m1 => toS (ck Γ m1) Γ fun k m2 => match Γ.getD i .non, k with
  | .lst xs, .int j => match ixN xs.length j with
    | some n => .nx (Γ.set i (.lst (xs.set n d))) m2
    | none => .bad
  | _, _ => .bad
theorem sv_put (i : Nat) {x : Str} {p tp : Pos} (he : EV X N.H W ω e c) (hk : EV X N.H W ω k ck) (hi : ω[i]? = some .ow := by rfl) (hx : MdLe ωx ω = true := by rfl)
    (hp : PS X (.Assign [.Subscript (.Name x p) k tp] e pos) (tAsg (cE X N.H W ω c) (gSub (tVar i) (cE X N.H W ω ck) rSetL))) :
    SV f X N W ωx ω (.Assign [.Subscript (.Name x p) k tp] e pos) (sPut i c ck) ω :=
  PS.imp hp fun dn σ H ⟨Γ, m, ρ, Hs, t, b, en, o⟩ => by
    refine ⟨Γ, m, ρ, Hs, b, en, toS_out t en hx o fun d m1 v ρ1 Hs1 H1 hq1 o1 t1 b1 r1 => ?_⟩
    have en1 := en.mono t1
    obtain ⟨a, h1, h2, h3, h4, h5, h6⟩ := en1.ow i hi
    refine ⟨.ref a, h1, Γ, m1, ρ1, Hs1, b1, en1, toS_out (t.trans t1) en1 hx (SOut.fwd t1.pre t1.sub o1) fun d2 m2 v2 ρ2 Hs2 H2 hq o2 t2 b2 r2 => ?_⟩
    have en2 := en1.mono t2
    obtain ⟨a', q1, q2, q3, q4, q5, q6⟩ := en2.ow i hi
    rw [h1] at q1
    cases q1
    cases hg : Γ.getD i .non <;> rw [hg] at o2 <;> try exact o2.elim
    rename_i xs
    cases d2 <;> try exact o2.elim
    rename_i j
    cases r2
    rw [hg] at q2
    obtain ⟨vs, w1, w2⟩ := ownL q2
    have o2 : SOut f X N W ωx ω ρ1 Hs1 (match ixN xs.length j with
      | some n => SR.nx (Γ.set i (.lst (xs.set n d))) m2
      | none => .bad) dn := o2
    cases hn : ixN xs.length j with
    | none => rw [hn] at o2; exact o2.elim
    | some n =>
      rw [hn] at o2
      exact ⟨a, vs, j, n, rfl, rfl, w1, by rw [w2.length]; exact hn, o2 σ ρ2 Hs2 _ ⟨tr_mut ((t.trans t1).trans t2) q5 q6, t2.pre, t2.sub⟩ (b2.mut q3 q4) (en2.updOw hi h1 (.lst upd_same (w2.set (r1.mono t2.pre t2.sub) n)))⟩
/-! ### boxes -/
theorem Bs.setBox {K : PySem.W.Frag} {ρ : List Addr} {m : Mu} {Hs H : Hp} {a : Addr} {n : Nat} {ds : List D} {vs : List V} (b : Bs K ρ m Hs H) (ha : ρ[n]? = some a) (r : RepAll K ρ Hs vs ds) (h : Hs a = none) : Bs K ρ (m.set n ds) Hs (upd H a (.lst vs)) where
  sub x u q := by
    have z : x ≠ a := fun z => by subst z; rw [h] at q; cases q
    rw [upd_ne z]; exact b.sub x u q
  bx j es q := by
    by_cases z : n = j
    · subst z
      have hn : n < m.length := by rw [← b.len]; exact (List.getElem?_eq_some_iff.mp ha).1
      rw [List.getElem?_set_self hn] at q
      cases q
      exact ⟨a, vs, ha, h, upd_same, r⟩
    · rw [List.getElem?_set_ne z] at q
      obtain ⟨c, ws, q1, q2, q3, q4⟩ := b.bx j es q
      have zc : c ≠ a := fun w => z (b.nd n j a ha (by rw [← w]; exact q1))
      exact ⟨c, ws, q1, q2, by rw [upd_ne zc]; exact q3, q4⟩
  nd := b.nd
  len := by rw [List.length_set]; exact b.len
theorem tr_box {ρ : List Addr} {Hs H : Hp} {a : Addr} {o : HO} {n : Nat} (ha : ρ[n]? = some a) (h : H a ≠ none) : Tr ρ Hs H ρ Hs (upd H a o) where
  sub := .refl _
  new _ _ q := .inl q
  pre := .refl _
  bnew _ q := .inl q
  dom x q := by
    by_cases z : x = a
    · subst z; rw [upd_same] at q; cases q
    · rw [upd_ne z] at q; exact q
  same x u nx q := by
    have z : x ≠ a := fun z => nx (by rw [z]; exact List.mem_of_getElem? ha)
    rw [upd_ne z]; exact q
/-- x[k] = e, x a box -/
def sPutB (i : Nat) (c ck : EC) : SC := fun Γ m => toS (c Γ m) Γ fun d m1 => toS (ck Γ m1) Γ fun k m2 => match Γ.getD i .non, k with
  | .box n, .int j => match m2[n]? with
    | some xs => match ixN xs.length j with
      | some l => .nx Γ (m2.set n (xs.set l d))
      | none => .bad
    | none => .bad
  | _, _ => .bad
theorem sv_putB (i : Nat) {x : Str} {p tp : Pos} (he : EV X N.H W ω e c) (hk : EV X N.H W ω k ck) (hi : ω[i]? = some .sh := by rfl) (hx : MdLe ωx ω = true := by rfl)
    (hp : PS X (.Assign [.Subscript (.Name x p) k tp] e pos) (tAsg (cE X N.H W ω c) (gSub (tVar i) (cE X N.H W ω ck) rSetL))) :
    SV f X N W ωx ω (.Assign [.Subscript (.Name x p) k tp] e pos) (sPutB i c ck) ω :=
  PS.imp hp fun dn σ H ⟨Γ, m, ρ, Hs, t, b, en, o⟩ => by
    refine ⟨Γ, m, ρ, Hs, b, en, toS_out t en hx o fun d m1 v ρ1 Hs1 H1 hq1 o1 t1 b1 r1 => ?_⟩
    have en1 := en.mono t1
    obtain ⟨va, h1, h2⟩ := en1.sh i hi
    refine ⟨va, h1, Γ, m1, ρ1, Hs1, b1, en1, toS_out (t.trans t1) en1 hx (SOut.fwd t1.pre t1.sub o1) fun d2 m2 v2 ρ2 Hs2 H2 hq o2 t2 b2 r2 => ?_⟩
    have en2 := en1.mono t2
    have h3 := h2.mono t2.pre t2.sub
    cases hg : Γ.getD i .non <;> rw [hg] at o2 h3 <;> try exact o2.elim
    rename_i n
    cases d2 <;> try exact o2.elim
    rename_i j
    cases r2
    cases h3 with
    | box ha =>
      rename_i a
      have o2 : SOut f X N W ωx ω ρ1 Hs1 (match m2[n]? with
        | some xs => match ixN xs.length j with
          | some l => SR.nx Γ (m2.set n (xs.set l d))
          | none => .bad
        | none => .bad) dn := o2
      cases hm : m2[n]? with
      | none => rw [hm] at o2; exact o2.elim
      | some xs =>
        rw [hm] at o2
        have o2 : SOut f X N W ωx ω ρ1 Hs1 (match ixN xs.length j with
          | some l => SR.nx Γ (m2.set n (xs.set l d))
          | none => .bad) dn := o2
        cases hn : ixN xs.length j with
        | none => rw [hn] at o2; exact o2.elim
        | some l =>
          rw [hn] at o2
          obtain ⟨a', vs, q1, q2, q3, q4⟩ := b2.bx n xs hm
          rw [ha] at q1
          cases q1
          have tb : Tr ρ2 Hs2 H2 ρ2 Hs2 (upd H2 a (.lst (vs.set l v))) := tr_box ha (by rw [q3]; exact fun z => nomatch z)
          exact ⟨a, vs, j, l, rfl, rfl, q3, by rw [q4.length]; exact hn, o2 σ ρ2 Hs2 _ ⟨((t.trans t1).trans t2).trans tb, t2.pre, t2.sub⟩ (b2.setBox ha (q4.set (r1.mono t2.pre t2.sub) l) q2) (en2.mono tb)⟩
end
end Pv
end
section
set_option Elab.async false
set_option linter.all false
set_option maxRecDepth 100000
/-! Pv9: walks, for, while, comprehensions; a def's body. -/
namespace Pv
open PySem L2 PySem.W PyProof.Rows PySem.SeqAt
/-- J yields just the items ds -/
structure Walks (K : PySem.W.Frag) (J : It) (ρ : List Addr) (Hs : Hp) (ds : List D) : Prop where
  go : ∀ ρ2 Hs2 m2 H i, Pre ρ ρ2 → Sub Hs Hs2 → Bs K ρ2 m2 Hs2 H → i < ds.length → J.go i H
  stop : ∀ ρ2 Hs2 m2 H i, Pre ρ ρ2 → Sub Hs Hs2 → Bs K ρ2 m2 Hs2 H → ds.length ≤ i → J.stop i H
  yld : ∀ ρ2 Hs2 m2 H i x H', Pre ρ ρ2 → Sub Hs Hs2 → Bs K ρ2 m2 Hs2 H → i < ds.length → J.yld i H x H' → ∃ d Hs2', ds[i]? = some d ∧ Tr ρ2 Hs2 H ρ2 Hs2' H' ∧ Bs K ρ2 m2 Hs2' H' ∧ Rep K ρ2 Hs2' x d
abbrev IC := Gam → Mu → R (List D)
def cI (X : Cx) (H0 : Hp) (W : WX) (ω : List Md) (c : IC) : TI := fun σ H Q => ∃ Γ m ρ Hs, Bs X.K ρ m Hs H ∧ En X.K H0 ω Γ ρ Hs H σ ∧ Out X.K X.mg (fun ρ' Hs' J ds => Walks X.K J ρ' Hs' ds) (fun cls dx H' => W cls dx σ H') (c Γ m) ρ Hs H Q
abbrev IV (X : Cx) (H0 : Hp) (W : WX) (ω : List Md) (tg e : Expr) (c : IC) : Prop := PI X tg e (cI X H0 W ω c)
theorem PI.imp {X : Cx} {tg e : Expr} {t t' : TI} (h : PI X tg e t) (q : ∀ σ H R, t' σ H R → t σ H R) : PI X tg e t' := ⟨fun pins s σ H R I z => h.run pins s σ H R I (q _ _ _ z)⟩
theorem PI.or {X : Cx} {tg e : Expr} {t t' : TI} (h : PI X tg e t) (h' : PI X tg e t') : PI X tg e fun σ H R => t σ H R ∨ t' σ H R := ⟨fun pins s σ H R I z => z.elim (h.run pins s σ H R I) (h'.run pins s σ H R I)⟩
section
variable {X : Cx} {H0 : Hp} {W : WX} {ω : List Md} {tg e a b : Expr} {c ca cb : EC} {pos p : Pos}
theorem walks_list {K : PySem.W.Frag} {ρ : List Addr} {Hs : Hp} {a : Addr} {vs : List V} {ds : List D} (h : Hs a = some (.lst vs)) (r : RepAll K ρ Hs vs ds) : Walks K (Itl K a) ρ Hs ds where
  go ρ2 Hs2 m2 H i p s b hi := by
    rw [← r.length] at hi
    exact ⟨vs, vs[i], .inl (.inl (b.sub _ _ (s _ _ h))), List.getElem?_eq_getElem hi⟩
  stop ρ2 Hs2 m2 H i p s b hi := ⟨vs, .inl (.inl (b.sub _ _ (s _ _ h))), by rw [r.length]; exact hi⟩
  yld ρ2 Hs2 m2 H i x H' p s b hi q := by
    obtain ⟨rfl, q⟩ := q
    obtain ⟨d, h1, h2⟩ := r.get (q vs (.inl (.inl (b.sub _ _ (s _ _ h)))))
    exact ⟨d, Hs2, h1, .refl .., b, h2.mono p s⟩
theorem walks_tup {K : PySem.W.Frag} {ρ : List Addr} {Hs : Hp} {a : Addr} {vs : List V} {ds : List D} (h : SqT K Hs a vs) (r : RepAll K ρ Hs vs ds) : Walks K (Itt K a) ρ Hs ds where
  go ρ2 Hs2 m2 H i p s b hi := by
    rw [← r.length] at hi
    exact ⟨vs, vs[i], b.sub.t (s.t h), List.getElem?_eq_getElem hi⟩
  stop ρ2 Hs2 m2 H i p s b hi := ⟨vs, b.sub.t (s.t h), by rw [r.length]; exact hi⟩
  yld ρ2 Hs2 m2 H i x H' p s b hi q := by
    obtain ⟨rfl, q⟩ := q
    obtain ⟨d, h1, h2⟩ := r.get (q vs (b.sub.t (s.t h)))
    exact ⟨d, Hs2, h1, .refl .., b, h2.mono p s⟩
/-- the numbers lo, lo + 1, .. -/
def rangeI (lo : Int) : Nat → List D
  | 0 => []
  | n + 1 => .int lo :: rangeI (lo + 1) n
theorem rangeI_length : ∀ (lo : Int) (n : Nat), (rangeI lo n).length = n
  | _, 0 => rfl
  | lo, n + 1 => by rw [rangeI, List.length_cons, rangeI_length]
theorem rangeI_get : ∀ (lo : Int) (n i : Nat), i < n → (rangeI lo n)[i]? = some (.int (lo + i))
  | _, 0, _, h => absurd h (Nat.not_lt_zero _)
  | lo, n + 1, 0, _ => by simp [rangeI]
  | lo, n + 1, i + 1, h => by
    rw [rangeI, List.getElem?_cons_succ, rangeI_get (lo + 1) n i (Nat.lt_of_succ_lt_succ h)]
    congr 2; omega
theorem walks_range {K : PySem.W.Frag} {ρ : List Addr} {Hs : Hp} {lo : Int} {n : Nat} : Walks K (Itr lo n) ρ Hs (rangeI lo n) where
  go ρ2 Hs2 m2 H i p s b hi := by rw [rangeI_length] at hi; exact hi
  stop ρ2 Hs2 m2 H i p s b hi := by rw [rangeI_length] at hi; exact hi
  yld ρ2 Hs2 m2 H i x H' p s b hi q := by
    obtain ⟨rfl, rfl⟩ := q
    rw [rangeI_length] at hi
    exact ⟨_, Hs2, rangeI_get lo n i hi, .refl .., b, .int _⟩
/-- what a list or tuple is walked as -/
def iSeq (c : EC) : IC := fun Γ m => (c Γ m).bind fun d m1 => R.of (itemsD m1 d) m1
theorem iv_seq (h : EV X H0 W ω e c) : IV X H0 W ω tg e (iSeq c) :=
  PI.imp (PI.or (pi_list h) (pi_tup h)) fun σ H Q ⟨Γ, m, ρ, Hs, b, en, o⟩ => by
    unfold iSeq at o
    cases hc : c Γ m with
    | bad => rw [hc] at o; exact o.elim
    | exc c fs m' => rw [hc] at o; exact .inl ⟨Γ, m, ρ, Hs, b, en, by rw [hc]; exact o⟩
    | ok d m1 =>
      rw [hc] at o
      have o : Out X.K X.mg (fun ρ' Hs' J ds => Walks X.K J ρ' Hs' ds) (fun cls dx H' => W cls dx σ H') (R.of (itemsD m1 d) m1) ρ Hs H Q := o
      obtain ⟨xs, hi, o⟩ := Out.ofV o
      cases d <;> simp only [itemsD] at hi <;> try (cases hi; done)
      · cases hi
        refine .inl ⟨Γ, m, ρ, Hs, b, en, ?_⟩
        rw [hc]
        intro v ρ' Hs' H' t' b' r'
        cases r' with
        | lst h r => exact ⟨_, rfl, ⟨_, .inl (.inl (b'.sub _ _ h))⟩, o _ ρ' Hs' H' t' b' (walks_list h r)⟩
      · cases hi
        refine .inr ⟨Γ, m, ρ, Hs, b, en, ?_⟩
        rw [hc]
        intro v ρ' Hs' H' t' b' r'
        cases r' with
        | tup h r => exact ⟨_, rfl, ⟨_, sqt (h.sub b'.sub)⟩, o _ ρ' Hs' H' t' b' (walks_tup (sqt h) r)⟩
def rgOk (lo hi : Int) : Bool := decide (-4611686018427387904 ≤ lo) && decide (lo < 4611686018427387904) && decide (-4611686018427387904 ≤ hi) && decide (hi < 4611686018427387904)
def rg2 : List D → Option (List D)
  | [.int i, .int j] => if rgOk i j then some (rangeI i (j - i).toNat) else none
  | [.int j] => if rgOk 0 j then some (rangeI 0 j.toNat) else none
  | _ => none
def iRg (c : Gam → Mu → R (List D)) : IC := fun Γ m => (c Γ m).bind fun ds m1 => R.of (rg2 ds) m1
theorem iv_range1 {cs : Gam → Mu → R (List D)} (h : AV X H0 W ω [a] cs) (hl : LenA cs 1) (hm : X.mg "range" = none) (hg : Gl X "range" := by rfl) (hs : starEach [a] X.env = [(false, eval a X.env)] := by rfl) : IV X H0 W ω tg (.Call (.Name "range" p) [a] [] pos) (iRg cs) :=
  PI.imp (pi_range1 hg hm h hs) fun σ H Q ⟨Γ, m, ρ, Hs, b, en, o⟩ => ⟨Γ, m, ρ, Hs, b, en, by
    unfold iRg at o
    cases hc : cs Γ m with
    | bad => rw [hc] at o; exact o
    | exc c fs m' => rw [hc] at o; exact o
    | ok ds m1 =>
      rw [hc] at o
      have o : Out X.K X.mg (fun ρ' Hs' J ds => Walks X.K J ρ' Hs' ds) (fun cls dx H' => W cls dx σ H') (R.of (rg2 ds) m1) ρ Hs H Q := o
      obtain ⟨xs, hi, o⟩ := Out.ofV o
      intro vs ρ' Hs' H' t' b' r'
      have hlen := hl _ _ _ _ hc
      match ds, hlen, hi, o, r' with
      | [.int j], _, hi, o, r' =>
        simp only [rg2] at hi
        obtain ⟨hz, rfl⟩ := of_if hi
        cases r' with
        | cons r1 r2 =>
          cases r1; cases r2
          simp only [rgOk, Bool.and_eq_true, decide_eq_true_eq] at hz
          exact ⟨j, rfl, by omega, by omega, o _ ρ' Hs' H' t' b' walks_range⟩
      | [.non], _, hi, _, _ | [.bl _], _, hi, _, _ | [.str _], _, hi, _, _ | [.lst _], _, hi, _, _ | [.tup _], _, hi, _, _ | [.dct _ _], _, hi, _, _ | [.set _], _, hi, _, _ | [.exc _ _], _, hi, _, _ | [.box _], _, hi, _, _ | [.scr _], _, hi, _, _ => cases hi⟩
theorem iv_range2 {cs : Gam → Mu → R (List D)} (h : AV X H0 W ω [a, b] cs) (hl : LenA cs 2) (hm : X.mg "range" = none) (hg : Gl X "range" := by rfl) (hs : starEach [a, b] X.env = [(false, eval a X.env), (false, eval b X.env)] := by rfl) (hs2 : starEach [b] X.env = [(false, eval b X.env)] := by rfl) : IV X H0 W ω tg (.Call (.Name "range" p) [a, b] [] pos) (iRg cs) :=
  PI.imp (pi_range2 hg hm h hs hs2) fun σ H Q ⟨Γ, m, ρ, Hs, b, en, o⟩ => ⟨Γ, m, ρ, Hs, b, en, by
    unfold iRg at o
    cases hc : cs Γ m with
    | bad => rw [hc] at o; exact o
    | exc c fs m' => rw [hc] at o; exact o
    | ok ds m1 =>
      rw [hc] at o
      have o : Out X.K X.mg (fun ρ' Hs' J ds => Walks X.K J ρ' Hs' ds) (fun cls dx H' => W cls dx σ H') (R.of (rg2 ds) m1) ρ Hs H Q := o
      obtain ⟨xs, hi, o⟩ := Out.ofV o
      intro vs ρ' Hs' H' t' b' r'
      have hlen := hl _ _ _ _ hc
      cases r' with
      | nil => cases hlen
      | cons r1 r2 =>
        cases r2 with
        | nil => cases hlen
        | cons r2 r3 =>
          cases r3 with
          | cons _ _ => cases hlen
          | nil =>
            cases r1 <;> cases r2 <;> simp only [rg2] at hi <;> try (cases hi; done)
            obtain ⟨hz, rfl⟩ := of_if hi
            simp only [rgOk, Bool.and_eq_true, decide_eq_true_eq] at hz
            exact ⟨_, _, rfl, ⟨by omega, by omega, by omega, by omega⟩, o _ ρ' Hs' H' t' b' walks_range⟩⟩
end
/-! ### for -/
def loopS (ct : GC) (cb : SC) : List D → Gam → Mu → SR
  | [], Γ, m => .nx Γ m
  | d :: ds, Γ, m => match ct d Γ with
    | none => .bad
    | some Γ1 => match cb Γ1 m with
      | .nx Γ2 m2 => loopS ct cb ds Γ2 m2
      | r => r
def toSL (r : R (List D)) (Γ : Gam) (k : List D → Mu → SR) : SR := match r with
  | .ok d m => k d m
  | .exc c fs m => .exc c fs Γ m
  | .bad => .bad
def sFor (ci : IC) (ct : GC) (cb : SC) : SC := fun Γ m => toSL (ci Γ m) Γ fun ds m1 => loopS ct cb ds Γ m1
section
variable {f : Bool} {X : Cx} {N : Ent} {W : WX} {ωx ω ωt ωb : List Md} {is : List Nat} {tg it : Expr} {body : List Stmt} {ci : IC} {ct : GC} {cb : SC} {pos : Pos}
/-- what a target stores does not lie in the heap: the entry's relation is kept -/
theorem sv_for (hp : PassesOwn (model X.prog X.w) X.A X.env X.xe) (hc : X.calm = true) (hi : IV X N.H W ω tg it ci) (hg : GV X N.H is ω tg ct ωt) (hb : SVs f X N W ωx ωt body cb ωb) (hle : MdLe ω ωb = true := by rfl) (hx : MdLe ωx ω = true := by rfl)
    (hs : ∀ x, foldedSetIterable it X.env x = pure x := by intro _; rfl) : SV f X N W ωx ω (.For tg it body [] pos) (sFor ci ct cb) ω :=
  PS.imp (ps_for hp hc hi hg hb hs) fun dn σ H ⟨Γ, m, ρ, Hs, t, b, en, o⟩ => ⟨Γ, m, ρ, Hs, b, en, by
    unfold sFor at o
    cases hc : ci Γ m with
    | bad => rw [hc] at o; exact o
    | exc c fs m' => rw [hc] at o; exact fun cls dx ρ' Hs' H' t' b' e' => o cls dx σ ρ' Hs' H' (.mk t t') b' ((en.weak hx).mono t') e'
    | ok ds m1 =>
      rw [hc] at o
      have o : SOut f X N W ωx ω ρ Hs (loopS ct cb ds Γ m1) dn := o
      intro J ρ1 Hs1 H1 t1 b1 wk
      refine ⟨fun i k σ2 H2 => k = ds.length - i ∧ i ≤ ds.length ∧ ∃ Γ2 m2 ρ2 Hs2, N.tr ρ2 Hs2 H2 ∧ Pre ρ1 ρ2 ∧ Sub Hs1 Hs2 ∧ Bs X.K ρ2 m2 Hs2 H2 ∧ En X.K N.H ω Γ2 ρ2 Hs2 H2 σ2 ∧ SOut f X N W ωx ω ρ2 Hs2 (loopS ct cb (ds.drop i) Γ2 m2) dn,
        ⟨ds.length, by omega, Nat.zero_le _, Γ, m1, ρ1, Hs1, t.trans t1, .refl _, .refl _, b1, en.mono t1, SOut.fwd t1.pre t1.sub o⟩, ?_⟩
      rintro i k σ2 H2 ⟨rfl, hik, Γ2, m2, ρ2, Hs2, t2, p2, s2, b2, en2, o2⟩
      by_cases hlt : i < ds.length
      · refine .inr ⟨wk.go ρ2 Hs2 m2 H2 i p2 s2 b2 hlt, fun σ3 H3 => ∃ Γ3 m3 ρ3 Hs3, N.tr ρ3 Hs3 H3 ∧ Pre ρ1 ρ3 ∧ Sub Hs1 Hs3 ∧ Bs X.K ρ3 m3 Hs3 H3 ∧ En X.K N.H ω Γ3 ρ3 Hs3 H3 σ3 ∧ SOut f X N W ωx ω ρ3 Hs3 (loopS ct cb (ds.drop (i + 1)) Γ3 m3) dn, fun σ3 H3 hN => ⟨ds.length - (i + 1), by omega, rfl, hlt, hN⟩, fun x H3 hy => ?_⟩
        obtain ⟨d, Hs3, hd, t3, b3, r3⟩ := wk.yld ρ2 Hs2 m2 H2 i x H3 p2 s2 b2 hlt hy
        have hdr : ds.drop i = d :: ds.drop (i + 1) := by
          rw [List.drop_eq_getElem_cons hlt]
          rw [List.getElem?_eq_getElem hlt] at hd
          rw [Option.some.inj hd]
        rw [hdr] at o2
        unfold loopS at o2
        cases hct : ct d Γ2 with
        | none => rw [hct] at o2; exact o2.elim
        | some Γ3 =>
          rw [hct] at o2
          refine ⟨Γ2, m2, ρ2, Hs3, d, Γ3, b3, en2.mono t3, r3, hct, fun σ4 _ en4 => ⟨Γ3, m2, ρ2, Hs3, t2.trans t3, b3, en4, ?_⟩⟩
          have o2 : SOut f X N W ωx ω ρ2 Hs2 (match cb Γ3 m2 with
            | .nx Γ4 m4 => loopS ct cb (ds.drop (i + 1)) Γ4 m4
            | r => r) dn := o2
          cases hcb : cb Γ3 m2 with
          | bad => rw [hcb] at o2; exact o2
          | rt d m' => rw [hcb] at o2; exact o2
          | exc c fs Γ' m' => rw [hcb] at o2; exact fun cls dx σ' ρ' Hs' H' t b en e => o2 cls dx σ' ρ' Hs' H' ⟨t.1, t.2.1, t3.sub.trans t.2.2⟩ b en e
          | nx Γ4 m4 =>
            rw [hcb] at o2
            exact fun σ5 ρ5 Hs5 H5 t5 b5 en5 => ⟨Γ4, m4, ρ5, Hs5, t5.1, p2.trans t5.2.1, s2.trans (t3.sub.trans t5.2.2), b5, en5.weak hle, SOut.fwd t5.2.1 (t3.sub.trans t5.2.2) o2⟩
      · have e : i = ds.length := by omega
        subst e
        rw [List.drop_length] at o2
        exact .inl ⟨wk.stop ρ2 Hs2 m2 H2 _ p2 s2 b2 (Nat.le_refl _), o2 σ2 ρ2 Hs2 H2 (.same t2) b2 en2⟩⟩
end
end Pv
end
section
set_option Elab.async false
set_option linter.all false
set_option maxRecDepth 100000
/-! Pv10: list comprehensions. -/
namespace Pv
open PySem L2 PySem.W PyProof.Rows PySem.SeqAt
theorem upd_some {H : Hp} {a : Addr} {o : HO} : upd H a o a ≠ none := by
  rw [upd_same]
  exact fun z => by cases z
abbrev Wn : WX := fun _ _ _ _ => False
def noX {α : Type} (r : R α) : R α := match r with
  | .exc _ _ _ => .bad
  | r => r
def lcGo (ct : GC) (tt : TC) (ce : EC) (Γ : Gam) : List D → Mu → R (List D)
  | [], m => .ok [] m
  | d :: ds, m => match ct d Γ with
    | none => .bad
    | some Γ1 => (noX (tt Γ1 m)).bind fun k m1 => if k then (noX (ce Γ1 m1)).bind fun y m2 => (lcGo ct tt ce Γ ds m2).bind fun ys m3 => .ok (y :: ys) m3 else lcGo ct tt ce Γ ds m1
def cLc (ci : IC) (ct : GC) (tt : TC) (ce : EC) : EC := fun Γ m => (ci Γ m).bind fun ds m1 => if szOk ds.length then (lcGo ct tt ce Γ ds m1).bind fun ys m2 => .ok (.lst ys) m2 else .bad
theorem OutB.guardR {f : Bool} {K : PySem.W.Frag} {mg : Str → Option Value} {W : Value → Option Addr → Hp → Prop} {ρ : List Addr} {Hs H : Hp} {Q : VK} {k : Bool} {r : R D} (h : OutB f K mg W (if k = true then r else .bad) ρ Hs H Q) : k = true ∧ OutB f K mg W r ρ Hs H Q := by
  cases k with
  | true => exact ⟨rfl, h⟩
  | false => exact h.elim
section
theorem wipe_in {σ : L2.St} {i : Nat} : ∀ {vs : List Nat}, i ∈ vs → i < σ.length → (wipe σ vs)[i]? = some none
  | v :: vs, h, hl => by
    unfold wipe
    by_cases z : v = i
    · subst z
      rw [List.getElem?_set_self (by rw [wipe_length]; exact hl)]
    · rw [List.getElem?_set_ne z]
      rcases List.mem_cons.mp h with q | q
      · exact absurd q.symm z
      · exact wipe_in q hl
theorem wipe_eq {σ σ2 : L2.St} {vs is : List Nat} (h : SameOff is (wipe σ vs) σ2) (hs : ∀ i ∈ is, i ∈ vs) : wipe σ2 vs = wipe σ vs := by
  refine List.ext_getElem? fun j => ?_
  have hl : σ2.length = σ.length := h.1.trans (wipe_length σ vs)
  by_cases q : j ∈ vs
  · by_cases z : j < σ.length
    · rw [wipe_in q z, wipe_in q (by rw [hl]; exact z)]
    · rw [List.getElem?_eq_none (by rw [wipe_length, hl]; omega), List.getElem?_eq_none (by rw [wipe_length]; omega)]
  · rw [wipe_out q]
    exact h.2 j fun z => q (hs j z)
theorem En.wipe {K : PySem.W.Frag} {H0 : Hp} {ω ωw : List Md} {Γ : Gam} {ρ : List Addr} {Hs H : Hp} {σ : L2.St} {vs : List Nat} (e : En K H0 ω Γ ρ Hs H σ) (h : MdLe ωw ω = true) (hv : ∀ i ∈ vs, ωw[i]? = some .un ∨ ωw[i]? = none) : En K H0 ωw Γ ρ Hs H (wipe σ vs) := by
  have e' := e.weak h
  have out : ∀ i k, ωw[i]? = some k → k ≠ .un → i ∉ vs := fun i k q nk z => by
    rcases hv i z with w | w
    · rw [w] at q; cases q; exact nk rfl
    · rw [w] at q; cases q
  refine ⟨by rw [wipe_length]; exact e'.ln, by rw [wipe_length]; exact e'.wl, fun i q => ?_, fun i q => ?_, fun i j a q1 q2 q3 q4 => ?_⟩
  · rw [wipe_out (out i _ q (by decide))]; exact e'.sh i q
  · rw [wipe_out (out i _ q (by decide))]; exact e'.ow i q
  · rw [wipe_out (out i _ q1 (by decide))] at q3
    rw [wipe_out (out j _ q2 (by decide))] at q4
    exact e'.nd i j a q1 q2 q3 q4
variable {f : Bool} {X : Cx} {H0 : Hp} {W : WX} {ω ωw ωt : List Md} {is vs : List Nat} {tg iter elt : Expr} {ifs : List Expr} {ci : IC} {ct : GC} {tt : TC} {ce : EC} {pos : Pos}
/-- a list that is being filled -/
theorem lc_end {K : PySem.W.Frag} {mg : Str → Option Value} {W : Value → Option Addr → Hp → Prop} {ρ ρ' : List Addr} {Hs H Hs' H' : Hp} {m : Mu} {a : Addr} {ds : List D} {Q : VK} (o : OutB f K mg W (.ok (.lst ds) m) ρ Hs H Q) (t : Tr ρ Hs H ρ' Hs' H') (b : Bs K ρ' m Hs' H') (h0 : H a = none)
    (h1 : Own K ρ' Hs' H' a (.lst ds)) (h2 : Hs' a = none) (h3 : a ∉ ρ') (h4 : H' a ≠ none) : Q (.ref a) H' := by
  cases f with
  | true => exact o a ρ' Hs' H' t b h1 h2 h3 h0 h4
  | false =>
    obtain ⟨u, hu, rp, b2⟩ := own_val b h1 h2 h3
    refine o (.ref a) ρ' (upd Hs' a u) H' ⟨t.sub.trans (Sub.new h2), fun x v q => ?_, t.pre, t.bnew, t.dom, t.same⟩ b2 rp
    by_cases z : x = a
    · subst z; exact .inr h0
    · rw [upd_ne z] at q; exact t.new x v q
theorem lc_read {σ : L2.St} {H : Hp} {Q : VK} (hw : MdLe ωw ω = true) (hv : ∀ i ∈ vs, ωw[i]? = some .un ∨ ωw[i]? = none) (his : ∀ i ∈ is, i ∈ vs) (h : cEB f X H0 W ω (cLc ci ct tt ce) σ H Q) :
    tLc (cI X H0 W ω ci) (cG X H0 is ωw ωt ct) (cT X H0 Wn ωt tt) (cE X H0 Wn ωt ce) vs σ H Q := by
  obtain ⟨Γ, m, ρ, Hs, b, en, o⟩ := h
  refine ⟨Γ, m, ρ, Hs, b, en, Out.mono (OutB.bind o) fun J H1 ⟨ds, m1, ρ1, Hs1, t1, b1, wk, o1⟩ => ?_⟩
  obtain ⟨hz, o1⟩ := OutB.guardR o1
  intro A hA
  have en1 := (en.mono t1).wipe hw hv
  refine ⟨fun i k H3 => k = ds.length - i ∧ i ≤ ds.length ∧ ∃ m3 ρ3 Hs3 acc, Tr ρ1 Hs1 H1 ρ3 Hs3 H3 ∧ Bs X.K ρ3 m3 Hs3 H3 ∧ Own X.K ρ3 Hs3 H3 A (.lst acc) ∧ Hs3 A = none ∧ A ∉ ρ3 ∧ H3 A ≠ none ∧ acc.length ≤ i ∧
      OutB f X.K X.mg (fun cls dx H' => W cls dx σ H') ((lcGo ct tt ce Γ (ds.drop i) m3).bind fun ys m' => .ok (.lst (acc ++ ys)) m') ρ1 Hs1 H1 Q, ⟨ds.length, by omega, Nat.zero_le _, m1, ρ1, Hs1, [], tr_newF hA, b1.newF hA, .lst upd_same .nil, hs_none b1.sub hA, b1.out hA, upd_some, Nat.le_refl _, o1⟩, ?_⟩
  rintro i k H3 ⟨rfl, hik, m3, ρ3, Hs3, acc, t3, b3, a1, a2, a3, a4, hacc, o3⟩
  by_cases hlt : i < ds.length
  · refine .inr ⟨wk.go ρ3 Hs3 m3 H3 i t3.pre t3.sub b3 hlt, fun H9 => ∃ m3 ρ3 Hs3 acc, Tr ρ1 Hs1 H1 ρ3 Hs3 H9 ∧ Bs X.K ρ3 m3 Hs3 H9 ∧ Own X.K ρ3 Hs3 H9 A (.lst acc) ∧ Hs3 A = none ∧ A ∉ ρ3 ∧ H9 A ≠ none ∧ acc.length ≤ i + 1 ∧
      OutB f X.K X.mg (fun cls dx H' => W cls dx σ H') ((lcGo ct tt ce Γ (ds.drop (i + 1)) m3).bind fun ys m' => .ok (.lst (acc ++ ys)) m') ρ1 Hs1 H1 Q, fun H9 hN => ⟨ds.length - (i + 1), by omega, rfl, hlt, hN⟩, fun x H4 hy => ?_⟩
    obtain ⟨d, Hs4, hd, t4, b4, r4⟩ := wk.yld ρ3 Hs3 m3 H3 i x H4 t3.pre t3.sub b3 hlt hy
    have hdr : ds.drop i = d :: ds.drop (i + 1) := by
      rw [List.drop_eq_getElem_cons hlt]
      rw [List.getElem?_eq_getElem hlt] at hd
      rw [Option.some.inj hd]
    rw [hdr] at o3
    unfold lcGo at o3
    cases hct : ct d Γ with
    | none => rw [hct] at o3; exact o3.elim
    | some Γ1 =>
      rw [hct] at o3
      have t14 := t3.trans t4
      have ob : BRep X.K ρ3 Hs3 H3 (.ref A) (.lst acc) := .inr ⟨A, rfl, a1, a2, a3, a4⟩
      refine ⟨Γ, m3, ρ3, Hs4, d, Γ1, b4, en1.mono t14, r4, hct, fun σ5 so en5 => ⟨wipe_eq so his, Γ1, m3, ρ3, Hs4, b4, en5, ?_⟩⟩
      have o3 : OutB f X.K X.mg (fun cls dx H' => W cls dx σ H') (((noX (tt Γ1 m3)).bind fun k m1 => if k = true then (noX (ce Γ1 m1)).bind fun y m2 => (lcGo ct tt ce Γ (ds.drop (i + 1)) m2).bind fun ys m3 => .ok (y :: ys) m3 else lcGo ct tt ce Γ (ds.drop (i + 1)) m1).bind fun ys m' => .ok (.lst (acc ++ ys)) m') ρ1 Hs1 H1 Q := o3
      cases htt : tt Γ1 m3 with
      | bad => rw [htt] at o3; exact o3.elim
      | exc c fs m' => rw [htt] at o3; exact o3.elim
      | ok k5 m5 =>
        rw [htt] at o3
        intro k' ρ5 Hs5 H5 t5 b5 e5
        subst e5
        have ob5 := (ob.mono t4).mono t5
        cases k' with
        | false =>
          rcases ob5 with z | ⟨A', e, w1, w2, w3, w4⟩
          · cases z with
            | lst z _ => exact absurd (show Hs5 A = none from by
                cases q : Hs5 A with
                | none => rfl
                | some u =>
                  rcases (t4.trans t5).new A u q with y | y
                  · rw [a2] at y; cases y
                  · exact (a1.nw y).elim) (by rw [z]; exact fun y => nomatch y)
          · cases e
            exact ⟨m5, ρ5, Hs5, acc, t14.trans t5, b5, w1, w2, w3, w4, by omega, o3⟩
        | true =>
          refine ⟨Γ1, m5, ρ5, Hs5, b5, en5.mono t5, ?_⟩
          have o3 : OutB f X.K X.mg (fun cls dx H' => W cls dx σ H') (((noX (ce Γ1 m5)).bind fun y m2 => (lcGo ct tt ce Γ (ds.drop (i + 1)) m2).bind fun ys m3 => .ok (y :: ys) m3).bind fun ys m' => .ok (.lst (acc ++ ys)) m') ρ1 Hs1 H1 Q := o3
          cases hce : ce Γ1 m5 with
          | bad => rw [hce] at o3; exact o3.elim
          | exc c fs m' => rw [hce] at o3; exact o3.elim
          | ok y6 m6 =>
            rw [hce] at o3
            intro v6 ρ6 Hs6 H6 t6 b6 r6
            have ob6 := ob5.mono t6
            have hn6 : Hs6 A = none := by
              cases q : Hs6 A with
              | none => rfl
              | some u =>
                rcases ((t4.trans t5).trans t6).new A u q with y | y
                · rw [a2] at y; cases y
                · exact (a1.nw y).elim
            rcases ob6 with z | ⟨A', e, w1, w2, w3, w4⟩
            · cases z with
              | lst z _ => rw [hn6] at z; cases z
            · cases e
              obtain ⟨vs6, g1, g2⟩ := ownL w1
              have hle : vs6.length < sizeLine := by
                rw [g2.length]
                exact Nat.lt_of_le_of_lt hacc (Nat.lt_of_lt_of_le hlt (szOk_le hz))
              refine ⟨vs6, g1, hle, m6, ρ6, Hs6, acc ++ [y6], ?_, b6.mut w2 w3, .lst upd_same (g2.append (.one r6)), w2, w3, upd_some, by rw [List.length_append]; show acc.length + 1 ≤ i + 1; omega, ?_⟩
              · have T := (t14.trans t5).trans t6
                refine ⟨T.sub, T.new, T.pre, T.bnew, fun x q => ?_, fun x u n q => ?_⟩
                · by_cases z : x = A
                  · subst z; exact hA
                  · rw [upd_ne z] at q; exact T.dom x q
                · have z : x ≠ A := fun z => by subst z; rw [hA] at q; cases q
                  rw [upd_ne z]; exact T.same x u n q
              · have o3 : OutB f X.K X.mg (fun cls dx H' => W cls dx σ H') (((lcGo ct tt ce Γ (ds.drop (i + 1)) m6).bind fun ys m3 => .ok (y6 :: ys) m3).bind fun ys m' => .ok (.lst (acc ++ ys)) m') ρ1 Hs1 H1 Q := o3
                cases hgo : lcGo ct tt ce Γ (ds.drop (i + 1)) m6 with
                | bad => rw [hgo] at o3; exact o3.elim
                | exc c fs m' => rw [hgo] at o3; exact o3
                | ok ys m7 =>
                  rw [hgo] at o3
                  have o3 : OutB f X.K X.mg (fun cls dx H' => W cls dx σ H') (.ok (.lst (acc ++ y6 :: ys)) m7) ρ1 Hs1 H1 Q := o3
                  show OutB f X.K X.mg (fun cls dx H' => W cls dx σ H') (.ok (.lst (acc ++ [y6] ++ ys)) m7) ρ1 Hs1 H1 Q
                  rw [List.append_assoc]
                  exact o3
  · have e : i = ds.length := by omega
    subst e
    rw [List.drop_length] at o3
    have o3 : OutB f X.K X.mg (fun cls dx H' => W cls dx σ H') (.ok (.lst (acc ++ [])) m3) ρ1 Hs1 H1 Q := o3
    rw [List.append_nil] at o3
    exact .inl ⟨wk.stop ρ3 Hs3 m3 H3 _ t3.pre t3.sub b3 (Nat.le_refl _), lc_end o3 t3 b3 hA a1 a2 a3 a4⟩
abbrev Cx.bl (X : Cx) (s : Shared) (H : Hp) (scope : Scope) (C : Addr) (cl : List (Str × Addr)) (fp : List Addr) : Cx := X.blk s H scope (compEnvC scope cl C X.env) fp
theorem ev_lc {scope : Scope} {own : List (Str × Nat)} (hc : X.calm = true) (hN : X.N.Nodup) (hi : IV X H0 W ω tg iter ci) (ok : BlkOk X.N X.env.scope scope own)
    (hg : ∀ s H C cl fp, GV (Cx.bl X s H scope C cl fp) H0 is ωw tg ct ωt) (ht : ∀ s H C cl fp, PTs (Cx.bl X s H scope C cl fp) ifs (cT X H0 Wn ωt tt)) (he : ∀ s H C cl fp, EV (Cx.bl X s H scope C cl fp) H0 Wn ωt elt ce)
    (hw : MdLe ωw ω = true) (hv : ∀ i ∈ own.map (·.2), ωw[i]? = some .un ∨ ωw[i]? = none) (his : ∀ i ∈ is, i ∈ own.map (·.2)) (hs : ∀ x, foldedSetIterable iter X.env x = pure x := by intro _; rfl) :
    EB f X H0 W ω (.ListComp elt [⟨tg, iter, ifs, 0⟩] scope pos) (cLc ci ct tt ce) :=
  PE.imp (pe_lc hc hN hi ok (fun s H C cl fp => hg s H C cl fp) (fun s H C cl fp => ht s H C cl fp) (fun s H C cl fp => he s H C cl fp) hs) fun σ H Q h => lc_read hw hv his h
end
end Pv
end
section
set_option Elab.async false
set_option linter.all false
set_option maxRecDepth 100000
/-! Pv11: while, y = [..], a def's body and its promise, the built-in names. -/
namespace Pv
open PySem L2 PySem.W PyProof.Rows PySem.SeqAt
/-- the module binds none of these names -/
structure Bn (mg : Str → Option Value) : Prop where
  len : mg "len" = none
  range : mg "range" = none
  tuple : mg "tuple" = none
  list : mg "list" = none
  all : mg "all" = none
  any : mg "any" = none
  sum : mg "sum" = none
  int : mg "int" = none
  abs : mg "abs" = none
  isi : mg "isinstance" = none
  sorted : mg "sorted" = none
  set : mg "set" = none
  zip : mg "zip" = none
  enum : mg "enumerate" = none
  bool : mg "bool" = none
  str : mg "str" = none
  min : mg "min" = none
  max : mg "max" = none
  dict : mg "dict" = none
section
variable {X : Cx} {H0 : Hp} {W : WX} {ω : List Md} {a : Expr} {ca : EC} {f : Bool} {p pos : Pos}
theorem ev_len (B : Bn X.mg) (ha : BV X H0 W ω a ca) (hg : Gl X "len" := by rfl) (he : starEach [a] X.env = [(false, eval a X.env)] := by rfl) : EV X H0 W ω (.Call (.Name "len" p) [a] [] pos) (c1 lenD ca) := EB.ev (ev_callB call_len rd_len hg B.len PySem.boot_len ha (by decide) (by decide) he)
theorem ev_abs (B : Bn X.mg) (ha : BV X H0 W ω a ca) (hg : Gl X "abs" := by rfl) (he : starEach [a] X.env = [(false, eval a X.env)] := by rfl) : EV X H0 W ω (.Call (.Name "abs" p) [a] [] pos) (c1 absD ca) := EB.ev (ev_callB call_abs rd_abs hg B.abs (by decide +kernel) ha (by decide) (by decide) he)
theorem ev_int' (B : Bn X.mg) (ha : BV X H0 W ω a ca) (hg : Gl X "int" := by rfl) (he : starEach [a] X.env = [(false, eval a X.env)] := by rfl) : EV X H0 W ω (.Call (.Name "int" p) [a] [] pos) (c1 intD ca) := EB.ev (ev_callT call_int1 rd_int hg B.int (by decide +kernel) ha (by decide) (by decide) he)
theorem ev_all (B : Bn X.mg) (hc : X.calm = true) (ha : BV X H0 W ω a ca) (hg : Gl X "all" := by rfl) (he : starEach [a] X.env = [(false, eval a X.env)] := by rfl) : EV X H0 W ω (.Call (.Name "all" p) [a] [] pos) (c1 allD ca) := EB.ev (ev_callB (cr_all hc) rd_all hg B.all (by decide +kernel) ha (by decide) (by decide) he)
theorem ev_any (B : Bn X.mg) (hc : X.calm = true) (ha : BV X H0 W ω a ca) (hg : Gl X "any" := by rfl) (he : starEach [a] X.env = [(false, eval a X.env)] := by rfl) : EV X H0 W ω (.Call (.Name "any" p) [a] [] pos) (c1 anyD ca) := EB.ev (ev_callB (cr_any hc) rd_any hg B.any (by decide +kernel) ha (by decide) (by decide) he)
theorem ev_list (B : Bn X.mg) (ha : BV X H0 W ω a ca) (hg : Gl X "list" := by rfl) (he : starEach [a] X.env = [(false, eval a X.env)] := by rfl) : EB f X H0 W ω (.Call (.Name "list" p) [a] [] pos) (c1 listD ca) := ev_callT call_list_of rd_list hg B.list (by decide +kernel) ha (by decide) (by decide) he
theorem ev_tuple (B : Bn X.mg) (ha : BV X H0 W ω a ca) (hg : Gl X "tuple" := by rfl) (he : starEach [a] X.env = [(false, eval a X.env)] := by rfl) : EV X H0 W ω (.Call (.Name "tuple" p) [a] [] pos) (c1 tupleD ca) := EB.ev (ev_callT call_tuple_ofN rd_tuple hg B.tuple (by decide +kernel) ha (by decide) (by decide) he)
theorem ev_isI (B : Bn X.mg) {q : Pos} (ha : BV X H0 W ω a ca) (hg : Gl X "isinstance" := by rfl) (hgT : Gl X "int" := by rfl) (he : starEach [a, .Name "int" q] X.env = (false, eval a X.env) :: starEach [.Name "int" q] X.env := by rfl) : EV X H0 W ω (.Call (.Name "isinstance" p) [a, .Name "int" q] [] pos) (c1 (isiD .int) ca) := ev_isi .int ha B.isi B.int (by decide +kernel) hg hgT (by decide) (by decide) he
theorem ev_isB (B : Bn X.mg) {q : Pos} (ha : BV X H0 W ω a ca) (hg : Gl X "isinstance" := by rfl) (hgT : Gl X "bool" := by rfl) (he : starEach [a, .Name "bool" q] X.env = (false, eval a X.env) :: starEach [.Name "bool" q] X.env := by rfl) : EV X H0 W ω (.Call (.Name "isinstance" p) [a, .Name "bool" q] [] pos) (c1 (isiD .bool) ca) := ev_isi .bool ha B.isi B.bool (by decide +kernel) hg hgT (by decide) (by decide) he
theorem ev_isL (B : Bn X.mg) {q : Pos} (ha : BV X H0 W ω a ca) (hg : Gl X "isinstance" := by rfl) (hgT : Gl X "list" := by rfl) (he : starEach [a, .Name "list" q] X.env = (false, eval a X.env) :: starEach [.Name "list" q] X.env := by rfl) : EV X H0 W ω (.Call (.Name "isinstance" p) [a, .Name "list" q] [] pos) (c1 (isiD .list) ca) := ev_isi .list ha B.isi B.list (by decide +kernel) hg hgT (by decide) (by decide) he
theorem ev_isT (B : Bn X.mg) {q : Pos} (ha : BV X H0 W ω a ca) (hg : Gl X "isinstance" := by rfl) (hgT : Gl X "tuple" := by rfl) (he : starEach [a, .Name "tuple" q] X.env = (false, eval a X.env) :: starEach [.Name "tuple" q] X.env := by rfl) : EV X H0 W ω (.Call (.Name "isinstance" p) [a, .Name "tuple" q] [] pos) (c1 (isiD .tuple) ca) := ev_isi .tuple ha B.isi B.tuple (by decide +kernel) hg hgT (by decide) (by decide) he
/-- isinstance(x, (list, tuple)), (bool, str) -/
theorem ev_isLT (B : Bn X.mg) {q q' q2 : Pos} {kk : Nat} (ha : BV X H0 W ω a ca) (hg : Gl X "isinstance" := by rfl) (hgT : Gl X "list" := by rfl) (hgU : Gl X "tuple" := by rfl) (he : starEach [a, .Tuple [.Name "list" q, .Name "tuple" q'] kk q2] X.env = (false, eval a X.env) :: starEach [.Tuple [.Name "list" q, .Name "tuple" q'] kk q2] X.env := by rfl) : EV X H0 W ω (.Call (.Name "isinstance" p) [a, .Tuple [.Name "list" q, .Name "tuple" q'] kk q2] [] pos) (c1 (isi2D .list .tuple) ca) := ev_isi2 .list .tuple ha B.isi B.list (by decide +kernel) B.tuple (by decide +kernel) hg hgT (by decide) (by decide) hgU (by decide) (by decide) he
theorem ev_isBS (B : Bn X.mg) {q q' q2 : Pos} {kk : Nat} (ha : BV X H0 W ω a ca) (hg : Gl X "isinstance" := by rfl) (hgT : Gl X "bool" := by rfl) (hgU : Gl X "str" := by rfl) (he : starEach [a, .Tuple [.Name "bool" q, .Name "str" q'] kk q2] X.env = (false, eval a X.env) :: starEach [.Tuple [.Name "bool" q, .Name "str" q'] kk q2] X.env := by rfl) : EV X H0 W ω (.Call (.Name "isinstance" p) [a, .Tuple [.Name "bool" q, .Name "str" q'] kk q2] [] pos) (c1 (isi2D .bool .str) ca) := ev_isi2 .bool .str ha B.isi B.bool (by decide +kernel) B.str (by decide +kernel) hg hgT (by decide) (by decide) hgU (by decide) (by decide) he
/-! ### a comparison as a test -/
def asBl : D → Option Bool
  | .bl k => some k
  | _ => none
def tCmp (g : Mu → D → D → Option D) (ca cb : EC) : TC := fun Γ m => (c2 g ca cb Γ m).bind fun d m1 => R.of (asBl d) m1
theorem tv_cmpB {op : CmpOp} {b : Expr} {cb : EC} {g : Mu → D → D → Option D} (ho : BopD X (compareOp op) g) (ha : BV X H0 W ω a ca) (hb : BV X H0 W ω b cb) (hm : behindInMarks op b = false) : TV X H0 W ω (.Compare a [op] [b] pos) (tCmp g ca cb) :=
  PT.imp (pt_cmpR (bop_opr ho) ha hb hm) fun σ H Q ⟨Γ, m, ρ, Hs, b, en, o⟩ => c2_readW (f := false) (Q := fun x H' => ∃ k, x = .bl k ∧ Q k H') ⟨Γ, m, ρ, Hs, b, en, by
    rw [OutB.out]
    refine Out.mono (Out.bind (Rp := Rep X.K) o) fun v H1 ⟨d, m1, ρ1, Hs1, t1, b1, r1, o1⟩ => ?_
    obtain ⟨k, hk, o1⟩ := Out.ofV o1
    cases d <;> simp only [asBl] at hk <;> try (cases hk; done)
    cases hk
    cases r1
    exact ⟨_, rfl, o1 _ ρ1 Hs1 H1 (.refl ..) b1 rfl⟩⟩
/-! ### y = [..] -/
theorem tts_nil {ωt : List Md} : PTs X [] (cT X H0 Wn ωt fun _ m => .ok true m) := ⟨fun pins s σ H Q I ⟨Γ, m, ρ, Hs, b, en, o⟩ => pts_nil.run pins s σ H Q I (o true ρ Hs H (.refl ..) b rfl)⟩
theorem tts_one {ωt : List Md} {t : TC} {q : Expr} (h : TV X H0 Wn ωt q t) : PTs X [q] (cT X H0 Wn ωt t) := pts_one h
end
section
variable {f : Bool} {X : Cx} {N : Ent} {W : WX} {ωx ω ωw ωt ωb : List Md} {is : List Nat} {tg iter elt : Expr} {ifs : List Expr} {ci : IC} {ct : GC} {tt t : TC} {ce : EC} {pos : Pos} {cb : SC} {q : Expr} {body : List Stmt}
/-- y = [..], y a plain local; own: the list may be changed later -/
theorem sv_setLc (i : Nat) {y : Str} {py spos : Pos} {scope : Scope} {own : List (Str × Nat)} (hc : X.calm = true) (hN : X.N.Nodup) (hi : IV X N.H W ω tg iter ci) (ok : BlkOk X.N X.env.scope scope own)
    (hg : ∀ s H C cl fp, GV (Cx.bl X s H scope C cl fp) N.H is ωw tg ct ωt) (ht : ∀ s H C cl fp, PTs (Cx.bl X s H scope C cl fp) ifs (cT X N.H Wn ωt tt)) (he : ∀ s H C cl fp, EV (Cx.bl X s H scope C cl fp) N.H Wn ωt elt ce)
    (hw : MdLe ωw ω = true) (hv : ∀ i ∈ own.map (·.2), ωw[i]? = some .un ∨ ωw[i]? = none) (his : ∀ i ∈ is, i ∈ own.map (·.2))
    (hsw : swapsWith (.ListComp elt [⟨tg, iter, ifs, 0⟩] scope pos) (some (.Name y py)) spos.line X.env = pure true) (hx : MdLe ωx ω = true := by rfl) (hwi : i < ω.length := by decide) (hy : X.N[i]? = some y := by rfl) (hyl : X.env.scope.names.lookup y = some .local := by rfl) (hs : ∀ x, foldedSetIterable iter X.env x = pure x := by intro _; rfl) :
    SV f X N W ωx ω (.Assign [.Name y py] (.ListComp elt [⟨tg, iter, ifs, 0⟩] scope pos) spos) (sSet i (cLc ci ct tt ce)) (ω.set i .ow) :=
  PS.imp (ps_setLc hc hN hy hyl hsw hi ok (fun s H C cl fp => hg s H C cl fp) (fun s H C cl fp => ht s H C cl fp) (fun s H C cl fp => he s H C cl fp) hs) fun dn σ H ⟨Γ, m, ρ, Hs, t, b, en, o⟩ => by
    refine lc_read (f := true) (W := W) (ci := ci) (ct := ct) (tt := tt) (ce := ce) hw hv his ⟨Γ, m, ρ, Hs, b, en, ?_⟩
    unfold sSet at o
    cases hc : cLc ci ct tt ce Γ m with
    | bad => rw [hc] at o; exact o
    | exc c fs m' => rw [hc] at o; exact fun cls dx ρ' Hs' H' t' b' e' => o cls dx σ ρ' Hs' H' (.mk t t') b' ((en.weak hx).mono t') e'
    | ok d m' =>
      rw [hc] at o
      intro a ρ' Hs' H' t' b' o1 o2 o3 o4 o5
      refine o _ ρ' Hs' H' (.mk t t') b' ((en.mono t').setOw hwi o1 o2 o3 (t.dom a o4) o5 fun j hj z => ?_)
      obtain ⟨a', q1, _, _, _, _, q6⟩ := en.ow j hj
      rw [q1] at z
      cases z
      exact q6 o4
/-! ### while -/
def whileS (t : TC) (cb : SC) : Nat → Gam → Mu → SR
  | 0, _, _ => .bad
  | n + 1, Γ, m => toSB (t Γ m) Γ fun k m1 => if k then (match cb Γ m1 with
      | .nx Γ2 m2 => whileS t cb n Γ2 m2
      | r => r) else .nx Γ m1
def sWhile (n : Nat) (t : TC) (cb : SC) : SC := fun Γ m => whileS t cb n Γ m
theorem sv_while (n : Nat) (hp : PassesOwn (model X.prog X.w) X.A X.env X.xe) (ht : TV X N.H W ω q t) (hb : SVs f X N W ωx ω body cb ωb) (hle : MdLe ω ωb = true := by rfl) (hx : MdLe ωx ω = true := by rfl) : SV f X N W ωx ω (.While q body [] pos) (sWhile n t cb) ω :=
  PS.imp (ps_while hp ht hb) fun dn σ H ⟨Γ, m, ρ, Hs, tr, b, en, o⟩ => by
    refine ⟨fun k σ2 H2 => ∃ Γ2 m2 ρ2 Hs2, N.tr ρ2 Hs2 H2 ∧ Bs X.K ρ2 m2 Hs2 H2 ∧ En X.K N.H ω Γ2 ρ2 Hs2 H2 σ2 ∧ SOut f X N W ωx ω ρ2 Hs2 (whileS t cb k Γ2 m2) dn, ⟨n, Γ, m, ρ, Hs, tr, b, en, o⟩, ?_⟩
    rintro k σ2 H2 ⟨Γ2, m2, ρ2, Hs2, t2, b2, en2, o2⟩
    cases k with
    | zero => exact o2.elim
    | succ k =>
      refine ⟨Γ2, m2, ρ2, Hs2, b2, en2, ?_⟩
      unfold whileS at o2
      cases hc : t Γ2 m2 with
      | bad => rw [hc] at o2; exact o2
      | exc c fs m' => rw [hc] at o2; exact fun cls dx ρ' Hs' H' t' b' e' => o2 cls dx σ2 ρ' Hs' H' (.mk t2 t') b' ((en2.weak hx).mono t') e'
      | ok k3 m3 =>
        rw [hc] at o2
        have o2 : SOut f X N W ωx ω ρ2 Hs2 (if k3 = true then (match cb Γ2 m3 with
          | .nx Γ2 m2 => whileS t cb k Γ2 m2
          | r => r) else .nx Γ2 m3) dn := o2
        intro k3' ρ3 Hs3 H3 t3 b3 e3
        subst e3
        cases k3' with
        | false => exact o2 σ2 ρ3 Hs3 H3 (.mk t2 t3) b3 (en2.mono t3)
        | true =>
          refine ⟨fun σ5 H5 => ∃ Γ5 m5 ρ5 Hs5, N.tr ρ5 Hs5 H5 ∧ Bs X.K ρ5 m5 Hs5 H5 ∧ En X.K N.H ω Γ5 ρ5 Hs5 H5 σ5 ∧ SOut f X N W ωx ω ρ5 Hs5 (whileS t cb k Γ5 m5) dn, fun σ5 H5 h5 => ⟨k, Nat.lt_succ_self _, h5⟩, Γ2, m3, ρ3, Hs3, t2.trans t3, b3, en2.mono t3, ?_⟩
          have o2 : SOut f X N W ωx ω ρ2 Hs2 (match cb Γ2 m3 with
            | .nx Γ2 m2 => whileS t cb k Γ2 m2
            | r => r) dn := o2
          cases hcb : cb Γ2 m3 with
          | bad => rw [hcb] at o2; exact o2
          | rt d m' => rw [hcb] at o2; exact o2
          | exc c fs Γ' m' => rw [hcb] at o2; exact fun cls dx σ' ρ' Hs' H' t b en e => o2 cls dx σ' ρ' Hs' H' ⟨t.1, t3.pre.trans t.2.1, t3.sub.trans t.2.2⟩ b en e
          | nx Γ4 m4 =>
            rw [hcb] at o2
            exact fun σ5 ρ5 Hs5 H5 t5 b5 en5 => ⟨Γ4, m4, ρ5, Hs5, t5.1, b5, en5.weak hle, SOut.fwd (t3.pre.trans t5.2.1) (t3.sub.trans t5.2.2) o2⟩
end
/-! ### a def -/
def endR (r : SR) : R D := match r with
  | .nx _ m => .ok .non m
  | .rt d m => .ok d m
  | .exc c fs _ m => .exc c fs m
  | .bad => .bad
def endF (r : SR) : R D := match r with
  | .rt d m => .ok d m
  | .exc c fs _ m => .exc c fs m
  | _ => .bad
/-- the def's function: n further slots -/
def fnC (n : Nat) (c : SC) : List D → Mu → R D := fun ds m => endR (c (ds ++ List.replicate n .non) m)
def fnF (n : Nat) (c : SC) : List D → Mu → R D := fun ds m => endF (c (ds ++ List.replicate n .non) m)
def om (p n : Nat) : List Md := List.replicate p .sh ++ List.replicate n .un
theorem En.start {K : PySem.W.Frag} {H : Hp} {ρ : List Addr} {Hs : Hp} {vs : List V} {ds : List D} {N : List Str} {p n : Nat} (r : RepAll K ρ Hs vs ds) (hp : ds.length = p) (hn : N.length = p + n) : En K H (om p n) (ds ++ List.replicate n .non) ρ Hs H (L2.start N vs) := by
  have hl : vs.length = p := r.length.trans hp
  have hsl : (L2.start N vs).length = p + n := by
    unfold L2.start
    rw [List.length_append, List.length_map, List.length_replicate, hl, hn]
    omega
  refine ⟨?_, ?_, fun i q => ?_, fun i q => ?_, fun i j a q1 => ?_⟩
  · rw [List.length_append, List.length_replicate, hp, hsl]
  · unfold om
    rw [List.length_append, List.length_replicate, List.length_replicate, hsl]
  · unfold om at q
    by_cases hi : i < p
    · obtain ⟨v, hv, hr⟩ := r.get' (List.getElem?_eq_getElem (show i < ds.length by omega))
      refine ⟨v, ?_, ?_⟩
      · unfold L2.start
        rw [List.getElem?_append_left (by rw [List.length_map]; omega), List.getElem?_map, hv]
        rfl
      · rw [List.getD_eq_getElem?_getD, List.getElem?_append_left (by omega), List.getElem?_eq_getElem (by omega)]
        exact hr
    · rw [List.getElem?_append_right (by rw [List.length_replicate]; omega), List.getElem?_replicate] at q
      split at q
      · cases q
      · cases q
  all_goals (first
    | (unfold om at q
       by_cases hi : i < p
       · rw [List.getElem?_append_left (by rw [List.length_replicate]; omega), List.getElem?_replicate] at q
         split at q <;> cases q
       · rw [List.getElem?_append_right (by rw [List.length_replicate]; omega), List.getElem?_replicate] at q
         split at q <;> cases q)
    | (unfold om at q1
       by_cases hi : i < p
       · rw [List.getElem?_append_left (by rw [List.length_replicate]; omega), List.getElem?_replicate] at q1
         split at q1 <;> cases q1
       · rw [List.getElem?_append_right (by rw [List.length_replicate]; omega), List.getElem?_replicate] at q1
         split at q1 <;> cases q1))
abbrev FnP (K : PySem.W.Frag) (x : Str) (st : Stmt) (f : Addr) (fd : FuncData) : Prop := FunD K x x (defArgs st) (defBody st) (defScope st) [] [] f fd
/-- a def of the text, as its callers use it -/
structure Fn (P : Program) (w : World) (K : PySem.W.Frag) (mg : Str → Option Value) (base : Heap) (CX : CXT) (x : Str) (k : Nat) (ps : List Str) (f : Bool) (G : List D → Mu → R D) : Prop where
  ex : ∃ fa fd, mg x = some (.ref fa) ∧ PySem.W.keepIn K (.ref fa) = true ∧ Binds K fd ps [] ∧ FnOk P w K mg base CX k fa fd ps (spD K mg f ps.length G)
section
variable {P : Program} {w : World} {K : PySem.W.Frag} {mg : Str → Option Value} {base : Heap}
abbrev cx0 (P : Program) (w : World) (K : PySem.W.Frag) (mg : Str → Option Value) (base : Heap) (N : List Str) (x : Str) (st : Stmt) (fa : Addr) (cdv : Value) (A : Around) (outer : List Env) (s : Shared) (H : Hp) (E : XK) : Cx := (cxOf CX0 P w K mg base N x (defScope st) fa cdv A outer s H E).nox
theorem fn_ok {x : Str} {st : Stmt} {fa : Addr} {fd : FuncData} {N ps : List Str} {k n : Nat} {f : Bool} {c : SC} {ω' : List Md} {G : List D → Mu → R D} (F : FnP K x st fa fd) (S : FnScope N ps (defScope st)) (hn : N.length = ps.length + n) (hG : G = if f = true then fnF n c else fnC n c)
    (hb : ∀ (cdv : Value) (A : Around) (outer : List Env) (s : Shared) (H : Hp) (E : XK) (M : Ent), Room k (A.deeper (envOfC x (defScope st) s.heap.objs.size fa cdv)) → SVs f (cx0 P w K mg base N x st fa cdv A outer s H E) M (fun cls dx _ H' => E cls dx H') (om 0 (ps.length + n)) (om ps.length n) (defBody st) c ω') :
    FnOk P w K mg base CX0 (k + 1) fa fd ps (spD K mg f ps.length G) := by
  refine F.ok S (fun vs H Q E h => ?_) (fun cdv A outer s H vs Q E hr h => ?_)
  · obtain ⟨ρ, m, Hs, ds, b, r, hl, _⟩ := h
    rw [r.length]; exact hl
  · obtain ⟨ρ, m, Hs, ds, b, r, hl, o⟩ := h
    refine ⟨_, PSs.nox (hb cdv A outer s H E ⟨ρ, Hs, H⟩ hr), ds ++ List.replicate n D.non, m, ρ, Hs, .refl .., b, En.start (H := H) r hl hn, ?_⟩
    subst hG
    cases f with
    | false =>
      have o : OutB false K mg E (endR (c (ds ++ List.replicate n .non) m)) ρ Hs H Q := o
      cases hc : c (ds ++ List.replicate n .non) m with
      | nx Γ m' => rw [hc] at o; exact fun σ' ρ' Hs' H' t' b' en' => o _ ρ' Hs' H' t'.1 b' .non
      | rt d m' => rw [hc] at o; exact o
      | exc c fs Γ m' =>
        rw [hc] at o
        exact fun cls dx σ' ρ' Hs' H' t' b' en' e' => o cls dx ρ' Hs' H' t'.1 b' e'
      | bad => rw [hc] at o; exact o
    | true =>
      have o : OutB true K mg E (endF (c (ds ++ List.replicate n .non) m)) ρ Hs H Q := o
      cases hc : c (ds ++ List.replicate n .non) m with
      | nx Γ m' => rw [hc] at o; exact o.elim
      | rt d m' => rw [hc] at o; exact o
      | exc c fs Γ m' =>
        rw [hc] at o
        exact fun cls dx σ' ρ' Hs' H' t' b' en' e' => o cls dx ρ' Hs' H' t'.1 b' e'
      | bad => rw [hc] at o; exact o
end
section
variable {X : Cx} {H0 : Hp} {W : WX} {ω : List Md} {e : Expr} {es : List Expr} {cs : Gam → Mu → R (List D)} {f : Bool} {pos p : Pos} {x : Str}
theorem ev_fn {k : Nat} {ps : List Str} {G : List D → Mu → R D} (F : Fn X.prog X.w X.K X.mg X.base CX0 x k ps f G) (hr : Room k X.A) (ha : AV X H0 W ω (e :: es) cs) (hl : LenA cs ps.length) (hg : Gl X x := by rfl)
    (hdb : (x == ("__debug__" : Str)) = false := by decide) (he : starEach (e :: es) X.env = (false, eval e X.env) :: starEach es X.env := by rfl) (hpl : (backTo pos (starEach es X.env)).any (·.1) = false := by rfl) :
    EB f X H0 W ω (.Call (.Name x p) (e :: es) [] pos) (cCall G cs) := by
  obtain ⟨fa, fd, h1, h2, h3, h4⟩ := F.ex
  exact ev_call h4 hr h1 h2 h3 (fun σ => passes0 σ) ha hl hg hdb he hpl
/-- f() -/
theorem pe_call0S {CX : CXT} {k : Nat} {fa : Addr} {fd : FuncData} {ps : List Str} {sp : Sp} {E : L2.St → XK} (F : FnOk X.prog X.w X.K X.mg X.base CX k fa fd ps sp) (hr : Room k X.A) (hg : Gl X x) (hm : X.mg x = some (.ref fa)) (hk : PySem.W.keepIn X.K (.ref fa) = true) (hb : Binds X.K fd ps [])
    (hx : ∀ σ, PassesAt CX X σ (E σ)) (hdb : (x == ("__debug__" : Str)) = false := by decide) : PE X (.Call (.Name x p) [] [] pos) (fun σ H Q => sp [] H Q (E σ)) := by
  refine ⟨fun pins s σ H Q I h => ?_⟩
  refine wpAny_Call_Name_kw (ld_glob I hg hm ?_ hdb)
  exact PySem.W.callWith_K0 I.kIn hk (run_fnS (us := []) F hr hb (hx σ) I .nil h)
def cCall0 (G : List D → Mu → R D) : EC := fun _ m => G [] m
theorem ev_call0 {CX : CXT} {k : Nat} {G : List D → Mu → R D} (F : Fn X.prog X.w X.K X.mg X.base CX x k [] f G) (hr : Room k X.A) (hx : ∀ σ, PassesAt CX X σ (fun cls dx H' => W cls dx σ H')) (hg : Gl X x := by rfl) (hdb : (x == ("__debug__" : Str)) = false := by decide) : EB f X H0 W ω (.Call (.Name x p) [] [] pos) (cCall0 G) := by
  obtain ⟨fa, fd, h1, h2, h3, h4⟩ := F.ex
  exact PE.imp (pe_call0S (E := fun σ cls dx H' => W cls dx σ H') h4 hr hg h1 h2 h3 hx hdb) fun σ H Q ⟨Γ, m, ρ, Hs, b, en, o⟩ => ⟨ρ, m, Hs, [], b, .nil, rfl, o⟩
theorem ev_fn0 {k : Nat} {G : List D → Mu → R D} (F : Fn X.prog X.w X.K X.mg X.base CX0 x k [] f G) (hr : Room k X.A) (hg : Gl X x := by rfl) (hdb : (x == ("__debug__" : Str)) = false := by decide) : EB f X H0 W ω (.Call (.Name x p) [] [] pos) (cCall0 G) := ev_call0 F hr (fun σ => passes0 σ) hg hdb
/-- calls of defs that may raise -/
theorem ev_fnX {k : Nat} {ps : List Str} {G : List D → Mu → R D} (F : Fn X.prog X.w X.K X.mg X.base (L2.CX X.prog X.w) x k ps f G) (tk : Takes X W) (hr : Room k X.A) (ha : AV X H0 W ω (e :: es) cs) (hl : LenA cs ps.length) (hg : Gl X x := by rfl)
    (hdb : (x == ("__debug__" : Str)) = false := by decide) (he : starEach (e :: es) X.env = (false, eval e X.env) :: starEach es X.env := by rfl) (hpl : (backTo pos (starEach es X.env)).any (·.1) = false := by rfl) :
    EB f X H0 W ω (.Call (.Name x p) (e :: es) [] pos) (cCall G cs) := by
  obtain ⟨fa, fd, h1, h2, h3, h4⟩ := F.ex
  exact ev_call h4 hr h1 h2 h3 (fun σ => passAt tk σ) ha hl hg hdb he hpl
end
section
variable {P : Program} {w : World} {K : PySem.W.Frag} {mg : Str → Option Value} {base : Heap}
/-- the context of a def that may raise -/
abbrev cxX (P : Program) (w : World) (K : PySem.W.Frag) (mg : Str → Option Value) (base : Heap) (N : List Str) (x : Str) (st : Stmt) (fa : Addr) (cdv : Value) (A : Around) (outer : List Env) (s : Shared) (H : Hp) (E : XK) : Cx := cxOf (L2.CX P w) P w K mg base N x (defScope st) fa cdv A outer s H E
theorem takesX {N : List Str} {x : Str} {st : Stmt} {fa : Addr} {cdv : Value} {A : Around} {outer : List Env} {s : Shared} {H : Hp} {E : XK} : Takes (cxX P w K mg base N x st fa cdv A outer s H E) (fun cls dx _ H' => E cls dx H') := takes_of rfl rfl rfl rfl
theorem passX {N : List Str} {x : Str} {st : Stmt} {fa : Addr} {cdv : Value} {A : Around} {outer : List Env} {s : Shared} {H : Hp} {E : XK} : PassesOwn (model P w) (cxX P w K mg base N x st fa cdv A outer s H E).A (cxX P w K mg base N x st fa cdv A outer s H E).env (cxX P w K mg base N x st fa cdv A outer s H E).xe := passes_of (X := cxX P w K mg base N x st fa cdv A outer s H E) rfl
theorem fn_okX {x : Str} {st : Stmt} {fa : Addr} {fd : FuncData} {N ps : List Str} {k n : Nat} {f : Bool} {c : SC} {ω' : List Md} {G : List D → Mu → R D} (F : FnP K x st fa fd) (S : FnScope N ps (defScope st)) (hn : N.length = ps.length + n) (hG : G = if f = true then fnF n c else fnC n c)
    (hb : ∀ (cdv : Value) (A : Around) (outer : List Env) (s : Shared) (H : Hp) (E : XK) (M : Ent), Room k (A.deeper (envOfC x (defScope st) s.heap.objs.size fa cdv)) → SVs f (cxX P w K mg base N x st fa cdv A outer s H E) M (fun cls dx _ H' => E cls dx H') (om 0 (ps.length + n)) (om ps.length n) (defBody st) c ω') :
    FnOk P w K mg base (L2.CX P w) (k + 1) fa fd ps (spD K mg f ps.length G) := by
  refine F.ok S (fun vs H Q E h => ?_) (fun cdv A outer s H vs Q E hr h => ?_)
  · obtain ⟨ρ, m, Hs, ds, b, r, hl, _⟩ := h
    rw [r.length]; exact hl
  · obtain ⟨ρ, m, Hs, ds, b, r, hl, o⟩ := h
    refine ⟨_, hb cdv A outer s H E ⟨ρ, Hs, H⟩ hr, ds ++ List.replicate n D.non, m, ρ, Hs, .refl .., b, En.start (H := H) r hl hn, ?_⟩
    subst hG
    cases f with
    | false =>
      have o : OutB false K mg E (endR (c (ds ++ List.replicate n .non) m)) ρ Hs H Q := o
      cases hc : c (ds ++ List.replicate n .non) m with
      | nx Γ m' => rw [hc] at o; exact fun σ' ρ' Hs' H' t' b' en' => o _ ρ' Hs' H' t'.1 b' .non
      | rt d m' => rw [hc] at o; exact o
      | exc c fs Γ m' =>
        rw [hc] at o
        exact fun cls dx σ' ρ' Hs' H' t' b' en' e' => o cls dx ρ' Hs' H' t'.1 b' e'
      | bad => rw [hc] at o; exact o
    | true =>
      have o : OutB true K mg E (endF (c (ds ++ List.replicate n .non) m)) ρ Hs H Q := o
      cases hc : c (ds ++ List.replicate n .non) m with
      | nx Γ m' => rw [hc] at o; exact o.elim
      | rt d m' => rw [hc] at o; exact o
      | exc c fs Γ m' =>
        rw [hc] at o
        exact fun cls dx σ' ρ' Hs' H' t' b' en' e' => o cls dx ρ' Hs' H' t'.1 b' e'
      | bad => rw [hc] at o; exact o
end
end Pv
end
section
set_option Elab.async false
set_option linter.all false
set_option maxRecDepth 100000
/-! Pv12: boxes made, enumerate, zip, two targets at once. -/
namespace Pv
open PySem L2 PySem.W PyProof.Rows PySem.SeqAt RZ
section
variable {X : Cx} {H0 : Hp} {W : WX} {ω : List Md} {tg e a b : Expr} {es : List Expr} {c ca cb : EC} {cs : Gam → Mu → R (List D)} {f : Bool} {pos p : Pos} {x : Str}
/-- a new list that will be held by reference -/
def cBox (c : EC) : EC := fun Γ m => (c Γ m).bind fun d m1 => match d with
  | .lst xs => .ok (.box m1.length) (m1 ++ [xs])
  | _ => .bad
theorem ev_box (h : EB true X H0 W ω e c) : EV X H0 W ω e (cBox c) := PE.imp h fun σ H Q ⟨Γ, m, ρ, Hs, b, en, o⟩ => ⟨Γ, m, ρ, Hs, b, en, by
  unfold cBox at o
  cases hc : c Γ m with
  | bad => rw [hc] at o; exact o
  | exc c fs m' => rw [hc] at o; exact o
  | ok d m1 =>
    rw [hc] at o
    intro a ρ' Hs' H' t b' o1 o2 o3 o4 o5
    cases o1 with
    | dK h k r => exact o.elim
    | dT h k r => exact o.elim
    | lst h r =>
      rename_i vs ds
      have o : Out X.K X.mg (Rep X.K) (fun cls dx H' => W cls dx σ H') (.ok (.box m1.length) (m1 ++ [ds])) ρ Hs H Q := o
      have pr : Pre ρ' (ρ' ++ [a]) := fun n q hn => by rw [List.getElem?_append_left (List.getElem?_eq_some_iff.mp hn).1]; exact hn
      refine o (.ref a) (ρ' ++ [a]) Hs' H' ⟨t.sub, t.new, t.pre.trans pr, fun z hz => ?_, t.dom, t.same⟩ ⟨b'.sub, fun n es hn => ?_, fun i j z hi hj => ?_, ?_⟩ (.box ?_)
      · rcases List.mem_append.mp hz with z1 | z1
        · exact t.bnew z z1
        · rw [List.mem_singleton.mp z1]; exact .inr o4
      · by_cases hl : n < m1.length
        · rw [List.getElem?_append_left hl] at hn
          obtain ⟨z, ws, q1, q2, q3, q4⟩ := b'.bx n es hn
          exact ⟨z, ws, pr _ _ q1, q2, q3, q4.mono pr (.refl _)⟩
        · rw [List.getElem?_append_right (by omega)] at hn
          have e0 : n - m1.length = 0 := by
            have := (List.getElem?_eq_some_iff.mp hn).1
            simp at this
            omega
          rw [e0] at hn
          cases hn
          have en : n = m1.length := by omega
          subst en
          refine ⟨a, vs, ?_, o2, h, r.mono pr (.refl _)⟩
          rw [← b'.len, List.getElem?_append_right (Nat.le_refl _), Nat.sub_self]
          rfl
      · have key : ∀ k : Nat, (ρ' ++ [a])[k]? = some z → (k < ρ'.length ∧ ρ'[k]? = some z) ∨ (k = ρ'.length ∧ z = a) := fun k hk => by
          by_cases hl : k < ρ'.length
          · rw [List.getElem?_append_left hl] at hk; exact .inl ⟨hl, hk⟩
          · rw [List.getElem?_append_right (by omega)] at hk
            have e0 : k - ρ'.length = 0 := by
              have := (List.getElem?_eq_some_iff.mp hk).1
              simp at this
              omega
            rw [e0] at hk
            cases hk
            exact .inr ⟨by omega, rfl⟩
        rcases key i hi with ⟨_, q1⟩ | ⟨q1, q2⟩ <;> rcases key j hj with ⟨_, w1⟩ | ⟨w1, w2⟩
        · exact b'.nd i j z q1 w1
        · subst w2; exact absurd (List.mem_of_getElem? q1) o3
        · subst q2; exact absurd (List.mem_of_getElem? w1) o3
        · omega
      · rw [List.length_append, List.length_append, b'.len]; rfl
      · rw [← b'.len, List.getElem?_append_right (Nat.le_refl _), Nat.sub_self]
        rfl⟩
/-! ### enumerate, zip -/
def enumI : Nat → List D → List D
  | _, [] => []
  | n, d :: ds => .tup [.int n, d] :: enumI (n + 1) ds
theorem enumI_length : ∀ (n : Nat) (ds : List D), (enumI n ds).length = ds.length
  | _, [] => rfl
  | n, d :: ds => by rw [enumI, List.length_cons, List.length_cons, enumI_length]
theorem enumI_get : ∀ (n : Nat) (ds : List D) (i : Nat) (d : D), ds[i]? = some d → (enumI n ds)[i]? = some (.tup [.int ((n + i : Nat) : Int), d])
  | n, [], _, _, h => by simp at h
  | n, d :: ds, 0, e, h => by simp at h; subst h; simp [enumI]
  | n, d :: ds, i + 1, e, h => by
    rw [enumI, List.getElem?_cons_succ, enumI_get (n + 1) ds i e (by simpa using h)]
    congr 4; omega
def enD : D → Option (List D)
  | .lst xs => some (enumI 0 xs)
  | _ => none
def iEn (c : EC) : IC := fun Γ m => (c Γ m).bind fun d m1 => R.of (enD d) m1
def zipI : List D → List D → List D
  | d :: ds, e :: es => .tup [d, e] :: zipI ds es
  | _, _ => []
theorem zipI_length : ∀ (ds es : List D), (zipI ds es).length = min ds.length es.length
  | [], _ => by simp [zipI]
  | _ :: _, [] => by simp [zipI]
  | d :: ds, e :: es => by rw [zipI, List.length_cons, List.length_cons, List.length_cons, zipI_length]; omega
theorem zipI_get : ∀ (ds es : List D) (i : Nat) (d e : D), ds[i]? = some d → es[i]? = some e → (zipI ds es)[i]? = some (.tup [d, e])
  | [], _, _, _, _, h, _ => by simp at h
  | _ :: _, [], _, _, _, _, h => by simp at h
  | d :: ds, e :: es, 0, _, _, h, h' => by simp at h h'; subst h h'; simp [zipI]
  | d :: ds, e :: es, i + 1, _, _, h, h' => by
    rw [zipI, List.getElem?_cons_succ]
    exact zipI_get ds es i _ _ (by simpa using h) (by simpa using h')
def zipD : List D → Option (List D)
  | [.lst xs, .lst ys] => some (zipI xs ys)
  | [.tup xs, .tup ys] => some (zipI xs ys)
  | _ => none
def iZp (c : Gam → Mu → R (List D)) : IC := fun Γ m => (c Γ m).bind fun ds m1 => R.of (zipD ds) m1
end
section
variable {f : Bool} {X : Cx} {N : Ent} {W : WX} {ωx ω : List Md} {st : Stmt} {c1 c2 : EC}
def mdB (f : Bool) : Md := match f with
  | true => .ow
  | false => .sh
/-- a value, or a new list of one's own that came behind H -/
def VR (f : Bool) (K : PySem.W.Frag) (ρ : List Addr) (Hs H H' : Hp) (v : V) (d : D) : Prop := match f with
  | true => ∃ a, v = .ref a ∧ Own K ρ Hs H' a d ∧ Hs a = none ∧ a ∉ ρ ∧ H a = none ∧ H' a ≠ none
  | false => Rep K ρ Hs v d
theorem VR.mono {K : PySem.W.Frag} {ρ ρ' : List Addr} {Hs H H1 Hs' H' : Hp} {v : V} {d : D} (t : Tr ρ Hs H1 ρ' Hs' H') (h : VR f K ρ Hs H H1 v d) : VR f K ρ' Hs' H H' v d := by
  cases f with
  | false => exact Rep.mono t.pre t.sub h
  | true =>
    obtain ⟨a, e, h2, h3, h4, h5, h6⟩ := h
    refine ⟨a, e, h2.mono t h4, ?_, ?_, h5, fun z => h6 (t.dom a z)⟩
    · cases q : Hs' a with
      | none => rfl
      | some o =>
        rcases t.new a o q with z | z
        · rw [h3] at z; cases z
        · exact (h2.nw z).elim
    · intro q
      rcases t.bnew a q with z | z
      · exact h4 z
      · exact h6 z
/-- from a statement's wish to its expression's, the value a new list or not -/
theorem toS_outB {r : R D} {Γ : Gam} {k : D → Mu → SR} {dn : Ends} {ρ : List Addr} {Hs H : Hp} {σ : L2.St} {Q : VK} {g : Bool} {ω2 : List Md} (t : N.tr ρ Hs H) (en : En X.K N.H ω Γ ρ Hs H σ) (hx : MdLe ωx ω = true) (o : SOut f X N W ωx ω2 ρ Hs (toS r Γ k) dn)
    (h : ∀ d m v ρ' Hs' H', r = .ok d m → SOut f X N W ωx ω2 ρ Hs (k d m) dn → Tr ρ Hs H ρ' Hs' H' → Bs X.K ρ' m Hs' H' → VR g X.K ρ' Hs' H H' v d → Q v H') : OutB g X.K X.mg (fun cls dx H' => W cls dx σ H') r ρ Hs H Q := by
  cases r with
  | ok d m =>
    cases g with
    | false => exact fun v ρ' Hs' H' t' b' r' => h d m v ρ' Hs' H' rfl o t' b' r'
    | true => exact fun a ρ' Hs' H' t' b' o1 o2 o3 o4 o5 => h d m (.ref a) ρ' Hs' H' rfl o t' b' ⟨a, rfl, o1, o2, o3, o4, o5⟩
  | exc c fs m => exact fun cls dx ρ' Hs' H' t' b' e' => o cls dx σ ρ' Hs' H' (.mk t t') b' ((en.weak hx).mono t') e'
  | bad => exact o
/-- slots whose own lists all stood in H -/
theorem En.setB {K : PySem.W.Frag} {H0 : Hp} {Γ : Gam} {ρ : List Addr} {Hs H H' : Hp} {σ : L2.St} {i : Nat} {v : V} {d : D} {g : Bool} (e : En K H0 ω Γ ρ Hs H' σ) (hi : i < ω.length) (r : VR g K ρ Hs H H' v d) (h0 : ∀ a, H a = none → H0 a = none) (hne : g = true → ∀ (j : Nat) a, ω[j]? = some Md.ow → σ[j]? = some (some (V.ref a)) → H a ≠ none) : En K H0 (ω.set i (mdB g)) (Γ.set i d) ρ Hs H' (σ.set i (some v)) := by
  cases g with
  | false => exact e.setSh hi r
  | true =>
    obtain ⟨a, rfl, o1, o2, o3, o4, o5⟩ := r
    exact e.setOw hi o1 o2 o3 (h0 a o4) o5 fun j hj z => hne rfl j a hj z o4
def sPar (i j : Nat) (c1 c2 : EC) : SC := fun Γ m => toS (c1 Γ m) Γ fun d m1 => toS (c2 Γ m1) Γ fun e m2 => .nx ((Γ.set i d).set j e) m2
theorem En.owIn {K : PySem.W.Frag} {H0 : Hp} {Γ : Gam} {ρ : List Addr} {Hs H : Hp} {σ : L2.St} (e : En K H0 ω Γ ρ Hs H σ) (j : Nat) (a : Addr) (hj : ω[j]? = some Md.ow) (hs : σ[j]? = some (some (V.ref a))) : H a ≠ none := by
  obtain ⟨b, q1, _, _, _, _, q6⟩ := e.ow j hj
  rw [q1] at hs
  cases hs
  exact q6
/-- x, y = e1, e2 -/
theorem sv_par (i j : Nat) (g1 g2 : Bool) (hp : PS X st (tPar i j (tCons (cEB g1 X N.H W ω c1) (tCons (cEB g2 X N.H W ω c2) tNil)))) (hij : i ≠ j := by decide) (hx : MdLe ωx ω = true := by rfl) (hi : i < ω.length := by decide) (hj : j < ω.length := by decide) :
    SV f X N W ωx ω st (sPar i j c1 c2) ((ω.set i (mdB g1)).set j (mdB g2)) :=
  PS.imp hp fun dn σ H ⟨Γ, m, ρ, Hs, t, b, en, o⟩ => by
    refine ⟨Γ, m, ρ, Hs, b, en, toS_outB t en hx o fun d m1 v ρ1 Hs1 H1 hq1 o1 t1 b1 r1 => ?_⟩
    refine ⟨Γ, m1, ρ1, Hs1, b1, en.mono t1, toS_outB (t.trans t1) (en.mono t1) hx (SOut.fwd t1.pre t1.sub o1) fun d2 m2 v2 ρ2 Hs2 H2 hq2 o2 t2 b2 r2 => ⟨v, v2, rfl, ?_⟩⟩
    have t12 := t1.trans t2
    have e1 := (en.mono t12).setB (g := g1) hi (r1.mono t2) (fun a h => t.dom a h) fun _ k a hk hs => en.owIn k a hk hs
    have e2 := e1.setB (g := g2) (H := H1) (by rw [List.length_set]; exact hj) r2 (fun a h => t.dom a (t1.dom a h)) fun _ k a hk hs => by
      by_cases z : i = k
      · subst z
        rw [List.getElem?_set_self (by rw [← en.wl]; exact hi)] at hs
        rw [List.getElem?_set_self hi] at hk
        cases hs
        cases g1 with
        | false => cases hk
        | true =>
          obtain ⟨a', q, _, _, _, _, q6⟩ := r1
          cases q
          exact q6
      · rw [List.getElem?_set_ne z] at hs hk
        exact fun h => en.owIn k a hk hs (t1.dom a h)
    exact o2 _ ρ2 Hs2 H2 ⟨t.trans t12, t2.pre, t2.sub⟩ b2 e2
end
end Pv
namespace Pv
open PySem L2 PySem.W PyProof.Rows PySem.SeqAt
/-! ### the slots of a comprehension -/
def wipeM (ω : List Md) : List Nat → List Md
  | [] => ω
  | v :: vs => (wipeM ω vs).set v .un
theorem wipeM_len (ω : List Md) : ∀ vs, (wipeM ω vs).length = ω.length
  | [] => rfl
  | v :: vs => by rw [wipeM, List.length_set, wipeM_len ω vs]
theorem mdLe_of {ω2 ω : List Md} (hl : ω2.length = ω.length) (h : ∀ (i : Nat) k, ω2[i]? = some k → k = .un ∨ ω[i]? = some k) : MdLe ω2 ω = true := by
  unfold MdLe
  rw [Bool.and_eq_true, beq_iff_eq, List.all_eq_true]
  refine ⟨hl, fun p hp => ?_⟩
  obtain ⟨i, hi⟩ := List.mem_iff_getElem?.mp hp
  rw [List.getElem?_zip_eq_some] at hi
  rw [Bool.or_eq_true, beq_iff_eq, beq_iff_eq]
  rcases h i p.1 hi.1 with z | z
  · exact .inl z
  · rw [hi.2] at z; exact .inr (Option.some.inj z).symm
theorem wipeM_le (ω : List Md) : ∀ vs, MdLe (wipeM ω vs) ω = true := fun vs => mdLe_of (wipeM_len ω vs) fun i k h => by
  induction vs with
  | nil => exact .inr h
  | cons v vs ih =>
    unfold wipeM at h
    by_cases z : v = i
    · subst z
      by_cases hl : v < (wipeM ω vs).length
      · rw [List.getElem?_set_self hl] at h; cases h; exact .inl rfl
      · rw [List.getElem?_eq_none (by rw [List.length_set]; omega)] at h; cases h
    · rw [List.getElem?_set_ne z] at h
      exact ih h
theorem wipeM_un (ω : List Md) : ∀ (vs : List Nat) (i : Nat), i ∈ vs → (wipeM ω vs)[i]? = some .un ∨ (wipeM ω vs)[i]? = none
  | v :: vs, i, h => by
    unfold wipeM
    by_cases z : v = i
    · subst z
      by_cases hl : v < (wipeM ω vs).length
      · exact .inl (List.getElem?_set_self hl)
      · exact .inr (List.getElem?_eq_none (by rw [List.length_set]; omega))
    · rw [List.getElem?_set_ne z]
      rcases List.mem_cons.mp h with q | q
      · exact absurd q.symm z
      · exact wipeM_un ω vs i q
section
variable {f : Bool} {X : Cx} {H0 : Hp} {N : Ent} {W : WX} {ωx ω ωt : List Md} {is : List Nat} {tg iter elt : Expr} {ifs : List Expr} {ci : IC} {ct : GC} {tt : TC} {ce : EC} {pos : Pos}
theorem ev_lcM {scope : Scope} (own : List (Str × Nat)) (hc : X.calm = true) (hN : X.N.Nodup) (hi : IV X H0 W ω tg iter ci) (ok : BlkOk X.N X.env.scope scope own)
    (hg : ∀ s H C cl fp, GV (Cx.bl X s H scope C cl fp) H0 is (wipeM ω (own.map (·.2))) tg ct ωt) (ht : ∀ s H C cl fp, PTs (Cx.bl X s H scope C cl fp) ifs (cT X H0 Wn ωt tt)) (he : ∀ s H C cl fp, EV (Cx.bl X s H scope C cl fp) H0 Wn ωt elt ce)
    (his : ∀ i ∈ is, i ∈ own.map (·.2) := by decide) (hs : ∀ x, foldedSetIterable iter X.env x = pure x := by intro _; rfl) :
    EB f X H0 W ω (.ListComp elt [⟨tg, iter, ifs, 0⟩] scope pos) (cLc ci ct tt ce) := ev_lc hc hN hi ok hg ht he (wipeM_le ω _) (fun i h => wipeM_un ω _ i h) his hs
theorem sv_setLcM (i : Nat) {y : Str} {py spos : Pos} {scope : Scope} (own : List (Str × Nat)) (hc : X.calm = true) (hN : X.N.Nodup) (hi : IV X N.H W ω tg iter ci) (ok : BlkOk X.N X.env.scope scope own)
    (hg : ∀ s H C cl fp, GV (Cx.bl X s H scope C cl fp) N.H is (wipeM ω (own.map (·.2))) tg ct ωt) (ht : ∀ s H C cl fp, PTs (Cx.bl X s H scope C cl fp) ifs (cT X N.H Wn ωt tt)) (he : ∀ s H C cl fp, EV (Cx.bl X s H scope C cl fp) N.H Wn ωt elt ce)
    (hsw : swapsWith (.ListComp elt [⟨tg, iter, ifs, 0⟩] scope pos) (some (.Name y py)) spos.line X.env = pure true) (his : ∀ i ∈ is, i ∈ own.map (·.2) := by decide) (hx : MdLe ωx ω = true := by rfl) (hwi : i < ω.length := by decide) (hy : X.N[i]? = some y := by rfl) (hyl : X.env.scope.names.lookup y = some .local := by rfl) (hs : ∀ x, foldedSetIterable iter X.env x = pure x := by intro _; rfl) :
    SV f X N W ωx ω (.Assign [.Name y py] (.ListComp elt [⟨tg, iter, ifs, 0⟩] scope pos) spos) (sSet i (cLc ci ct tt ce)) (ω.set i .ow) := sv_setLc i hc hN hi ok hg ht he (wipeM_le ω _) (fun i h => wipeM_un ω _ i h) his hsw hx hwi hy hyl hs
end
/-- a def that promises nothing -/
theorem fn_none {P : Program} {w : World} {K : PySem.W.Frag} {mg : Str → Option Value} {base : Heap} {CX : CXT} {k : Nat} {fa : Addr} {fd : FuncData} {ps : List Str} {f : Bool} : FnOk P w K mg base CX k fa fd ps (spD K mg f ps.length fun _ _ => .bad) :=
  ⟨fun vs H Q E ⟨_, _, _, _, _, _, _, o⟩ => o.elim, fun A outer s H args us vs Q E _ _ _ _ ⟨_, _, _, _, _, _, _, o⟩ => o.elim⟩
end Pv
namespace Pv
open PySem L2 PySem.W PyProof.Rows PySem.SeqAt
section
variable {f : Bool} {X : Cx} {N : Ent} {W : WX} {ωx ω ω2 : List Md} {st : Stmt} {a : SC} {pos : Pos}
/-- return x, x a list of one's own -/
theorem sv_retOwn (i : Nat) {x : Str} {p : Pos} (hi : ω[i]? = some .ow := by rfl) (hN : X.N[i]? = some x := by rfl) (hv : Vis X.env.scope x := by first | exact Or.inl rfl | exact Or.inr (Or.inl rfl) | exact Or.inr (Or.inr rfl)) (hd : (x == ("__debug__" : Str)) = false := by decide)
    (hcd : (x == ("__classdict__" : Str)) = false := by decide) : SV true X N W ωx ω (.Return (some (.Name x p)) pos) (sRet (cVar i)) ω2 :=
  PS.imp (ps_ret (pe_var hN hv hd hcd)) fun dn σ H ⟨Γ, m, ρ, Hs, t, b, en, o⟩ => by
    obtain ⟨a, h1, h2, h3, h4, h5, h6⟩ := en.ow i hi
    exact ⟨.ref a, h1, o a ρ Hs H t b h2 h3 h4 h5 h6⟩
/-- behind the statement the list in slot i is a value -/
theorem SV.frzA (i : Nat) (h : SV f X N W ωx ω st a ω2) (hi : ω2[i]? = some .ow := by rfl) : SV f X N W ωx ω st a (ω2.set i .sh) := PS.imp h fun dn σ H ⟨Γ, m, ρ, Hs, t, b, en, o⟩ => ⟨Γ, m, ρ, Hs, t, b, en, by
  cases hc : a Γ m with
  | nx Γ' m' =>
    rw [hc] at o
    intro σ' ρ' Hs' H' t' b' en'
    obtain ⟨Hs2, t2, s2, b2, en2⟩ := En.frz t'.1 b' en' hi
    exact o σ' ρ' Hs2 H' ⟨t2, t'.2.1, t'.2.2.trans s2⟩ b2 en2
  | rt d m' => rw [hc] at o; exact o
  | exc c fs Γ' m' => rw [hc] at o; exact o
  | bad => rw [hc] at o; exact o⟩
end
end Pv
end
section
set_option Elab.async false
set_option linter.all false
set_option maxRecDepth 100000
/-! Pv13: calls by keywords; the sum of a tuple. -/
namespace Pv
open PySem L2 PySem.W PyProof.Rows PySem.SeqAt
/-! ### f(k = v, ..) -/
theorem PK.imp {X : Cx} {kws : List Keyword} {t t' : TA} (h : PK X kws t) (q : ∀ σ H Q, t' σ H Q → t σ H Q) : PK X kws t' := ⟨fun pos pins s σ H Q I z => h.run pos pins s σ H Q I (q _ _ _ z)⟩
section
variable {X : Cx} {H0 : Hp} {W : WX} {ω : List Md} {e a : Expr} {c ca : EC} {cs : Gam → Mu → R (List D)} {f : Bool} {pos p kpos : Pos} {x : Str} {kws : List Keyword} {nm : Option Str}
/-- items by their places -/
def permL {α : Type} (is : List Nat) (xs : List α) : List α := is.filterMap fun i => xs[i]?
def cCallK (is : List Nat) (G : List D → Mu → R D) (cs : Gam → Mu → R (List D)) : EC := fun Γ m => (cs Γ m).bind fun ds m1 => G (permL is ds) m1
end
/-- the facts of a def from its function object -/
theorem fn_of' {P : Program} {w : World} {K : PySem.W.Frag} {mg : Str → Option Value} {base : Heap} {CX : CXT} {x : Str} {st : Stmt} {fa : Addr} {fd : FuncData} {k : Nat} {ps : List Str} {f : Bool} {G : List D → Mu → R D} (F : FnP K x st fa fd) (hm : mg x = some (.ref fa))
    (h : ∀ (kV doc pm : Value) (an : Option Addr) (cdv ct : Value) (us : List Value), us.length = ps.length → bindArgs (PySem.W.fnOf x x (defArgs st) (defBody st) (defScope st) .none kV doc pm an cdv ct) ⟨us, []⟩ = pure (ps.zip us))
    (o : Binds K fd ps [] → FnOk P w K mg base CX k fa fd ps (spD K mg f ps.length G)) : Fn P w K mg base CX x k ps f G := by
  have hb : Binds K fd ps [] := FunD.bindsN F h
  exact ⟨fa, fd, hm, F.kp, hb, o hb⟩
/-! ### sum(t) -/
section
variable {X : Cx}
theorem sum_tup {prog : Program} {w : World} {A : Around} {E : Value → Shared → Prop} {s : Shared} {t : Addr} {its : List Value} {ns : List Int} {Q : Value → Shared → Prop} (hh : A.handled = none) (ht : s.heap.IsTuple t its.toArray) (hi : IntsAre its ns)
    (h : ∀ h' tk t', (∀ b o, s.heap.get? b = some o → h'.get? b = some o) → Q (.int ns.sum t') { s with heap := h', toks := tk }) : wpAny (model prog w) A (call (.builtin "sum") [.ref t]) Q E s := by
  obtain ⟨xs, e⟩ := hi.allInts.items
  have hn : numsOf (intItems xs).toList = ns := by rw [← e]; exact hi.numsOf
  rw [nums_intItems] at hn
  rw [e] at ht
  have hlt : t < s.heap.objs.size := by obtain ⟨_, q, _⟩ := ht; exact Heap.lt_size q
  refine call_sum_walkG (wpAny_pyIter_tuple ht ?_)
  refine ⟨_, [_, t], [_], _, _, _, numAt xs, rfl, Walks.tuple (A := A.in1) hh s.heap.objs.size t (Nat.ne_of_lt hlt) (intItems xs), ⟨⟨_, Heap.get?_push_size _ rfl, rfl, rfl⟩, ht.push _⟩, fun b hb => ?_, fun _ _ => intItems_at, fun h' tk t' hk => ?_⟩
  · rw [Heap.size_push]
    rcases List.mem_cons.mp hb with z | z
    · rw [z]; exact Nat.lt_succ_self _
    · rw [List.mem_singleton.mp z]; exact Nat.lt_succ_of_lt hlt
  · have hold : ∀ b o, s.heap.get? b = some o → h'.get? b = some o := fun b o q => by
      refine hk b o (fun z => ?_) (Heap.get?_push_of_some _ q)
      rw [List.mem_singleton.mp z] at q
      exact absurd (Heap.lt_size q) (Nat.lt_irrefl _)
    have := h h' tk t' hold
    have hz : (intItems xs).size = xs.size := by simp [intItems]
    rw [hz, preSum_eq, List.take_of_length_le (by simp), hn]
    exact this
theorem cr_sumT (hc : X.calm = true) : CallR X (.builtin "sum") fun vs H Q => ∃ (a : Addr) (ns : List Int), vs = [V.ref a] ∧ SqT X.K H a (ns.map V.int) ∧ Q (.int ns.sum) H := by
  intro pins s σ H xs us Q I r ⟨a, ns, e, hs, q⟩
  subst e
  obtain ⟨u, rfl, ru⟩ := vals1 r
  cases ru
  obtain ⟨its, rv, pl, hz⟩ := I.tuple hs
  exact sum_tup (I.ok.hd hc) pl (intsAre_of rv) fun h' tk t' hk => ⟨.int _, H, I.kept (t' := tk) hk, ⟨_, rfl⟩, q⟩
def sumD' : Mu → D → Option D
  | _, .lst xs => (intsOf xs).map fun bs => .int bs.sum
  | _, .tup xs => (intsOf xs).map fun bs => .int bs.sum
  | _, _ => none
theorem ev_sum' {H0 : Hp} {W : WX} {ω : List Md} {a : Expr} {ca : EC} {p pos : Pos} (B : Bn X.mg) (hc : X.calm = true) (ha : BV X H0 W ω a ca) (hg : Gl X "sum" := by rfl) (he : starEach [a] X.env = [(false, eval a X.env)] := by rfl) : EV X H0 W ω (.Call (.Name "sum" p) [a] [] pos) (c1 sumD' ca) :=
  EB.ev (ev_callB (CallR.or (cr_sum hc) (cr_sumT hc)) (fun x H Q W ρ m Hs d z b hx hg o => by
    cases d <;> simp only [sumD'] at hg <;> try (cases hg; done)
    case lst ds =>
      obtain ⟨bs, hb, rfl⟩ := Option.map_eq_some_iff.mp hg
      obtain ⟨a, vs, rfl, h1, h2⟩ := hx.items b
      rw [intsOf_eq hb] at h2
      rw [h2.ints'] at h1
      exact .inl ⟨a, bs, rfl, .inl (.inl h1), o.val b (.int _)⟩
    case tup ds =>
      obtain ⟨bs, hb, rfl⟩ := Option.map_eq_some_iff.mp hg
      obtain ⟨a, vs, rfl, h1, h2, _⟩ := hx.itemsT b
      rw [intsOf_eq hb] at h2
      rw [h2.ints'] at h1
      exact .inr ⟨a, bs, rfl, h1, o.val b (.int _)⟩) hg B.sum (by decide +kernel) ha (by decide) (by decide) he)
end
end Pv
end
section
set_option Elab.async false
set_option linter.all false
set_option maxRecDepth 100000
/-! Pv14: a value taken apart into several names; several names at once. -/
namespace Pv
open PySem L2 PySem.W PyProof.Rows PySem.SeqAt
section
variable {f : Bool} {X : Cx} {N : Ent} {W : WX} {ωx ω ω' : List Md} {st : Stmt} {tg e : Expr} {c : EC} {ct : GC} {is : List Nat} {pos : Pos}
/-- target = value -/
def sAsg (c : EC) (ct : GC) : SC := fun Γ m => toS (c Γ m) Γ fun d m' => match ct d Γ with
  | some Γ' => .nx Γ' m'
  | none => .bad
theorem sv_asg (he : EV X N.H W ω e c) (hg : GV X N.H is ω tg ct ω') (hx : MdLe ωx ω = true := by rfl) (hs : swapsWithSole [tg] e pos.line X.env = pure false := by rfl) (hw : swappedStores [tg] e X.env = pure none := by rfl)
    (h1 : (assignEach [tg] X.env).map (·.2) = [assign tg X.env] := by rfl) : SV f X N W ωx ω (.Assign [tg] e pos) (sAsg c ct) ω' :=
  PS.imp (ps_asg he hg hs hw h1) fun dn σ H ⟨Γ, m, ρ, Hs, t, b, en, o⟩ => ⟨Γ, m, ρ, Hs, b, en, toS_out t en hx o fun d m' v ρ' Hs' H' _ o' t' b' r' => by
    cases hq : ct d Γ with
    | none => rw [hq] at o'; exact o'.elim
    | some Γ' =>
      rw [hq] at o'
      exact ⟨Γ, m', ρ', Hs', d, Γ', b', en.mono t', r', hq, fun σ' _ en' => o' σ' ρ' Hs' H' (.mk t t') b' en'⟩⟩
/-! several names at once: each value is one's own new list or a value -/
def setAll {α : Type} : List α → List Nat → List α → List α
  | xs, i :: is, d :: ds => setAll (xs.set i d) is ds
  | xs, _, _ => xs
def sParN (is : List Nat) (cs : Gam → Mu → R (List D)) : SC := fun Γ m => toSL (cs Γ m) Γ fun ds m' => .nx (setAll Γ is ds) m'
/-- the values, one behind the other -/
def cAB (X : Cx) (H0 : Hp) (W : WX) (ω : List Md) : List (Bool × EC) → TA
  | [] => tNil
  | (g, c) :: r => tCons (cEB g X H0 W ω c) (cAB X H0 W ω r)
def cAll : List (Bool × EC) → Gam → Mu → R (List D)
  | [] => aNil
  | (_, c) :: r => aCons c (cAll r)
theorem parN_go : ∀ (l : List (Bool × EC)) (is : List Nat) {Γ Γk : Gam} {σ σk : L2.St} {m : Mu} {ρ : List Addr} {Hs H : Hp} {ωk : List Md} {dn : Ends} {Q : List V → Hp → Prop}, l.length = is.length → (∀ i ∈ is, i < ωk.length) → N.tr ρ Hs H → Bs X.K ρ m Hs H → En X.K N.H ω Γ ρ Hs H σ → En X.K N.H ωk Γk ρ Hs H σk → MdLe ωx ω = true →
    SOut f X N W ωx (setAll ωk is (l.map fun p => mdB p.1)) ρ Hs (toSL (cAll l Γ m) Γ fun ds m' => .nx (setAll Γk is ds) m') dn → (∀ vs ρ' m' Γ' Hs' H', vs.length = is.length → Fwd N ρ Hs ρ' Hs' H' → Bs X.K ρ' m' Hs' H' → En X.K N.H (setAll ωk is (l.map fun p => mdB p.1)) Γ' ρ' Hs' H' (setAll σk is (vs.map some)) → SOut f X N W ωx (setAll ωk is (l.map fun p => mdB p.1)) ρ' Hs' (.nx Γ' m') dn → Q vs H') → cAB X N.H W ω l σ H Q
  | [], [], Γ, Γk, σ, σk, m, ρ, Hs, H, ωk, dn, Q, _, _, t, b, en, ek, hx, o, q => q [] ρ m Γk Hs H rfl (.same t) b ek o
  | [], _ :: _, _, _, _, _, _, _, _, _, _, _, _, h, _, _, _, _, _, _, _, _ => by cases h
  | _ :: _, [], _, _, _, _, _, _, _, _, _, _, _, h, _, _, _, _, _, _, _, _ => by cases h
  | (g, c) :: l, i :: is, Γ, Γk, σ, σk, m, ρ, Hs, H, ωk, dn, Q, hl, hi, t, b, en, ek, hx, o, q => by
    refine ⟨Γ, m, ρ, Hs, b, en, ?_⟩
    have o : SOut f X N W ωx (setAll ωk (i :: is) (mdB g :: l.map fun p => mdB p.1)) ρ Hs (toSL ((c Γ m).bind fun d m1 => (cAll l Γ m1).bind fun ds m2 => .ok (d :: ds) m2) Γ fun ds m' => .nx (setAll Γk (i :: is) ds) m') dn := o
    have e : toSL ((c Γ m).bind fun d m1 => (cAll l Γ m1).bind fun ds m2 => .ok (d :: ds) m2) Γ (fun ds m' => .nx (setAll Γk (i :: is) ds) m') = toS (c Γ m) Γ fun d m1 => toSL (cAll l Γ m1) Γ fun ds m' => .nx (setAll (Γk.set i d) is ds) m' := by
      cases c Γ m with
      | ok d m1 => show toSL ((cAll l Γ m1).bind _) Γ _ = toSL (cAll l Γ m1) Γ _; cases cAll l Γ m1 <;> rfl
      | exc _ _ _ => rfl
      | bad => rfl
    rw [e] at o
    refine toS_outB t en hx o fun d m1 v ρ1 Hs1 H1 hq1 o1 t1 b1 r1 => ?_
    have e1 := (ek.mono t1).setB (g := g) (hi i List.mem_cons_self) r1 (fun a h => t.dom a h) fun _ k a hk hs => ek.owIn k a hk hs
    refine parN_go l is (Γk := Γk.set i d) (σk := σk.set i (some v)) (ωk := ωk.set i (mdB g)) (dn := dn) (by simpa using hl) (fun j hj => by rw [List.length_set]; exact hi j (List.mem_cons_of_mem _ hj)) (t.trans t1) b1 (en.mono t1) e1 hx (SOut.fwd t1.pre t1.sub o1) fun vs ρ2 m2 Γ2 Hs2 H2 h1 h2 h3 h4 h5 => ?_
    exact q (v :: vs) ρ2 m2 Γ2 Hs2 H2 (by simpa using h1) ⟨h2.1, t1.pre.trans h2.2.1, t1.sub.trans h2.2.2⟩ h3 h4 h5
theorem sv_par3 (i j k : Nat) (l : List (Bool × EC)) (hl : l.length = 3) (hp : PS X st (tPar3 i j k (cAB X N.H W ω l))) (hx : MdLe ωx ω = true := by rfl) (hi : i < ω.length := by decide) (hj : j < ω.length := by decide) (hk : k < ω.length := by decide) :
    SV f X N W ωx ω st (sParN [i, j, k] (cAll l)) (setAll ω [i, j, k] (l.map fun p => mdB p.1)) :=
  PS.imp hp fun dn σ H ⟨Γ, m, ρ, Hs, t, b, en, o⟩ => parN_go l [i, j, k] hl (fun n hn => by simp at hn; rcases hn with rfl | rfl | rfl <;> assumption) t b en en hx o fun vs ρ' m' Γ' Hs' H' h1 h2 h3 h4 h5 =>
    match vs, h1, h4 with
    | [u, v, w], _, h4 => ⟨u, v, w, rfl, h5 _ ρ' Hs' H' (.same h2.1) h3 h4⟩
/-- the plain stores -/
def gNames : List Nat → TGs
  | [] => gNil
  | i :: is => gCons (gName i) (gNames is)
theorem gNames_run {Q : L2.St → Hp → Prop} {H : Hp} : ∀ (is : List Nat) (vs : List V) (σ : L2.St), vs.length = is.length → Q (setAll σ is (vs.map some)) H → gNames is vs σ H Q
  | [], [], σ, _, q => ⟨rfl, q⟩
  | [], _ :: _, _, h, _ => by cases h
  | _ :: _, [], _, h, _ => by cases h
  | i :: is, v :: vs, σ, h, q => ⟨v, vs, rfl, gNames_run is vs _ (by simpa using h) q⟩
theorem sv_parN {es ts : List Expr} {kt k2 : Nat} {pt pt2 : Pos} (is : List Nat) (l : List (Bool × EC)) (hc : X.calm = true) (hl : l.length = is.length) (ha : PA X es (cAB X N.H W ω l)) (hg : PGs X ts (gNames is)) (hsz : is.length ≤ sizeLine := by decide) (hx : MdLe ωx ω = true := by rfl) (hi : ∀ i ∈ is, i < ω.length := by decide)
    (hn : (assignEach ts X.env).length = is.length := by rfl) (hst : (assignEach ts X.env).findIdx? (·.1) = none := by rfl) (hs : swapsWithSole [.Tuple ts kt pt] (.Tuple es k2 pt2) pos.line X.env = pure false := by rfl) (hw : swappedStores [.Tuple ts kt pt] (.Tuple es k2 pt2) X.env = pure none := by rfl)
    (h1 : (assignEach [.Tuple ts kt pt] X.env).map (·.2) = [assign (.Tuple ts kt pt) X.env] := by rfl) : SV f X N W ωx ω (.Assign [.Tuple ts kt pt] (.Tuple es k2 pt2) pos) (sParN is (cAll l)) (setAll ω is (l.map fun p => mdB p.1)) :=
  PS.imp (ps_asg (pe_tup ha) (pg_tup hc hg hn hst) hs hw h1) fun dn σ H ⟨Γ, m, ρ, Hs, t, b, en, o⟩ => parN_go l is hl hi t b en en hx o fun vs ρ' m' Γ' Hs' H' z1 h2 h3 h4 h5 => by
    refine ⟨by rw [z1]; exact hsz, fun q hq => ⟨q, vs, rfl, .inl (.inl (upd_same ..)), z1, gNames_run is vs σ z1 ?_⟩⟩
    have tq : Tr ρ' Hs' H' ρ' Hs' (upd H' q (.tup vs)) := tr_newF hq
    exact h5 _ ρ' Hs' _ ⟨h2.1.trans tq, .refl _, .refl _⟩ (h3.newF hq) (h4.mono tq)
end
end Pv
end
section
set_option Elab.async false
set_option linter.all false
set_option maxRecDepth 100000
/-! Pv15: sorted. -/
namespace Pv
open PySem L2 PySem.W PyProof.Rows PySem.SeqAt PySem.Calls
/-! ### any alike data can be sorted, empty tuples too -/
section
variable {prog : Program} {w : World} {A : Around} {s : Shared} {M : Model} {E : Value → Shared → Prop}
theorem call_tuple_lt {Q : Value → Shared → Prop} {l b : Addr} {items items2 : Array Value} {e r : Nat → Bool} (hl : s.heap.IsTuple l items) (hb : s.heap.IsTuple b items2)
    (he : ∀ j (h1 : j < items.size) (h2 : j < items2.size), EqAt A.in1 s items[j] items2[j] (e j)) (hr : ∀ j (h1 : j < items.size) (h2 : j < items2.size), e j = false → RcLt A.in1 s items[j] items2[j] (r j))
    (h : Q (.bool (firstLt e r (decide (items.size < items2.size)) (List.range (min items.size items2.size)))) s) : wpAny (model prog w) A (call (.builtin "tuple.__lt__") [.ref l, .ref b]) Q E s := by
  obtain ⟨⟨k1, k2, k3, k4⟩, ho, q1, n, q2⟩ := id hl
  obtain ⟨⟨z1, z2, z3, z4⟩, ho2, y1, n2, y2⟩ := id hb
  simp only at q1 q2 y1 y2
  subst q1 q2 y1 y2
  exact call_meets F.slot_tuple_lt ⟨_, ho, rfl⟩ F.entry_tuple_lt (F.args_tuple_lt_2 _ _) (tuple_ltAt l b items items2 n n2 k2 z2 k4 z4 e r) ⟨ho, ho2, he, hr, h⟩
theorem oneLt_tup {xs ys : List PyData} {a b : Value} {as bs : List Addr} {Q : Bool → Shared → Prop} (ra : Reads s.heap a (.tuple xs) as) (rb : Reads s.heap b (.tuple ys) bs) (h : alike (.tuple xs) (.tuple ys) = true)
    (hu : A.units + min (PyData.tuple xs).depth (PyData.tuple ys).depth < cLine) (hq : Q (dataLt (.tuple xs) (.tuple ys)) s) : wpAny (model prog w) A (oneLt' true a b) Q E s := by
  have hal : alikeAll xs ys = true := by simpa [alike] using h
  cases ra with
  | @tuple l o vs n _ as₁ h1 h2 h3 h4 =>
    cases rb with
    | @tuple l' o' vs' n' _ bs₁ k1 k2 k3 k4 =>
      have n1 : vs.size = xs.length := by simpa using SeqAt.ReadsAll.length _ _ _ h4
      have n2 : vs'.size = ys.length := by simpa using SeqAt.ReadsAll.length _ _ _ k4
      rw [dataLt_tuple, ← firstLt_toks xs ys hal, ← n1, ← n2] at hq
      rw [oneLt'_eq]
      simp only [if_true]
      refine wpAny_bind (wpAny_cRoomFor (room_here hu) ?_)
      refine wpAny_bind (wpAny_callSpecialIfBound?_slot (T := "tuple") ⟨_, h1, h2⟩ F.slot_tuple_lt (call_tuple_lt (e := pairEq xs ys) (r := fun j => dataLt (xs.getD j .none) (ys.getD j .none)) ⟨_, h1, h2, _, h3⟩ ⟨_, k1, k2, _, k3⟩ (fun j j1 j2 => ?_) (fun j j1 j2 hj => ?_) ?_))
      · have := eqAt_alikeAll xs ys A.in1 s vs.toList vs'.toList _ _ h4 k4 hal (room_in hu) j (by simpa using j1) (by simpa using j2)
        simpa using this
      · have := rcLt_alikeAll xs ys A.in1 s vs.toList vs'.toList _ _ h4 k4 hal (room_in hu) j (by simpa using j1) (by simpa using j2) hj
        simpa using this
      · exact wpAny_truthy_bool hq
theorem first_tups : ∀ (vs : List Value) (ds : List PyData) {Q : List (Option Value) → Shared → Prop}, EachIs (fun v d => ∃ as, Reads s.heap v d as) vs ds → (∀ d ∈ ds, ∃ xs, d = .tuple xs) → (∀ fs, EachIs (fun (f : Option Value) d => f.isSome = true ↔ ∃ x r, d = PyData.tuple (x :: r)) fs ds → Q fs s) → wpAny M A (vs.mapM firstOfTuple') Q E s
  | _, _, Q, .nil, _, h => by rw [List.mapM_nil]; exact wpAny_pure (h [] .nil)
  | _, _, Q, .cons (as := vs) (bs := ds) (a := v) (b := d) ⟨as, r⟩ t, ht, h => by
    rw [List.mapM_cons]
    refine wpAny_bind ?_
    rw [kas_first_eq]
    obtain ⟨xs, rfl⟩ := ht d List.mem_cons_self
    cases r with
    | @tuple a o vs' n _ as₁ h1 h2 h3 h4 =>
      refine wpAny_bind (Looks.here (show Looks M s.heap (typeOf (.ref a)) o.cls from (Looks.ld h1).andThen .now) ?_)
      rw [h2, if_neg (by first | decide | simp)]
      refine wpAny_bind (listItems_at h1 h3 (wpAny_pure ?_))
      refine wpAny_bind (first_tups vs ds t (fun d hd => ht d (List.mem_cons_of_mem _ hd)) fun fs hf => wpAny_pure (h _ (.cons ?_ hf)))
      have n1 : vs'.size = xs.length := by simpa using SeqAt.ReadsAll.length _ _ _ h4
      constructor
      · intro q
        cases xs with
        | nil => rw [Array.getElem?_eq_none (by rw [n1]; exact Nat.le_refl _)] at q; cases q
        | cons x r => exact ⟨x, r, rfl⟩
      · rintro ⟨x, r, e⟩
        cases e
        rw [Array.getElem?_eq_getElem (by rw [n1]; exact Nat.succ_pos _)]
        rfl
theorem EachIs_right {α β : Type} {R : α → β → Prop} : ∀ {as : List α} {bs : List β}, EachIs R as bs → ∀ b ∈ bs, ∃ a ∈ as, R a b
  | _, _, .nil, _, h => by cases h
  | _, _, .cons h t, b, hb => by
    rcases List.mem_cons.mp hb with rfl | hb
    · exact ⟨_, List.mem_cons_self, h⟩
    · obtain ⟨a, ha, q⟩ := EachIs_right t b hb
      exact ⟨a, List.mem_cons_of_mem _ ha, q⟩
open Classical in
theorem kind_tups {vs : List Value} {ds : List PyData} {kd : SortKind} {Q : SortKind → Shared → Prop} (e : EachIs (fun v d => ∃ as, Reads s.heap v d as) vs ds) (ht : ∀ d ∈ ds, ∃ xs, d = .tuple xs) (d₀ : PyData) (ds₀ : List PyData) (hds : ds = d₀ :: ds₀)
    (hbad : ¬ ∀ d ∈ ds, ∃ x r, d = PyData.tuple (x :: r)) (hk : kd = if (∃ x r, d₀ = PyData.tuple (x :: r)) then general' else oneType') (h : Q kd s) : wpAny M A (keyKind' vs.toArray) Q E s := by
  subst hds
  rw [keyKind'_eq, List.mapM_toArray, map_eq_pure_bind]
  refine wpAny_bind (wpAny_bind (first_tups vs _ e ht fun fs hf => wpAny_pure ?_))
  have hnall : ¬ (fs.toArray.all fun x => x.isSome) = true := by
    intro q
    simp only [List.all_toArray, List.all_eq_true] at q
    apply hbad
    intro d hd
    obtain ⟨f, hfm, hi⟩ := EachIs_right hf d hd
    exact hi.mp (q f hfm)
  rw [if_neg hnall]
  cases hf with
  | @cons f fs _ _ hi hf =>
    by_cases h0 : ∃ x r, d₀ = PyData.tuple (x :: r)
    · rw [if_pos (by simpa using hi.mpr h0)]
      rw [if_pos h0] at hk
      subst hk
      exact wpAny_pure h
    · rw [if_neg (by simpa using fun z => h0 (hi.mp z))]
      rw [if_neg h0] at hk
      subst hk
      rw [oneTypeOnly'_eq, List.mapM_toArray, map_eq_pure_bind]
      have hT : ∀ v ∈ vs, Looks M s.heap (typeOf v) (Value.type "tuple") := fun v hv => by
        obtain ⟨d, hd, as, r⟩ := e.left v hv
        obtain ⟨xs, rfl⟩ := ht d hd
        exact looks_reads r
      refine wpAny_bind (wpAny_bind (wpAny_bind (kas_mapM (r := Value.type "tuple") _ (fun v hv Q' hq => (hT v hv).here hq) (wpAny_pure ?_))))
      obtain ⟨v, vs, rfl⟩ : ∃ v vs', vs = v :: vs' := by cases e; exact ⟨_, _, rfl⟩
      · have hall : ((List.map (fun _ => Value.type "tuple") (v :: vs)).toArray.all fun x => x == Value.type "tuple") = true := by
          simp only [List.all_toArray, List.all_map, List.all_eq_true]
          intro _ _
          exact beq_self_eq_true _
        have h0 : (List.map (fun _ => Value.type "tuple") (v :: vs)).toArray[0]? = some (Value.type "tuple") := by simp
        rw [h0]
        simp only [hall, if_true]
        exact wpAny_pure (wpAny_pure h)
theorem alike_tup {d d' : PyData} (h : alike d d' = true) {xs : List PyData} (e : d = .tuple xs) : ∃ ys, d' = .tuple ys := by
  subst e
  cases d' <;> first | exact ⟨_, rfl⟩ | (exact absurd h (by simp [alike]))
/-- values that read as alike data, none of them None, can be sorted -/
theorem sortsAt_any {vs : List Value} {ds : List PyData} (e : EachIs (fun v d => ∃ as, Reads s.heap v d as) vs ds) (hal : AllAlike ds) (hn : ∀ d ∈ ds, d ≠ .none) (hu : ∀ d, d ∈ ds → A.units + d.depth < cLine) : SortsAt prog w A s (dataKind s.heap ds) vs := by
  by_cases hT : ∀ d ∈ ds, ∀ xs, d ≠ .tuple xs
  · exact SortsAt.data e hal (.inr fun d hd => ⟨hn d hd, hT d hd⟩) hu
  by_cases hne : ∀ d ∈ ds, ∃ x r, d = PyData.tuple (x :: r)
  · exact SortsAt.data e hal (.inl hne) hu
  have ht : ∀ d ∈ ds, ∃ xs, d = .tuple xs := by
    intro d hd
    apply Classical.byContradiction
    intro hc
    apply hT
    intro d' hd' xs hx
    exact hc (alike_tup (hal d' hd' d hd) hx)
  have room : ∀ {d d' : PyData}, d ∈ ds → A.units + min d.depth d'.depth < cLine := fun {d d'} hd => Nat.lt_of_le_of_lt (Nat.add_le_add_left (Nat.min_le_left _ _) _) (hu d hd)
  refine ⟨fun v hv => ?_, ?_⟩
  · obtain ⟨d, hd, as, r⟩ := e.left v hv
    exact ⟨_, dataKind_some hal hd r⟩
  · cases hds : ds with
    | nil => subst hds; exact absurd (fun d hd => by cases hd) hne
    | cons d₀ ds₀ =>
      rw [← hds]
      open Classical in
      refine ⟨if (∃ x r, d₀ = PyData.tuple (x :: r)) then general' else oneType', ?_, fun _ E' Q hq => kind_tups e ht d₀ ds₀ hds hne rfl hq⟩
      intro E' x y a b Q ha hb hq
      obtain ⟨d, as, hd, ra, rfl⟩ := dataKind_inv ha
      obtain ⟨d', as', hd', rb, rfl⟩ := dataKind_inv hb
      split
      · show wpAny _ _ (oneLt' false x y) _ _ _
        exact oneLt_alike (fun z => nomatch z) ra rb (hal d hd d' hd') (hn d hd) (room hd) hq
      · rw [keyLt'_oneType]
        obtain ⟨xs, rfl⟩ := ht d hd
        obtain ⟨ys, rfl⟩ := ht d' hd'
        exact oneLt_tup ra rb (hal _ hd _ hd') (room hd) hq
end
/-! ### the sorted list -/
mutual
theorem alk_eqv : ∀ {d e : D}, d.alk e = true → d.eqv e = true → d = e
  | .non, e, h, q => by cases e <;> simp [D.alk] at h; rfl
  | .bl a, e, h, q => by cases e <;> simp [D.alk] at h; simp [D.eqv] at q; rw [q]
  | .int a, e, h, q => by cases e <;> simp [D.alk] at h; simp [D.eqv] at q; rw [q]
  | .str a, e, h, q => by cases e <;> simp [D.alk] at h; simp [D.eqv] at q; rw [q]
  | .lst xs, e, h, q => by cases e <;> simp [D.alk] at h; simp only [D.eqv] at q; rw [alkAll_eqv h q]
  | .tup xs, e, h, q => by cases e <;> simp [D.alk] at h; simp only [D.eqv] at q; rw [alkAll_eqv h q]
  | .dct _ _, _, h, _ | .set _, _, h, _ | .exc _ _, _, h, _ | .box _, _, h, _ | .scr _, _, h, _ => by simp [D.alk] at h
theorem alkAll_eqv : ∀ {xs ys : List D}, alkAll xs ys = true → eqvAll xs ys = true → xs = ys
  | [], [], _, _ => rfl
  | [], _ :: _, _, q => by simp [eqvAll] at q
  | _ :: _, [], _, q => by simp [eqvAll] at q
  | x :: xs, y :: ys, h, q => by
    simp only [alkAll, Bool.and_eq_true] at h
    simp only [eqvAll, Bool.and_eq_true] at q
    rw [alk_eqv h.1 q.1, alkAll_eqv h.2 q.2]
end
mutual
theorem eqv_self : ∀ {d : D}, d.alk d = true → d.eqv d = true
  | .non, _ => by simp [D.eqv]
  | .bl a, _ => by simp [D.eqv]
  | .int a, _ => by simp [D.eqv]
  | .str a, _ => by simp [D.eqv]
  | .lst xs, h => by simp only [D.alk] at h; simp only [D.eqv]; exact eqvAll_self h
  | .tup xs, h => by simp only [D.alk] at h; simp only [D.eqv]; exact eqvAll_self h
  | .dct _ _, h | .set _, h | .exc _ _, h | .box _, h | .scr _, h => by simp [D.alk] at h
theorem eqvAll_self : ∀ {xs : List D}, alkAll xs xs = true → eqvAll xs xs = true
  | [], _ => by simp [eqvAll]
  | x :: xs, h => by
    simp only [alkAll, Bool.and_eq_true] at h
    simp only [eqvAll, Bool.and_eq_true]
    exact ⟨eqv_self h.1, eqvAll_self h.2⟩
end
mutual
theorem alk_tri : ∀ {d e : D}, d.alk e = true → d.lt e = false → e.lt d = false → d = e
  | .non, e, h, p, q => by cases e <;> simp [D.alk] at h; rfl
  | .bl a, e, h, p, q => by cases e <;> simp [D.alk] at h; rename_i b; cases a <;> cases b <;> simp [D.lt] at p q <;> rfl
  | .int a, e, h, p, q => by cases e <;> simp [D.alk] at h; simp [D.lt] at p q; congr; omega
  | .str a, e, h, p, q => by
    cases e <;> simp [D.alk] at h
    rename_i b
    simp only [D.lt, decide_eq_false_iff_not] at p q
    have := List.le_antisymm (List.not_lt.mp q) (List.not_lt.mp p)
    congr
    cases a; cases b
    simp at this
    congr
  | .lst xs, e, h, p, q => by cases e <;> simp [D.alk] at h; simp only [D.lt] at p q; rw [alkAll_tri h p q]
  | .tup xs, e, h, p, q => by cases e <;> simp [D.alk] at h; simp only [D.lt] at p q; rw [alkAll_tri h p q]
  | .dct _ _, _, h, _, _ | .set _, _, h, _, _ | .exc _ _, _, h, _, _ | .box _, _, h, _, _ | .scr _, _, h, _, _ => by simp [D.alk] at h
theorem alkAll_tri : ∀ {xs ys : List D}, alkAll xs ys = true → ltAll xs ys = false → ltAll ys xs = false → xs = ys
  | [], [], _, _, _ => rfl
  | [], _ :: _, _, p, _ => by simp [ltAll] at p
  | _ :: _, [], _, _, q => by simp [ltAll] at q
  | x :: xs, y :: ys, h, p, q => by
    simp only [alkAll, Bool.and_eq_true] at h
    simp only [ltAll] at p q
    by_cases z : x.eqv y = true
    · have e := alk_eqv h.1 z
      subst e
      rw [if_pos z] at p q
      rw [alkAll_tri h.2 p q]
    · rw [if_neg z] at p
      by_cases z' : y.eqv x = true
      · have e := alk_eqv (alk_comm h.1) z'
        subst e
        exact absurd z' z
      · rw [if_neg z'] at q
        have e := alk_tri h.1 p q
        subst e
        exact (by
          have : x.eqv x = true := eqv_self h.1
          exact absurd this z)
end
def insD (x : D) : List D → List D
  | [] => [x]
  | y :: ys => if y.lt x then y :: insD x ys else x :: y :: ys
def isort : List D → List D
  | [] => []
  | x :: xs => insD x (isort xs)
def alkP (xs : List D) : Bool := xs.all fun x => xs.all fun y => x.alk y
def sortOk (xs : List D) : Bool := plAll PLN xs && alkP xs && !xs.any isNone
theorem insD_perm (x : D) : ∀ ys : List D, (insD x ys).Perm (x :: ys)
  | [] => .refl _
  | y :: ys => by
    unfold insD
    split
    · exact ((insD_perm x ys).cons y).trans (.swap x y ys)
    · exact .refl _
theorem isort_perm : ∀ xs : List D, (isort xs).Perm xs
  | [] => .refl _
  | x :: xs => (insD_perm x _).trans ((isort_perm xs).cons x)
/-- not e < d -/
def leD' (d e : D) : Prop := e.lt d = false
section
variable {S : List D} (hp : plAll PLN S = true) (ha : alkP S = true)
include hp ha
theorem alkP_get {d e : D} (hd : d ∈ S) (he : e ∈ S) : d.alk e = true := by
  unfold alkP at ha
  rw [List.all_eq_true] at ha
  have := ha d hd
  rw [List.all_eq_true] at this
  exact this e he
theorem le_py {d e : D} (hd : d ∈ S) (he : e ∈ S) : dataLe false D.toPy d e = !(e.lt d) := by
  rw [dataLe_eq]
  show (!dataLt e.toPy d.toPy) = _
  rw [lt_py (plAll_mem hp e he) (plAll_mem hp d hd) (alkP_get hp ha he hd)]
theorem le_trans' {a b c : D} (h1 : a ∈ S) (h2 : b ∈ S) (h3 : c ∈ S) (p : leD' a b) (q : leD' b c) : leD' a c := by
  have := (sortLe_total (listOrd itemOrd) false fun b : D => keyToks b.toPy).trans a b c
  have e1 := le_py hp ha h1 h2
  have e2 := le_py hp ha h2 h3
  have e3 := le_py hp ha h1 h3
  unfold dataLe at e1 e2 e3
  rw [e1, e2, e3] at this
  unfold leD' at p q ⊢
  rw [p, q] at this
  simpa using this
theorem le_total' {a b : D} (h1 : a ∈ S) (h2 : b ∈ S) : leD' a b ∨ leD' b a := by
  have := (sortLe_total (listOrd itemOrd) false fun b : D => keyToks b.toPy).total a b
  have e1 := le_py hp ha h1 h2
  have e2 := le_py hp ha h2 h1
  unfold dataLe at e1 e2
  rw [e1, e2] at this
  unfold leD'
  simpa using this
theorem insD_sorted {x : D} (hx : x ∈ S) : ∀ {ys : List D}, (∀ y ∈ ys, y ∈ S) → ys.Pairwise leD' → (insD x ys).Pairwise leD'
  | [], _, _ => by simp [insD]
  | y :: ys, hm, h => by
    have hy := hm y List.mem_cons_self
    have hz : ∀ z ∈ ys, z ∈ S := fun z q => hm z (List.mem_cons_of_mem _ q)
    rw [List.pairwise_cons] at h
    unfold insD
    split
    · rename_i q
      rw [List.pairwise_cons]
      refine ⟨fun z hq => ?_, insD_sorted hx hz h.2⟩
      rcases List.mem_cons.mp ((insD_perm x ys).mem_iff.mp hq) with rfl | hq
      · rcases le_total' hp ha hy hx with r | r
        · exact r
        · unfold leD' at r; rw [q] at r; cases r
      · exact h.1 z hq
    · rename_i q
      have q : leD' x y := by unfold leD'; simpa using q
      rw [List.pairwise_cons, List.pairwise_cons]
      refine ⟨fun z hq => ?_, h⟩
      rcases List.mem_cons.mp hq with rfl | hq
      · exact q
      · exact le_trans' hp ha hx hy (hz z hq) q (h.1 z hq)
theorem isort_sorted : ∀ {xs : List D}, (∀ y ∈ xs, y ∈ S) → (isort xs).Pairwise leD'
  | [], _ => .nil
  | x :: xs, h => insD_sorted hp ha (h x List.mem_cons_self) (fun y hy => h y (List.mem_cons_of_mem _ ((isort_perm xs).mem_iff.mp hy))) (isort_sorted fun y hy => h y (List.mem_cons_of_mem _ hy))
theorem isort_unique {xs ys : List D} (hx : ∀ y ∈ xs, y ∈ S) (pm : ys.Perm xs) (h : ys.Pairwise leD') : ys = isort xs := by
  refine List.Perm.eq_of_pairwise (le := leD') (fun a b m1 m2 p q => ?_) h (isort_sorted hp ha hx) (pm.trans (isort_perm xs).symm)
  have a1 := hx a (pm.mem_iff.mp m1)
  have a2 := hx b ((isort_perm xs).mem_iff.mp m2)
  exact alk_tri (alkP_get hp ha a1 a2) q p
end
theorem isort_merge {bs : List (V × D)} (hp : plAll PLN (bs.map (·.2)) = true) (ha : alkP (bs.map (·.2)) = true) : (bs.mergeSort (dataLe false fun p => p.2.toPy)).map (·.2) = isort (bs.map (·.2)) := by
  refine isort_unique hp ha (fun y hy => hy) ((List.mergeSort_perm ..).map _) ?_
  have := sort_pairwise (sortLe_total (listOrd itemOrd) false fun b : V × D => keyToks b.2.toPy) bs
  rw [List.pairwise_map]
  refine List.Pairwise.imp_of_mem (fun {a b} m1 m2 q => ?_) this
  have n1 : a.2 ∈ bs.map (·.2) := List.mem_map.mpr ⟨a, List.mem_mergeSort.mp m1, rfl⟩
  have n2 : b.2 ∈ bs.map (·.2) := List.mem_map.mpr ⟨b, List.mem_mergeSort.mp m2, rfl⟩
  have e := le_py hp ha n1 n2
  unfold dataLe at e
  have q : sortLe (listOrd itemOrd) false (fun b : D => keyToks b.toPy) a.2 b.2 = true := q
  rw [e] at q
  unfold leD'
  simpa using q
/-! ### sorted(xs) -/
section
variable {X : Cx} {f : Bool}
def rSortD (K : PySem.W.Frag) : List V → Hp → VK → Prop := fun vs H Q => ∃ (p : Addr) (bs : List (V × D)) (ρ : List Addr), vs = [V.ref p] ∧ SqL K H p (bs.map (·.1)) ∧ (∀ b ∈ bs, Rep K ρ H b.1 b.2) ∧ sortOk (bs.map (·.2)) = true ∧
  ∀ (cs : List (V × D)) (l : Addr), cs.Perm bs → cs.map (·.2) = isort (bs.map (·.2)) → H l = none → Q (.ref l) (upd H l (.lst (cs.map (·.1))))
theorem each_vals : ∀ {bs : List (V × D)} {us : List Value}, Vals (bs.map (·.1)) us → EachIs (fun u (b : V × D) => RelV b.1 u) us bs
  | [], _, h => by cases h; exact .nil
  | b :: bs, _, h => by cases h with
    | cons r t => exact .cons r (each_vals t)
theorem vals_each : ∀ {bs : List (V × D)} {us : List Value}, EachIs (fun u (b : V × D) => RelV b.1 u) us bs → Vals (bs.map (·.1)) us
  | [], _, h => by cases h; exact .nil
  | b :: bs, _, h => by cases h with
    | cons r t => exact .cons r (vals_each t)
theorem sortOk_pl {ds : List D} (h : sortOk ds = true) : plAll PLN ds = true ∧ alkP ds = true ∧ ∀ d ∈ ds, isNone d = false := by
  unfold sortOk at h
  simp only [Bool.and_eq_true, Bool.not_eq_true', List.any_eq_false] at h
  exact ⟨h.1.1, h.1.2, fun d hd => by simpa using h.2 d hd⟩
theorem py_none {d : D} {n : Nat} (hp : d.pl n = true) (h : isNone d = false) : d.toPy ≠ .none := by
  cases d <;> simp [isNone] at h <;> cases n <;> simp [D.pl, D.toPy] at hp ⊢
theorem cr_sortD (hu : X.A.units + 64 < cLine) : CallR X (.builtin "sorted") (rSortD X.K) := by
  intro pins s σ H vs us Q I r h
  obtain ⟨p, bs, ρ, rfl, hs, hr, hok, q⟩ := h
  obtain ⟨its, rv, hl, hz⟩ := I.list hs
  rw [Vals.ref1 r]
  obtain ⟨hp, ha, hn⟩ := sortOk_pl hok
  have e := each_vals rv
  have mem : ∀ b ∈ bs, b.2 ∈ bs.map (·.2) := fun b hb => List.mem_map.mpr ⟨b, hb, rfl⟩
  have er : EachIs (fun v (b : V × D) => ∃ as, Reads s.heap v (b.2.toPy) as) its bs := (each_mem e).mono fun v b ⟨rb, hb⟩ => Rep.reads I (plAll_mem hp _ (mem b hb)) (hr b hb) rb
  have er' : EachIs (fun v (b : V × D) => ∃ as, Reads (sortingHeap (copyHeap s.heap its) (s.heap.objs.size + 1) its) v (b.2.toPy) as) its bs := er.mono fun _ _ ⟨as, r⟩ => ⟨as, PyProof.Rows.Reads.keeps (fun _ _ => sorting_copy_old) r⟩
  have hal : AllAlike (bs.map fun b => b.2.toPy) := by
    intro d hd d' hd'
    obtain ⟨b, hb, rfl⟩ := List.mem_map.mp hd
    obtain ⟨b', hb', rfl⟩ := List.mem_map.mp hd'
    rw [alk_py (plAll_mem hp _ (mem b hb)) (plAll_mem hp _ (mem b' hb'))]
    exact alkP_get hp ha (mem b hb) (mem b' hb')
  have hnn : ∀ d ∈ bs.map (fun b => b.2.toPy), d ≠ .none := by
    intro d hd
    obtain ⟨b, hb, rfl⟩ := List.mem_map.mp hd
    exact py_none (plAll_mem hp _ (mem b hb)) (hn _ (mem b hb))
  have hd : ∀ d ∈ bs.map (fun b => b.2.toPy), X.A.in1.in1.units + d.depth < cLine := by
    intro d hd
    obtain ⟨b, hb, rfl⟩ := List.mem_map.mp hd
    have := depth_of (plAll_mem hp _ (mem b hb))
    have e1 : X.A.in1.in1.units = X.A.units + 2 := rfl
    rw [e1]
    unfold PLN at this
    omega
  have hlen : its.length = bs.length := by rw [e.length]
  refine sorted_vals hl.isList (sortsAt_any (s := { s with heap := sortingHeap (copyHeap s.heap its) (s.heap.objs.size + 1) its }) (each_map (R := fun v d => ∃ as, Reads (sortingHeap (copyHeap s.heap its) (s.heap.objs.size + 1) its) v d as) (fun b : V × D => b.2.toPy) er') hal hnn hd) (by rw [hlen]; simpa using hz) ?_
  have eo := sortVals_data (h' := sortingHeap (copyHeap s.heap its) (s.heap.objs.size + 1) its) false e er' hal
  obtain ⟨ep, he'⟩ := PyProof.Rows.sortedAll_at s.heap its (sortVals (dataKind (sortingHeap (copyHeap s.heap its) (s.heap.objs.size + 1) its) (bs.map fun b => b.2.toPy)) false its its).toArray
  refine ⟨.ref _, upd H (s.heap.objs.size + 1) (.lst ((bs.mergeSort (dataLe false fun b => b.2.toPy)).map (·.1))), I.laid (t' := s.toks) (fun _ _ => PyProof.Rows.sortedAll_old) (Nat.le_succ _) ⟨?_, _, ep, vals_each eo, he'⟩, rfl, q _ _ (List.mergeSort_perm ..) (isort_merge hp ha) (I.hok.fresh (Nat.le_succ _))⟩
  rw [List.length_map, List.length_mergeSort]
  simpa using hz
def sortD : Mu → D → Option D
  | _, .lst xs => if sortOk xs then some (.lst (isort xs)) else none
  | _, _ => none
theorem RepAll.zip {K : PySem.W.Frag} {ρ : List Addr} {H : Hp} : ∀ {vs : List V} {ds : List D}, RepAll K ρ H vs ds → (vs.zip ds).map (·.1) = vs ∧ (vs.zip ds).map (·.2) = ds ∧ ∀ b ∈ vs.zip ds, Rep K ρ H b.1 b.2
  | _, _, .nil => ⟨rfl, rfl, fun b hb => by cases hb⟩
  | _, _, .cons h t => by
    obtain ⟨h1, h2, h3⟩ := RepAll.zip t
    refine ⟨by simp [h1], by simp [h2], fun b hb => ?_⟩
    rcases List.mem_cons.mp hb with rfl | hb
    · exact h
    · exact h3 b hb
theorem RepAll.unzip {K : PySem.W.Frag} {ρ : List Addr} {H : Hp} : ∀ {bs : List (V × D)}, (∀ b ∈ bs, Rep K ρ H b.1 b.2) → RepAll K ρ H (bs.map (·.1)) (bs.map (·.2))
  | [], _ => .nil
  | b :: bs, h => .cons (h b List.mem_cons_self) (RepAll.unzip fun c hc => h c (List.mem_cons_of_mem _ hc))
theorem rd_sort : RdD f X (fun x H Q => rSortD X.K [x] H Q) sortD := by
  intro x H Q W ρ m Hs d z b hx hg o
  cases d <;> simp only [sortD] at hg <;> try (cases hg; done)
  case lst ds =>
    obtain ⟨hok, rfl⟩ := of_if hg
    obtain ⟨a, vs, rfl, h1, h2⟩ := hx.items b
    obtain ⟨z1, z2, z3⟩ := h2.zip
    refine ⟨a, vs.zip ds, ρ, rfl, .inl (.inl (by rw [z1]; exact h1)), fun c hc => (z3 c hc).mono (.refl _) b.sub, by rw [z2]; exact hok, fun cs l pm e hl => ?_⟩
    rw [z2] at e
    refine OutB.newL b ?_ o hl
    rw [← e]
    exact RepAll.unzip fun c hc => z3 c (pm.mem_iff.mp hc)
theorem ev_sorted {H0 : Hp} {W : WX} {ω : List Md} {a : Expr} {ca : EC} {p pos : Pos} (B : Bn X.mg) (hu : X.A.units + 64 < cLine) (ha : BV X H0 W ω a ca) (hg : Gl X "sorted" := by rfl) (he : starEach [a] X.env = [(false, eval a X.env)] := by rfl) : EB f X H0 W ω (.Call (.Name "sorted" p) [a] [] pos) (c1 sortD ca) :=
  ev_callB (cr_sortD hu) rd_sort hg B.sorted (by decide +kernel) ha (he := he)
end
end Pv
end
section
set_option Elab.async false
set_option linter.all false
set_option maxRecDepth 100000
/-! Pv16: list(range), tuple(range), list.count of whole numbers. -/
namespace Pv
open PySem L2 PySem.W PyProof.Rows PySem.SeqAt
section
variable {X : Cx} {f : Bool} {H0 : Hp} {W : WX} {ω : List Md} {a b : Expr} {ca cb : EC} {p q pos pos2 : Pos}
theorem rgV_rep {K : PySem.W.Frag} {ρ : List Addr} {H : Hp} : ∀ (n : Nat) (lo : Int) (g : Nat → Int), (∀ i, g i = lo + (i : Nat)) → RepAll K ρ H ((List.range n).map fun i => V.int (g i)) (rangeI lo n)
  | 0, _, _, _ => .nil
  | n + 1, lo, g, hg => by
    rw [List.range_succ_eq_map, List.map_cons, List.map_map, rangeI]
    have e := hg 0
    refine .cons (by rw [e, show lo + ((0 : Nat) : Int) = lo by omega]; exact .int _) (rgV_rep n (lo + 1) (fun i => g (i + 1)) fun i => by rw [hg]; omega)
def RgQ (tp : Bool) (vs : List V) (H : Hp) (Q : VK) : Prop := match tp with
  | true => NewT vs H Q
  | false => ∀ l, H l = none → Q (.ref l) (upd H l (.lst vs))
def tTupRgN (te : L2.St → Hp → (Int → Int → Hp → Prop) → Prop) : TE := fun σ H Q => te σ H fun a b H1 => RgOk a b ∧ NewT (rgV a b) H1 Q
theorem rg_fin {W' : Value → Option Addr → Hp → Prop} {ρ : List Addr} {Hs H : Hp} {Q : VK} {m : Mu} {tp : Bool} (hf : tp = true → f = false) (b : Bs X.K ρ m Hs H) {i n : Int} (hz : rgOk i n = true) (o : OutB f X.K X.mg W' (if szOk (rangeI i (n - i).toNat).length then .ok (if tp then .tup (rangeI i (n - i).toNat) else .lst (rangeI i (n - i).toNat)) m else .bad) ρ Hs H Q) :
    RgOk i n ∧ RgQ tp (rgV i n) H Q := by
  obtain ⟨hs, o⟩ := OutB.guardR o
  have hs := szOk_le hs
  rw [rangeI_length, sizeLine_eq] at hs
  simp only [rgOk, Bool.and_eq_true, decide_eq_true_eq] at hz
  refine ⟨⟨by omega, by omega, by omega, by omega, by omega⟩, ?_⟩
  have rr : RepAll X.K ρ Hs (rgV i n) (rangeI i (n - i).toNat) := rgV_rep _ i _ fun _ => rfl
  cases tp with
  | false => exact fun l hl => OutB.newL b rr o hl
  | true => have := hf rfl; subst this; exact OutB.newT b rr o
def cRg (tp : Bool) (cs : Gam → Mu → R (List D)) : EC := fun Γ m => (iRg cs Γ m).bind fun ds m1 => if szOk ds.length then .ok (if tp then .tup ds else .lst ds) m1 else .bad
theorem cRg1 {tp : Bool} {Γ : Gam} {m : Mu} : cRg tp (aCons ca aNil) Γ m = (ca Γ m).bind fun d m1 => (R.of (rg2 [d]) m1).bind fun ds m1 => if szOk ds.length then .ok (if tp then .tup ds else .lst ds) m1 else .bad := by
  unfold cRg iRg aCons aNil; cases ca Γ m <;> rfl
theorem rg_one {tp : Bool} {t : (L2.St → Hp → (Int → Int → Hp → Prop) → Prop) → TE} (ht : t = fun te σ H Q => te σ H fun a b H1 => RgOk a b ∧ RgQ tp (rgV a b) H1 Q) (hf : tp = true → f = false) {e : Expr} (h : PE X e (t (tRg1 (cE X H0 W ω ca)))) : EB f X H0 W ω e (cRg tp (aCons ca aNil)) :=
  PE.imp h fun σ H Q ⟨Γ, m, ρ, Hs, b, en, o⟩ => by
    subst ht
    rw [cRg1] at o
    refine ⟨Γ, m, ρ, Hs, b, en, Out.mono (OutB.bind o) fun v H1 ⟨d, m1, ρ1, Hs1, t1, b1, r1, o1⟩ => ?_⟩
    cases d <;> first | exact o1.elim | skip
    rename_i j
    cases r1
    simp only [rg2] at o1
    by_cases hz : rgOk 0 j = true
    · rw [if_pos hz] at o1
      have e : (j - 0).toNat = j.toNat := by rw [Int.sub_zero]
      exact ⟨j, rfl, rg_fin (tp := tp) hf b1 hz (by rw [e]; exact o1)⟩
    · rw [if_neg hz] at o1; exact o1.elim
variable (B : Bn X.mg)
include B
theorem ev_tupRg1 (hc : X.calm = true) (ha : EV X H0 W ω a ca) (hg : Gl X "tuple" := by rfl) (hgr : Gl X "range" := by rfl) (na : starEach [.Call (.Name "range" q) [a] [] pos2] X.env = (false, eval (.Call (.Name "range" q) [a] [] pos2) X.env) :: starEach [] X.env := by rfl) (na2 : starEach [a] X.env = (false, eval a X.env) :: starEach [] X.env := by rfl) :
    EV X H0 W ω (.Call (.Name "tuple" p) [.Call (.Name "range" q) [a] [] pos2] [] pos) (cRg true (aCons ca aNil)) := EB.ev (rg_one (t := tTupRgN) rfl (fun _ => rfl) (pe_tupRgN hc hg B.tuple (prg_1 hgr B.range ha na2) na))
end
end Pv
end
section
set_option Elab.async false
set_option linter.all false
set_option maxRecDepth 100000
/-! Pv17: sorted(set(xs)), len(set(xs)). -/
namespace Pv
open PySem L2 PySem.W PyProof.Rows PySem.SeqAt PySem.Calls PySem.Spec
abbrev nset (w : World) : Obj := { cls := .type "set", dict := none, data := .set #[] 0 (.fresh 0 0 (!w.params.followText "set-order")) }
section
variable {P : Program} {w : World} {A : Around} {E : Value → Shared → Prop} {s : Shared}
set_option maxHeartbeats 3200000 in
/-- set(xs), xs a list of ints -/
theorem call_set_lstI {l : Addr} {items : Array Value} (ns : List Int) {Q : Value → Shared → Prop} (hh : A.handled = none) (hl : s.heap.IsList l items) (hit : IntsAre items.toList ns) (hb : ns.length + 1 < scanBound)
    (h : ∀ (h' : Heap) (tk c : Nat), SetR w h' s.heap.objs.size (fun j => decide (j ∈ ns)) c → c ≤ ns.length → (∀ b o, s.heap.get? b = some o → h'.get? b = some o) → Q (.ref s.heap.objs.size) { s with heap := h', toks := tk }) : wpAny (model P w) A (call (.type "set") [.ref l]) Q E s := by
  have hisz : items.size = ns.length := by have q := IntsAre.length hit; rwa [Array.length_toList] at q
  obtain ⟨c, tl, hmro⟩ := F.called_set.mro; have hmade := F.called_set.made; have hsub := F.called_set.sub
  refine wpAny_call (codeAny_of_tree ?_); show wpAny _ _ (callAny (.type "set") _) _ _ _
  refine wpAny_pure ⟨Code.quiet_builtin _ (by decide +kernel), codeAny_builtin F.entry_type_call ?_⟩; rw [Around.under_plain (weight_type_call_type "set" [.ref l] []) rfl]
  have h1 := F.called_set.notType; have h2 := F.called_set.canCreate; have hct := F.typeCall_set_1 (.ref l)
  repeat (any_goals (first | assumption | wp_step))
  refine codeAny_mono (code_set_led1 (.ref l) (E := E) (Q₁ := fun ob s₁ => ob = .ref s.heap.objs.size ∧ s₁ = { s with heap := s.heap.push (nset w) }) ⟨rfl, rfl⟩) fun r s₁ hr => ?_
  cases r with
  | error e => exact hr
  | ok fl =>
    cases fl with
    | ret ob =>
      obtain ⟨rfl, rfl⟩ := hr
      have hS : (s.heap.push (nset w)).get? s.heap.objs.size = some (nset w) := Heap.get?_push_size _ rfl
      have hT : Shared.TypeIs { s with heap := s.heap.push (nset w) } (.ref s.heap.objs.size) "set" := ⟨_, hS, rfl⟩
      have hli := F.called_set.init.lookup; have hbi := F.called_set.init.bind (.ref s.heap.objs.size)
      repeat (any_goals (first | assumption | wp_step))
      refine codeAny_mono (codeAny_call_builtin (R := wants (fun r s₂ => r = .none ∧ ∃ h' tk c, s₂ = { s with heap := h', toks := tk } ∧ SetR w h' s.heap.objs.size (fun j => decide (j ∈ ns)) c ∧ c ≤ ns.length ∧ (∀ b o, s.heap.get? b = some o → h'.get? b = some o)) E) F.called_set.init.plain F.entry_set_init (check_set_init_1 hT ?_)) fun r₂ s₂ hr₂ => ?_
      · obtain ⟨ol, hol, hcl, nl, hdl⟩ := hl
        obtain ⟨ocls, odict, odata, oslots⟩ := ol
        simp only at hcl hdl; subst hcl; subst hdl
        have hol' : (s.heap.push (nset w)).get? l = some { cls := .type "list", dict := odict, data := .seq items nl, slots := oslots } := Heap.get?_push_of_some _ hol
        have hsls := F.sub_list_set; have hslf := F.sub_list_frozenset
        have hne : (Value.type "list" == Value.type "dict") = false := by decide
        have hl1 : (s.heap.push (nset w)).IsList l items := ⟨_, hol', rfl, nl, rfl⟩
        unfold Builtin.«set.__init__» noKeywords Builtin.Frozenset.updateFrom
        generalize hPI : pyIter = PI
        wp_walk
        subst hPI
        refine wpAny_pyIter_list hl1 ?_; refine wpAny_bind (wpAny_runValue ?_)
        have hlS : l < s.heap.objs.size := Heap.lt_size hol
        have hz1 : (s.heap.push (nset w)).objs.size = s.heap.objs.size + 1 := Heap.size_push ..
        have hneI : l ≠ (s.heap.push (nset w)).objs.size := by rw [hz1]; exact Nat.ne_of_lt (Nat.lt_succ_of_lt hlS)
        have hSf : s.heap.objs.size ∉ [(s.heap.push (nset w)).objs.size, l] := by
          rw [hz1]; intro z; simp only [List.mem_cons, List.not_mem_nil, or_false] at z; exact z.elim (Nat.ne_of_lt (Nat.lt_succ_self _)) (Nat.ne_of_gt hlS)
        have hval : ∀ (i : Nat) (v : Value), items[i]? = some v → ∃ k t, ns[i]? = some k ∧ v = .int k t := fun i v hv => by
          have hi : i < ns.length := by rw [← hisz]; exact (Array.getElem?_eq_some_iff.mp hv).1
          obtain ⟨t, e⟩ := PyProof.Rows.IntsAre.int_at hit i v (by rw [Array.getElem?_toList]; exact hv)
          exact ⟨ns[i], t, List.getElem?_eq_getElem hi, by rw [e, List.getD_eq_getElem?_getD, List.getElem?_eq_getElem hi] <;> rfl⟩
        refine set_update_ints ((Walks.list (by simp [hh]) _ l hneI items).toS) s.heap.objs.size hSf ns hisz hb hval (items.size - 0) 0 _ (by omega) (Nat.zero_le _) ⟨⟨_, Heap.get?_push_size _ rfl, rfl, rfl⟩, (hl1.push _)⟩ ⟨0, Nat.le_refl 0, setR_new_at (Heap.get?_push_of_some _ hS)⟩ ?hR
        case hR =>
          intro s' c' hm hc' hS'
          obtain ⟨h', g2, d', tk', os'⟩ := s'
          have eg : g2 = s.gens := hm.gens
          have ed : d' = s.drawn := hm.drawn
          have eo : os' = s.os := hm.os
          subst eg; subst ed; subst eo
          show wpAny _ _ _ _ _ _; refine wpAny_pure ?_; show wpAny _ _ (ret Value.none) _ _ _
          rw [hisz] at hc'
          refine wpAny_pure ⟨rfl, h', tk', c', rfl, hS', hc', fun b o e => ?_⟩
          have hb0 : b < s.heap.objs.size := Heap.lt_size e
          exact hm.heap b o (by rw [hz1]; intro z; simp only [List.mem_cons, List.not_mem_nil, or_false] at z; exact z.elim (Nat.ne_of_lt hb0) (Nat.ne_of_lt (Nat.lt_succ_of_lt hb0))) (Heap.get?_push_of_some _ (Heap.get?_push_of_some _ e))
      · cases r₂ with
        | error e => exact hr₂
        | ok fl =>
          cases fl with
          | ret v =>
            obtain ⟨rfl, h', tk, c, rfl, hS', hc', hk⟩ := hr₂
            repeat (any_goals (first | assumption | wp_step))
            exact h h' tk c hS' hc' hk
          | _ => exact hr₂
    | _ => exact hr
end
end Pv
end
section
set_option Elab.async false
set_option linter.all false
set_option maxRecDepth 100000
/-! Pv17b: set(t) of a tuple of rows. -/
namespace L2
open PySem PySem.Spec PyProof.Rows
section
variable {P : Program} {w : World} {A : Around} {E : Value → Shared → Prop} {s : Shared}
abbrev nset (w : World) : Obj := { cls := .type "set", dict := none, data := .set #[] 0 (.fresh 0 0 (!w.params.followText "set-order")) }
set_option maxHeartbeats 3200000 in
/-- set(t): what its loop does is all that counts -/
theorem call_set_tupW {l : Addr} {items : Array Value} {Q : Value → Shared → Prop} (J : Shared → Prop) (hl : s.heap.IsTuple l items)
    (hloop : ∀ (R : Result → Shared → Prop), (∀ s', J s' → R (.ok (.ret .none)) s') → codeAny (model P w) A.in1.in1 (.builtin "set.update.loop" ⟨[.ref s.heap.objs.size, .ref (s.heap.push (nset w)).objs.size], []⟩) R { s with heap := (s.heap.push (nset w)).push { cls := .type "tuple_iterator", data := .fields #[.ref l, .int 0 0] } })
    (h : ∀ s', J s' → Q (.ref s.heap.objs.size) s') : wpAny (model P w) A (call (.type "set") [.ref l]) Q E s := by
  obtain ⟨c, tl, hmro⟩ := F.called_set.mro
  have hmade := F.called_set.made
  have hsub := F.called_set.sub
  refine wpAny_call (codeAny_of_tree ?_)
  show wpAny _ _ (callAny (.type "set") _) _ _ _
  refine wpAny_pure ⟨Code.quiet_builtin _ (by decide +kernel), codeAny_builtin F.entry_type_call ?_⟩
  rw [Around.under_plain (weight_type_call_type "set" [.ref l] []) rfl]
  have h1 := F.called_set.notType
  have h2 := F.called_set.canCreate
  have hct := F.typeCall_set_1 (.ref l)
  repeat (any_goals (first | assumption | wp_step))
  refine codeAny_mono (code_set_led1 (.ref l) (E := E) (Q₁ := fun obj s₁ => obj = .ref s.heap.objs.size ∧ s₁ = { s with heap := s.heap.push (nset w) }) ⟨rfl, rfl⟩) fun r s₁ hr => ?_
  cases r with
  | error e => exact hr
  | ok fl =>
    cases fl with
    | ret obj =>
      obtain ⟨rfl, rfl⟩ := hr
      have hS : (s.heap.push (nset w)).get? s.heap.objs.size = some (nset w) := Heap.get?_push_size _ rfl
      have hT : Shared.TypeIs { s with heap := s.heap.push (nset w) } (.ref s.heap.objs.size) "set" := ⟨_, hS, rfl⟩
      have hli := F.called_set.init.lookup
      have hbi := F.called_set.init.bind (.ref s.heap.objs.size)
      repeat (any_goals (first | assumption | wp_step))
      refine codeAny_mono (codeAny_call_builtin (R := wants (fun r s₂ => r = .none ∧ J s₂) E) F.called_set.init.plain F.entry_set_init (check_set_init_1 hT ?_)) fun r₂ s₂ hr₂ => ?_
      · obtain ⟨⟨ocls, odict, odata, oslots⟩, hol, hcl, nl, hdl⟩ := hl
        simp only at hcl hdl
        subst hcl; subst hdl
        have hol' : (s.heap.push (nset w)).get? l = some { cls := .type "tuple", dict := odict, data := .seq items nl, slots := oslots } := Heap.get?_push_of_some _ hol
        have hsls := F.sub_tuple_set
        have hslf := F.sub_tuple_frozenset
        have hne : (Value.type "tuple" == Value.type "dict") = false := by decide
        have hl1 : (s.heap.push (nset w)).IsTuple l items := ⟨_, hol', rfl, nl, rfl⟩
        unfold Builtin.«set.__init__» noKeywords Builtin.Frozenset.updateFrom
        generalize hPI : pyIter = PI
        wp_walk
        subst hPI
        refine wpAny_pyIter_tuple hl1 ?_
        refine wpAny_bind (wpAny_runValue ?_)
        refine hloop _ fun s' hJ => ?_
        show wpAny _ _ _ _ _ _
        refine wpAny_pure ?_
        show wpAny _ _ (ret Value.none) _ _ _
        exact wpAny_pure ⟨rfl, hJ⟩
      · cases r₂ with
        | error e => exact hr₂
        | ok fl₂ =>
          cases fl₂ with
          | ret r =>
            obtain ⟨rfl, hJ⟩ := hr₂
            have hQ := h _ hJ
            repeat (any_goals (first | assumption | wp_step))
          | _ => exact hr₂.elim
    | _ => exact hr.elim
/-- set(t), t a tuple of rows of whole numbers -/
theorem call_set_tupsT {l : Addr} {items : Array Value} (ks : List (Addr × List Int)) {Q : Value → Shared → Prop} (hh : A.handled = none) (hl : s.heap.IsTuple l items) (hit : items.toList = ks.map fun p => Value.ref p.1)
    (hk : ∀ p ∈ ks, IsT P w s.heap p.2 p.1) (hfew : ks.length < 64) (hu : A.units + 3 < cLine)
    (h : ∀ (h' : Heap) (tk : Nat) L es ep t, SetTR P w h' s.heap.objs.size L es ep t → Got ks ks.length L → (∀ b o, s.heap.get? b = some o → h'.get? b = some o) → Q (.ref s.heap.objs.size) { s with heap := h', toks := tk }) :
    wpAny (model P w) A (call (.type "set") [.ref l]) Q E s := by
  have hisz : items.size = ks.length := by
    have q := congrArg List.length hit
    rwa [Array.length_toList, List.length_map] at q
  refine call_set_tupW (fun s' => ∃ h' tk L es ep t, s' = { s with heap := h', toks := tk } ∧ SetTR P w h' s.heap.objs.size L es ep t ∧ Got ks ks.length L ∧ ∀ b o, s.heap.get? b = some o → h'.get? b = some o) hl (fun R hR => ?_) fun s' hJ => ?_
  · have hlS : l < s.heap.objs.size := by obtain ⟨o, ho, _⟩ := hl; exact Heap.lt_size ho
    have hl1 : (s.heap.push (nset w)).IsTuple l items := hl.push _
    have hh3 : A.in1.in1.in1.handled = none := by simp [hh]
    have hneI : l ≠ (s.heap.push (nset w)).objs.size := by rw [Heap.size_push]; exact Nat.ne_of_lt (Nat.lt_succ_of_lt hlS)
    have none_of : ∀ b, s.heap.objs.size ≤ b → s.heap.get? b = none := fun b hb => by
      cases q : s.heap.get? b with
      | none => rfl
      | some o => exact absurd (Nat.lt_of_lt_of_le (Heap.lt_size q) hb) (Nat.lt_irrefl _)
    refine set_update_tups ((Walks.tuple hh3 _ l hneI items).toS) s.heap.objs.size (by
        rw [Heap.size_push]; simp only [List.mem_cons, List.mem_singleton, List.not_mem_nil, or_false, not_or]
        exact ⟨Nat.ne_of_lt (Nat.lt_succ_self _), Nat.ne_of_gt hlS⟩) ks hisz hfew (fun i v hv => ?_) s.heap hk (none_of _ (Nat.le_refl _)) (fun b hb => none_of b (by
        rw [List.mem_singleton.mp hb, Heap.size_push]
        exact Nat.le_succ _)) hu (items.size - 0) 0 _ (by omega) (Nat.zero_le _) ⟨⟨_, Heap.get?_push_size _ rfl, rfl, rfl⟩, (hl1.push _)⟩ (fun b o e => Heap.get?_push_of_some _ (Heap.get?_push_of_some _ e)) ?_ ?_
    · have hv : items[i]? = some v := hv
      have q : items.toList[i]? = some v := by rw [Array.getElem?_toList]; exact hv
      rw [hit, List.getElem?_map] at q
      cases hq : ks[i]? with
      | none => rw [hq] at q; cases q
      | some p =>
        rw [hq] at q
        exact ⟨p, rfl, (Option.some.inj q).symm⟩
    · exact ⟨[], #[], 0, _, setTR_fresh (Heap.get?_push_of_some _ (Heap.get?_push_size _ rfl)), Got.zero ks⟩
    · intro s' L es ep t hm hS' g' hkp
      obtain ⟨h', g2, d', tk', os'⟩ := s'
      have eg : g2 = s.gens := hm.gens
      have ed : d' = s.drawn := hm.drawn
      have eo : os' = s.os := hm.os
      subst eg; subst ed; subst eo
      rw [hisz] at g'
      exact hR _ ⟨h', tk', L, es, ep, t, rfl, hS', g', hkp⟩
  · obtain ⟨h', tk, L, es, ep, t, rfl, hS', g', hk'⟩ := hJ
    exact h _ _ _ _ _ _ hS' g' hk'
end
end L2
end
section
set_option Elab.async false
set_option linter.all false
set_option maxRecDepth 100000
/-! Pv18: sorted(set(xs)), len(set(xs)): the rules. -/
namespace Pv
open PySem L2 PySem.W PyProof.Rows PySem.SeqAt PySem.Calls PySem.Spec
def SetD0 (w : World) (a : Addr) (vs : List V) (h : Heap) : Prop := ∃ es ep t, (∃ o, h.get? a = some o ∧ o.ExactSet ∧ o.data = .set es ep t) ∧ t.fits es.size = true ∧ es.size < scanBound ∧ Ris t.place.toList ∧ (w.params.followText "set-order" = true ∨ t.led = true) ∧ Vals vs (es.toList.map (·.2))
def SetDO (w : World) (a : Addr) (vs : List V) : HO := .ext (SetD0 w a vs)
theorem setDO_new {P : Program} {w : World} {H : Hp} {h : Heap} {a : Addr} {vs : List V} (R : SetD0 w a vs h) : ObjOk P w H h a (SetDO w a vs) := by
  have ⟨es, ep, t, ⟨o, ho, r⟩, q⟩ := R
  refine ⟨R, ⟨o, ho⟩, fun h1 h2 p k => ?_⟩
  have ⟨es', ep', t', ⟨o', ho', r'⟩, q'⟩ := (show SetD0 w a vs h1 from p)
  exact ⟨es', ep', t', ⟨o', k o' ho', r'⟩, q'⟩
theorem vals_ints : ∀ {es : List (Int × Value)}, (∀ e ∈ es, GoodE e) → Vals ((es.map L2.keyOf).map V.int) (es.map (·.2))
  | [], _ => .nil
  | e :: es, h => by
    obtain ⟨k, tk, h1, _⟩ := h e List.mem_cons_self
    refine .cons ?_ (vals_ints fun e he => h e (List.mem_cons_of_mem _ he))
    refine ⟨tk, ?_⟩
    show e.2 = Value.int (L2.keyOf e) tk
    have z : L2.keyOf e = k := by unfold L2.keyOf; rw [h1]
    rw [z]; exact h1
theorem SetR.d0 {w : World} {h : Heap} {a : Addr} {ns : List Int} {n : Nat} (R : SetR w h a (fun j => decide (j ∈ ns)) n) : ∃ ks : List Int, ks.Nodup ∧ (∀ k, k ∈ ks ↔ k ∈ ns) ∧ SetD0 w a (ks.map V.int) h := by
  obtain ⟨o, es, ep, t, ho, hex, hd, g, nd, hm, hb, hf, hn, hr, hl⟩ := R
  refine ⟨es.toList.map L2.keyOf, nd, fun k => ?_, es, ep, t, ⟨o, ho, hex, hd⟩, hf, hb, hr, hl, vals_ints g⟩
  have := hm k
  simp only [decide_eq_true_eq] at this
  exact this.symm
/-- whole numbers -/
def isI : D → Bool
  | .int _ => true
  | _ => false
/-- tuples of whole numbers -/
def isIT : D → Bool
  | .tup xs => xs.all isI
  | _ => false
def setOk (xs : List D) : Bool := (xs.all isI && Nat.ble xs.length 4000) || (xs.all isIT && Nat.ble xs.length 60)
def ival : D → Int
  | .int i => i
  | _ => 0
def itval : D → List Int
  | .tup xs => xs.map ival
  | _ => []
theorem isI_eq {d : D} (h : isI d = true) : d = .int (ival d) := by cases d <;> simp [isI] at h; rfl
theorem isI_map : ∀ {xs : List D}, xs.all isI = true → xs = (xs.map ival).map D.int
  | [], _ => rfl
  | x :: xs, h => by
    simp only [List.all_cons, Bool.and_eq_true] at h
    rw [List.map_cons, List.map_cons, ← isI_eq h.1, ← isI_map h.2]
theorem isIT_eq {d : D} (h : isIT d = true) : d = .tup ((itval d).map D.int) := by
  cases d <;> simp only [isIT] at h <;> try (cases h; done)
  case tup xs => show D.tup xs = .tup ((xs.map ival).map D.int); rw [← isI_map h]
theorem rep_ints {K : PySem.W.Frag} {ρ : List Addr} {H : Hp} : ∀ {vs : List V} {ns : List Int}, RepAll K ρ H vs (ns.map D.int) → vs = ns.map V.int
  | [], [], _ => rfl
  | _ :: _, [], h => by cases h
  | [], _ :: _, h => by cases h
  | v :: vs, n :: ns, h => by
    cases h with
    | cons a r => cases a; rw [rep_ints r]; rfl
section
variable {X : Cx} {f : Bool}
/-- set(xs) -/
def rSetD (K : PySem.W.Frag) (w : World) : List V → Hp → VK → Prop := fun xs H Q => ∃ (l : Addr) (bs : List (V × D)) (ρ : List Addr), xs = [V.ref l] ∧ (SqL K H l (bs.map (·.1)) ∨ SqT K H l (bs.map (·.1))) ∧ RepAll K ρ H (bs.map (·.1)) (bs.map (·.2)) ∧ setOk (bs.map (·.2)) = true ∧
  ∀ a (cs : List (V × D)), H a = none → (∀ c ∈ cs, c ∈ bs) → (∀ b ∈ bs, b.2 ∈ cs.map (·.2)) → (cs.map (·.2)).Nodup → Q (.ref a) (upd H a (SetDO w a (cs.map (·.1))))
theorem map_pair {α β γ : Type} (f : α → β) (g : α → γ) (xs : List α) : (xs.map fun x => (f x, g x)).map (·.1) = xs.map f ∧ (xs.map fun x => (f x, g x)).map (·.2) = xs.map g := by
  constructor <;> rw [List.map_map] <;> rfl
theorem mem_pairs_ints {bs : List (V × D)} {ns : List Int} (h1 : bs.map (·.1) = ns.map V.int) (h2 : bs.map (·.2) = ns.map D.int) : bs = ns.map fun k => (V.int k, D.int k) := by
  have : bs = (bs.map (·.1)).zip (bs.map (·.2)) := by rw [List.zip_map']; simp
  rw [this, h1, h2, List.zip_map']
theorem cr_setD (hc : X.calm = true) (hu : X.A.units + 64 < cLine) : CallR X (.type "set") (rSetD X.K X.w) := by
  intro pins s σ H xs us Q I r h
  obtain ⟨l, bs, ρ, rfl, hl, hr, hok, q⟩ := h
  rw [Vals.ref1 r]
  have hn : H s.heap.objs.size = none := I.hok.fresh (Nat.le_refl _)
  have wnum : ∀ (hI : (bs.map (·.2)).all isI = true) (h' : Heap) (tk c : Nat), SetR X.w h' s.heap.objs.size (fun j => decide (j ∈ (bs.map (·.2)).map ival)) c → (∀ b o, s.heap.get? b = some o → h'.get? b = some o) → ∃ (v : V) (H' : Hp), Inv X pins σ H' { s with heap := h', toks := tk } ∧ RelV v (.ref s.heap.objs.size) ∧ Q v H' := by
    intro hI h' tk c R k
    obtain ⟨ks, nd, hm, d0⟩ := Pv.SetR.d0 R
    have e2 : bs.map (·.2) = ((bs.map (·.2)).map ival).map D.int := isI_map hI
    have e1 : bs.map (·.1) = ((bs.map (·.2)).map ival).map V.int := rep_ints (ρ := ρ) (H := H) (K := X.K) (by rw [← e2]; exact hr)
    have e := mem_pairs_ints e1 e2
    obtain ⟨p1, p2⟩ := map_pair V.int D.int ks
    refine ⟨.ref s.heap.objs.size, upd H s.heap.objs.size (SetDO X.w s.heap.objs.size (ks.map V.int)), I.laid (t' := tk) k (Nat.le_refl _) (setDO_new d0), rfl, ?_⟩
    have z := q s.heap.objs.size (ks.map fun k => (V.int k, D.int k)) hn ?_ ?_ ?_
    · rw [p1] at z; exact z
    · intro c hc
      obtain ⟨k, hk, rfl⟩ := List.mem_map.mp hc
      rw [e]
      exact List.mem_map.mpr ⟨k, (hm k).mp hk, rfl⟩
    · intro b hb
      rw [p2]
      rw [e] at hb
      obtain ⟨k, hk, rfl⟩ := List.mem_map.mp hb
      exact List.mem_map.mpr ⟨k, (hm k).mpr hk, rfl⟩
    · rw [p2]
      exact List.pairwise_map.mpr (nd.imp fun h z => h (by injection z))
  rcases hl with hl | hl
  · obtain ⟨its, rv, pl, hz⟩ := I.list hl
    unfold setOk at hok
    rcases Bool.or_eq_true_iff.mp hok with h | h
    · obtain ⟨hI, hb⟩ := Bool.and_eq_true_iff.mp h
      have hb := Nat.le_of_ble_eq_true hb
      have e1 : bs.map (·.1) = ((bs.map (·.2)).map ival).map V.int := rep_ints (ρ := ρ) (H := H) (K := X.K) (by rw [← isI_map hI]; exact hr)
      rw [e1] at rv
      refine call_set_lstI (P := X.prog) (w := X.w) ((bs.map (·.2)).map ival) (I.ok.hd hc) pl.isList (by simpa using rv.ints) (by rw [List.length_map, List.length_map]; rw [List.length_map] at hb; unfold scanBound; omega) fun h' tk c R _ k => wnum hI h' tk c R k
    · obtain ⟨hI, hb⟩ := Bool.and_eq_true_iff.mp h
      have hb := Nat.le_of_ble_eq_true hb
      -- rows of whole numbers
      have rows : ∀ (bs : List (V × D)), RepAll X.K ρ H (bs.map (·.1)) (bs.map (·.2)) → (bs.map (·.2)).all isIT = true → ∃ ks : List (Addr × List Int), bs = ks.map (fun p => (V.ref p.1, D.tup (p.2.map D.int))) ∧ ∀ p ∈ ks, SqT X.K H p.1 (p.2.map V.int) := by
        intro bs
        induction bs with
        | nil => intro _ _; exact ⟨[], rfl, fun p hp => by cases hp⟩
        | cons b bs ih =>
          intro hr hI
          simp only [List.map_cons, List.all_cons, Bool.and_eq_true] at hI
          rw [List.map_cons, List.map_cons] at hr
          cases hr with
          | cons a r =>
            obtain ⟨ks, e, hk⟩ := ih r hI.2
            rw [isIT_eq hI.1] at a
            cases hb1 : b.1 <;> rw [hb1] at a <;> cases a
            rename_i adr vs hsq hrep
            refine ⟨(adr, itval b.2) :: ks, ?_, fun p hp => ?_⟩
            · rw [List.map_cons, ← e]
              congr 1
              exact Prod.ext hb1 (isIT_eq hI.1)
            · rcases List.mem_cons.mp hp with rfl | hp
              · rw [rep_ints hrep] at hsq; exact sqt hsq
              · exact hk p hp
      obtain ⟨ks, e, hk⟩ := rows bs hr hI
      have e1 : bs.map (·.1) = ks.map fun p => V.ref p.1 := by rw [e, List.map_map]; rfl
      have hlen : ks.length < 64 := by
        rw [e, List.length_map, List.length_map] at hb; omega
      rw [e1] at rv
      refine call_set_tups (P := X.prog) (w := X.w) ks (I.ok.hd hc) pl.isList (by simpa using refs_of_vals rv) (fun p hp => I.isT (hk p hp)) hlen (by omega) fun h' tk L es ep t R g k => ?_
      have hsub : ∀ p ∈ L, p ∈ ks := fun p hp => List.mem_of_mem_take (g.sub p hp)
      have d0 : SetD0 X.w s.heap.objs.size (L.map fun p => V.ref p.1) h' := by
        refine ⟨es, ep, t, R.ob, SetTR.fits (s := { s with heap := h' }) R, ?_, R.tab.ris, R.led, ?_⟩
        · have := SetTR.size (s := { s with heap := h' }) R; have := R.few; unfold scanBound; omega
        · have hes : es.toList.map (·.2) = L.map fun q => Value.ref q.1 := by rw [R.rows]; unfold L2.rowsOf; rw [List.map_map]; rfl
          rw [hes]; exact vals_of_refs L
      refine ⟨.ref s.heap.objs.size, upd H s.heap.objs.size (SetDO X.w s.heap.objs.size (L.map fun p => V.ref p.1)), I.laid (t' := tk) k (Nat.le_refl _) (setDO_new d0), rfl, ?_⟩
      have z := q s.heap.objs.size (L.map fun p => (V.ref p.1, D.tup (p.2.map D.int))) hn ?_ ?_ ?_
      · have p1 := (map_pair (fun p : Addr × List Int => V.ref p.1) (fun p => D.tup (p.2.map D.int)) L).1
        rw [p1] at z; exact z
      · intro c hc
        obtain ⟨p, hp, rfl⟩ := List.mem_map.mp hc
        rw [e]
        exact List.mem_map.mpr ⟨p, hsub p hp, rfl⟩
      · intro b hb
        rw [e] at hb
        obtain ⟨p, hp, rfl⟩ := List.mem_map.mp hb
        obtain ⟨p', hp', e'⟩ := List.mem_map.mp (g.all p (by rw [List.take_length]; exact hp))
        rw [(map_pair (fun p : Addr × List Int => V.ref p.1) (fun p => D.tup (p.2.map D.int)) L).2]
        exact List.mem_map.mpr ⟨p', hp', by rw [e']⟩
      · rw [(map_pair (fun p : Addr × List Int => V.ref p.1) (fun p => D.tup (p.2.map D.int)) L).2]
        have nd := List.pairwise_map.mp R.nd
        refine List.pairwise_map.mpr (nd.imp fun h z => h ?_)
        injection z with z
        exact (List.map_inj_right (fun a b h => by injection h)).mp z
  · obtain ⟨its, rv, pl, hz⟩ := I.tuple hl
    unfold setOk at hok
    rcases Bool.or_eq_true_iff.mp hok with h | h
    · obtain ⟨hI, hb⟩ := Bool.and_eq_true_iff.mp h
      have hb := Nat.le_of_ble_eq_true hb
      have e1 : bs.map (·.1) = ((bs.map (·.2)).map ival).map V.int := rep_ints (ρ := ρ) (H := H) (K := X.K) (by rw [← isI_map hI]; exact hr)
      rw [e1] at rv
      refine call_set_tupI (P := X.prog) (w := X.w) ((bs.map (·.2)).map ival) (I.ok.hd hc) pl (by simpa using rv.ints) (by rw [List.length_map, List.length_map]; rw [List.length_map] at hb; unfold scanBound; omega) fun h' tk c R _ k => wnum hI h' tk c R k
    · obtain ⟨hI, hb⟩ := Bool.and_eq_true_iff.mp h
      have hb := Nat.le_of_ble_eq_true hb
      -- rows of whole numbers
      have rows : ∀ (bs : List (V × D)), RepAll X.K ρ H (bs.map (·.1)) (bs.map (·.2)) → (bs.map (·.2)).all isIT = true → ∃ ks : List (Addr × List Int), bs = ks.map (fun p => (V.ref p.1, D.tup (p.2.map D.int))) ∧ ∀ p ∈ ks, SqT X.K H p.1 (p.2.map V.int) := by
        intro bs
        induction bs with
        | nil => intro _ _; exact ⟨[], rfl, fun p hp => by cases hp⟩
        | cons b bs ih =>
          intro hr hI
          simp only [List.map_cons, List.all_cons, Bool.and_eq_true] at hI
          rw [List.map_cons, List.map_cons] at hr
          cases hr with
          | cons a r =>
            obtain ⟨ks, e, hk⟩ := ih r hI.2
            rw [isIT_eq hI.1] at a
            cases hb1 : b.1 <;> rw [hb1] at a <;> cases a
            rename_i adr vs hsq hrep
            refine ⟨(adr, itval b.2) :: ks, ?_, fun p hp => ?_⟩
            · rw [List.map_cons, ← e]
              congr 1
              exact Prod.ext hb1 (isIT_eq hI.1)
            · rcases List.mem_cons.mp hp with rfl | hp
              · rw [rep_ints hrep] at hsq; exact sqt hsq
              · exact hk p hp
      obtain ⟨ks, e, hk⟩ := rows bs hr hI
      have e1 : bs.map (·.1) = ks.map fun p => V.ref p.1 := by rw [e, List.map_map]; rfl
      have hlen : ks.length < 64 := by
        rw [e, List.length_map, List.length_map] at hb; omega
      rw [e1] at rv
      refine call_set_tupsT (P := X.prog) (w := X.w) ks (I.ok.hd hc) pl (by simpa using refs_of_vals rv) (fun p hp => I.isT (hk p hp)) hlen (by omega) fun h' tk L es ep t R g k => ?_
      have hsub : ∀ p ∈ L, p ∈ ks := fun p hp => List.mem_of_mem_take (g.sub p hp)
      have d0 : SetD0 X.w s.heap.objs.size (L.map fun p => V.ref p.1) h' := by
        refine ⟨es, ep, t, R.ob, SetTR.fits (s := { s with heap := h' }) R, ?_, R.tab.ris, R.led, ?_⟩
        · have := SetTR.size (s := { s with heap := h' }) R; have := R.few; unfold scanBound; omega
        · have hes : es.toList.map (·.2) = L.map fun q => Value.ref q.1 := by rw [R.rows]; unfold L2.rowsOf; rw [List.map_map]; rfl
          rw [hes]; exact vals_of_refs L
      refine ⟨.ref s.heap.objs.size, upd H s.heap.objs.size (SetDO X.w s.heap.objs.size (L.map fun p => V.ref p.1)), I.laid (t' := tk) k (Nat.le_refl _) (setDO_new d0), rfl, ?_⟩
      have z := q s.heap.objs.size (L.map fun p => (V.ref p.1, D.tup (p.2.map D.int))) hn ?_ ?_ ?_
      · have p1 := (map_pair (fun p : Addr × List Int => V.ref p.1) (fun p => D.tup (p.2.map D.int)) L).1
        rw [p1] at z; exact z
      · intro c hc
        obtain ⟨p, hp, rfl⟩ := List.mem_map.mp hc
        rw [e]
        exact List.mem_map.mpr ⟨p, hsub p hp, rfl⟩
      · intro b hb
        rw [e] at hb
        obtain ⟨p, hp, rfl⟩ := List.mem_map.mp hb
        obtain ⟨p', hp', e'⟩ := List.mem_map.mp (g.all p (by rw [List.take_length]; exact hp))
        rw [(map_pair (fun p : Addr × List Int => V.ref p.1) (fun p => D.tup (p.2.map D.int)) L).2]
        exact List.mem_map.mpr ⟨p', hp', by rw [e']⟩
      · rw [(map_pair (fun p : Addr × List Int => V.ref p.1) (fun p => D.tup (p.2.map D.int)) L).2]
        have nd := List.pairwise_map.mp R.nd
        refine List.pairwise_map.mpr (nd.imp fun h z => h ?_)
        injection z with z
        exact (List.map_inj_right (fun a b h => by injection h)).mp z
/-- sorted(set) -/
def rSortSet (K : PySem.W.Frag) (w : World) : List V → Hp → VK → Prop := fun vs H Q => ∃ (a : Addr) (bs : List (V × D)) (ρ : List Addr), vs = [V.ref a] ∧ H a = some (SetDO w a (bs.map (·.1))) ∧ (∀ b ∈ bs, Rep K ρ H b.1 b.2) ∧ sortOk (bs.map (·.2)) = true ∧
  ∀ (cs : List (V × D)) (l : Addr), cs.Perm bs → cs.map (·.2) = isort (bs.map (·.2)) → H l = none → Q (.ref l) (upd H l (.lst (cs.map (·.1))))
theorem vals_perm : ∀ {vs us : List Value}, us.Perm vs → ∀ {bs : List (V × D)}, Vals (bs.map (·.1)) vs → ∃ bs' : List (V × D), bs'.Perm bs ∧ Vals (bs'.map (·.1)) us := by
  intro vs us h
  induction h with
  | nil => intro bs h; cases bs with
    | nil => exact ⟨[], .refl _, .nil⟩
    | cons b bs => cases h
  | cons x p ih => intro bs h; cases bs with
    | nil => cases h
    | cons b bs =>
      cases h with
      | cons r t =>
        obtain ⟨bs', p', v'⟩ := ih t
        exact ⟨b :: bs', p'.cons b, .cons r v'⟩
  | swap x y l => intro bs h; cases bs with
    | nil => cases h
    | cons b bs => cases bs with
      | nil => cases h with
        | cons r t => cases t
      | cons b' bs => cases h with
        | cons r t => cases t with
          | cons r' t' => exact ⟨b' :: b :: bs, .swap .., .cons r' (.cons r t')⟩
  | trans p1 p2 ih1 ih2 => intro bs h; obtain ⟨b1, q1, v1⟩ := ih2 h; obtain ⟨b2, q2, v2⟩ := ih1 v1; exact ⟨b2, q2.trans q1, v2⟩
theorem sortOk_perm {xs ys : List D} (h : xs.Perm ys) (hok : sortOk ys = true) : sortOk xs = true := by
  obtain ⟨hp, ha, hn⟩ := sortOk_pl hok
  unfold sortOk
  simp only [Bool.and_eq_true, Bool.not_eq_true', List.any_eq_false]
  refine ⟨⟨plAll_of fun x hx => plAll_mem hp _ (h.mem_iff.mp hx), ?_⟩, fun x hx => by simp [hn x (h.mem_iff.mp hx)]⟩
  unfold alkP
  exact List.all_eq_true.mpr fun x hx => List.all_eq_true.mpr fun y hy => alkP_get hp ha (h.mem_iff.mp hx) (h.mem_iff.mp hy)
theorem isort_perm_eq {xs ys : List D} (h : xs.Perm ys) (hok : sortOk ys = true) : isort xs = isort ys := by
  obtain ⟨hp, ha, _⟩ := sortOk_pl hok
  exact isort_unique hp ha (fun y hy => hy) ((isort_perm xs).trans h) (isort_sorted hp ha fun y hy => h.mem_iff.mp hy)
theorem cr_sortSet (hc : X.calm = true) (hu : X.A.units + 64 < cLine) : CallR X (.builtin "sorted") (rSortSet X.K X.w) := by
  intro pins s σ H vs us Q I r h
  obtain ⟨a, bs, ρ, rfl, ha, hr, hok, q⟩ := h
  rw [Vals.ref1 r]
  obtain ⟨es, ep, t, ⟨o, ho, hex, hd⟩, hf, hsz, hris, hled, hv⟩ : SetD0 X.w a (bs.map (·.1)) s.heap := (I.hok a _ ha).1
  refine Calls.call_function_entry kind_sorted plain_sorted entry_sorted (args_sorted1 _) ?_
  unfold Builtin.«sorted»; refine wpAny_bind (m := checkCount "sorted" 1 1 _) (wpAny_pure ?_)
  refine wpAny_bind (collect_set (A := X.A.in1) (by simp [I.ok.hd hc]) ⟨o, ho, hex.1, hd⟩ hf hsz hris hled fun s1 out k1 hz g1 o1 pm => ?_)
  obtain ⟨bs', pb, hv'⟩ := vals_perm pm hv
  have hok' : sortOk (bs'.map (·.2)) = true := sortOk_perm (pb.map _) hok
  have hol : out.length ≤ sizeLine := by
    rw [pm.length_eq, List.length_map, Array.length_toList, sizeLine_eq]; unfold scanBound at hsz; omega
  refine wpAny_bind (wpAny_newList ?_ hol)
  have hoL : (s1.heap.push (seqObj "list" out.toArray 0)).get? s1.heap.objs.size = some (seqObj "list" out.toArray 0) := Heap.get?_push_size _ rfl
  obtain ⟨hp, hal0, hn⟩ := sortOk_pl hok'
  have e := each_vals hv'
  have mem : ∀ b ∈ bs', b.2 ∈ bs'.map (·.2) := fun b hb => List.mem_map.mpr ⟨b, hb, rfl⟩
  have er : EachIs (fun v (b : V × D) => ∃ as, Reads s.heap v (b.2.toPy) as) out bs' := (each_mem e).mono fun v b ⟨rb, hb⟩ => Rep.reads I (plAll_mem hp _ (mem b hb)) (hr b (pb.mem_iff.mp hb)) rb
  have kp : ∀ b u, s.heap.get? b = some u → (sortingHeap (s1.heap.push (seqObj "list" out.toArray 0)) s1.heap.objs.size out).get? b = some u := fun b u e => by
    have q := k1 b u e
    have hlt := Heap.lt_size q
    exact sortingHeap_old (Nat.ne_of_lt hlt) (Heap.get?_push_of_some _ q)
  have er' : EachIs (fun v (b : V × D) => ∃ as, Reads (sortingHeap (s1.heap.push (seqObj "list" out.toArray 0)) s1.heap.objs.size out) v (b.2.toPy) as) out bs' := er.mono fun _ _ ⟨as, r⟩ => ⟨as, PyProof.Rows.Reads.keeps kp r⟩
  have hal : AllAlike (bs'.map fun b => b.2.toPy) := by
    intro d hd d' hd'
    obtain ⟨b, hb, rfl⟩ := List.mem_map.mp hd
    obtain ⟨b', hb', rfl⟩ := List.mem_map.mp hd'
    rw [alk_py (plAll_mem hp _ (mem b hb)) (plAll_mem hp _ (mem b' hb'))]; exact alkP_get hp hal0 (mem b hb) (mem b' hb')
  have hnn : ∀ d ∈ bs'.map (fun b => b.2.toPy), d ≠ .none := by
    intro d hd
    obtain ⟨b, hb, rfl⟩ := List.mem_map.mp hd; exact py_none (plAll_mem hp _ (mem b hb)) (hn _ (mem b hb))
  have hdp : ∀ d ∈ bs'.map (fun b => b.2.toPy), X.A.in1.in1.units + d.depth < cLine := by
    intro d hd
    obtain ⟨b, hb, rfl⟩ := List.mem_map.mp hd
    have := depth_of (plAll_mem hp _ (mem b hb))
    have e1 : X.A.in1.in1.units = X.A.units + 2 := rfl
    rw [e1]; unfold PLN at this; omega
  refine wpAny_bind (wpAny_holding (wpAny_call_entry slot_list_sort ⟨_, hoL, rfl⟩ entry_list_sort (list_sort_vals (s := { s1 with heap := s1.heap.push (seqObj "list" out.toArray 0) }) hoL (sortsAt_any (s := { s1 with heap := sortingHeap (s1.heap.push (seqObj "list" out.toArray 0)) s1.heap.objs.size out }) (each_map (R := fun v d => ∃ as, Reads (sortingHeap (s1.heap.push (seqObj "list" out.toArray 0)) s1.heap.objs.size out) v d as) (fun b : V × D => b.2.toPy) er') hal hnn hdp) hol ⟨_, rfl, ?_⟩) (args_list_sort _)))
  have eo := sortVals_data (h' := sortingHeap (s1.heap.push (seqObj "list" out.toArray 0)) s1.heap.objs.size out) false e er' hal
  obtain ⟨c, hc⟩ := sortedHeap_at (vs := out) (out := (sortVals (dataKind (sortingHeap (s1.heap.push (seqObj "list" out.toArray 0)) s1.heap.objs.size out) (bs'.map fun b => b.2.toPy)) false out out).toArray) hoL
  have hn1 : H s1.heap.objs.size = none := I.hok.fresh hz
  have kp2 : ∀ b u, s.heap.get? b = some u → (sortedHeap (s1.heap.push (seqObj "list" out.toArray 0)) s1.heap.objs.size out (sortVals (dataKind (sortingHeap (s1.heap.push (seqObj "list" out.toArray 0)) s1.heap.objs.size out) (bs'.map fun b => b.2.toPy)) false out out).toArray).get? b = some u := fun b u e => by
    have q := k1 b u e
    have hlt := Heap.lt_size q
    rw [sortedHeap_old (Nat.ne_of_lt hlt) (by rw [size_push']; exact Nat.lt_succ_of_lt hlt)]
    exact Heap.get?_push_of_some _ q
  have hlen : ((bs'.mergeSort (dataLe false fun b => b.2.toPy)).map (·.1)).length ≤ sizeLine := by
    rw [List.length_map, List.length_mergeSort, ← e.length]; exact hol
  refine wpAny_pure ⟨_, rfl, ?_⟩
  have J : L2.Inv X pins σ (upd H s1.heap.objs.size (.lst ((bs'.mergeSort (dataLe false fun b => b.2.toPy)).map (·.1)))) { s with heap := sortedHeap (s1.heap.push (seqObj "list" out.toArray 0)) s1.heap.objs.size out (sortVals (dataKind (sortingHeap (s1.heap.push (seqObj "list" out.toArray 0)) s1.heap.objs.size out) (bs'.map fun b => b.2.toPy)) false out out).toArray, gens := s1.gens, drawn := s1.drawn, toks := s1.toks } :=
    I.call (ch := []) (Un.laid kp2 hz hn1) (I.hok.laid kp2 hz ⟨hlen, _, c, vals_each eo, hc⟩) (by rw [g1]; exact I.bare) (fun _ z => nomatch z)
  have es1 : ∀ h' : Heap, ({ s1 with heap := h' } : Shared) = { s with heap := h', gens := s1.gens, drawn := s1.drawn, toks := s1.toks } := fun h' => by
    cases s1; cases s; cases o1; rfl
  rw [es1]
  refine ⟨.ref s1.heap.objs.size, _, J, rfl, q _ _ ((List.mergeSort_perm ..).trans pb) ?_ hn1⟩
  rw [isort_merge hp hal0]
  exact isort_perm_eq (pb.map _) hok
/-- len(set) -/
theorem cr_lenSet : CallR X (.builtin "len") fun vs H Q => ∃ (a : Addr) (us : List V), vs = [V.ref a] ∧ H a = some (SetDO X.w a us) ∧ Q (.int us.length) H := by
  intro pins s σ H vs us Q I r h
  obtain ⟨a, ws, rfl, ha, q⟩ := h
  rw [Vals.ref1 r]
  obtain ⟨es, ep, t, ⟨o, ho, hex, hd⟩, hf, hsz, hris, hled, hv⟩ : SetD0 X.w a ws s.heap := (I.hok a _ ha).1
  have hl : ws.length = es.size := by rw [hv.length, List.length_map, Array.length_toList]
  refine call_len_set ho hex hd hf (by unfold scanBound at hsz; omega) ⟨.int ws.length, H, I.tok _, ⟨_, by rw [hl]⟩, q⟩
end
end Pv
end
section
set_option Elab.async false
set_option linter.all false
set_option maxRecDepth 100000
/-! Pv19: sorted(set(xs)), len(set(xs)) as functions of data. -/
namespace Pv
open PySem L2 PySem.W PyProof.Rows PySem.SeqAt
/-- each once -/
def nubD : List D → List D
  | [] => []
  | x :: xs => if xs.any (fun y => y.eqv x) then nubD xs else x :: nubD xs
theorem plAll_I : ∀ {n : Nat} {xs : List D}, xs.all isI = true → plAll n xs = true := fun {n xs} h => plAll_of fun x hx => by
  rw [isI_eq (List.all_eq_true.mp h x hx)]; cases n <;> rfl
theorem plAll_IT {n : Nat} {xs : List D} (h : xs.all isIT = true) : plAll (n + 1) xs = true := plAll_of fun x hx => by
  have := List.all_eq_true.mp h x hx
  cases x <;> simp only [isIT] at this <;> try (cases this; done)
  simp only [D.pl]; exact plAll_I this
theorem alkAll_I : ∀ {xs ys : List D}, xs.all isI = true → ys.all isI = true → alkAll xs ys = true
  | [], _, _, _ => by simp [alkAll]
  | _ :: _, [], _, _ => by simp [alkAll]
  | x :: xs, y :: ys, h, k => by
    simp only [List.all_cons, Bool.and_eq_true] at h k
    simp only [alkAll, Bool.and_eq_true]
    refine ⟨?_, alkAll_I h.2 k.2⟩
    rw [isI_eq h.1, isI_eq k.1]; simp [D.alk]
theorem setOk_sortOk {xs : List D} (h : setOk xs = true) : sortOk xs = true := by
  unfold setOk at h
  unfold sortOk alkP
  simp only [Bool.and_eq_true, Bool.not_eq_true', List.any_eq_false]
  rcases Bool.or_eq_true_iff.mp h with h | h
  · have h := (Bool.and_eq_true_iff.mp h).1
    refine ⟨⟨plAll_I h, List.all_eq_true.mpr fun x hx => List.all_eq_true.mpr fun y hy => ?_⟩, fun x hx => ?_⟩
    · rw [isI_eq (List.all_eq_true.mp h x hx), isI_eq (List.all_eq_true.mp h y hy)]; simp [D.alk]
    · rw [isI_eq (List.all_eq_true.mp h x hx)]; simp [isNone]
  · have h := (Bool.and_eq_true_iff.mp h).1
    refine ⟨⟨plAll_IT h, List.all_eq_true.mpr fun x hx => List.all_eq_true.mpr fun y hy => ?_⟩, fun x hx => ?_⟩
    · have a := List.all_eq_true.mp h x hx
      have b := List.all_eq_true.mp h y hy
      cases x <;> simp only [isIT] at a <;> try (cases a; done)
      cases y <;> simp only [isIT] at b <;> try (cases b; done)
      simp only [D.alk]; exact alkAll_I a b
    · have a := List.all_eq_true.mp h x hx
      cases x <;> simp only [isIT] at a <;> try (cases a; done)
      simp [isNone]
theorem sortOk_eqv {xs : List D} (h : sortOk xs = true) {x y : D} (hx : x ∈ xs) (hy : y ∈ xs) : x.eqv y = true ↔ x = y := by
  obtain ⟨hp, ha, _⟩ := sortOk_pl h
  refine ⟨fun e => alk_eqv (alkP_get hp ha hx hy) e, fun e => ?_⟩
  rw [← e]
  exact eqv_self (alkP_get hp ha hx hx)
theorem mem_nubD {S : List D} (h : sortOk S = true) : ∀ {xs : List D}, (∀ x ∈ xs, x ∈ S) → ∀ z, z ∈ nubD xs ↔ z ∈ xs
  | [], _, z => Iff.rfl
  | x :: xs, hs, z => by
    have hx := hs x List.mem_cons_self
    have ih := mem_nubD h (fun y hy => hs y (List.mem_cons_of_mem _ hy)) z
    unfold nubD
    split
    · rename_i hc
      obtain ⟨y, hy, e⟩ := List.any_eq_true.mp hc
      have := (sortOk_eqv h (hs y (List.mem_cons_of_mem _ hy)) hx).mp e
      subst this
      rw [ih]
      exact ⟨fun q => List.mem_cons_of_mem _ q, fun q => (List.mem_cons.mp q).elim (fun e => e ▸ hy) id⟩
    · rw [List.mem_cons, List.mem_cons, ih]
theorem nodup_nubD {S : List D} (h : sortOk S = true) : ∀ {xs : List D}, (∀ x ∈ xs, x ∈ S) → (nubD xs).Nodup
  | [], _ => .nil
  | x :: xs, hs => by
    have ih := nodup_nubD h (fun y hy => hs y (List.mem_cons_of_mem _ hy))
    unfold nubD
    split
    · exact ih
    · rename_i hc
      refine List.nodup_cons.mpr ⟨fun q => hc ?_, ih⟩
      have q := (mem_nubD h (fun y hy => hs y (List.mem_cons_of_mem _ hy)) x).mp q
      exact List.any_eq_true.mpr ⟨x, q, (sortOk_eqv h (hs x List.mem_cons_self) (hs x List.mem_cons_self)).mpr rfl⟩
theorem nub_perm {xs ys : List D} (h : sortOk xs = true) (nd : ys.Nodup) (h1 : ∀ y ∈ ys, y ∈ xs) (h2 : ∀ x ∈ xs, x ∈ ys) : ys.Perm (nubD xs) :=
  (List.perm_ext_iff_of_nodup nd (nodup_nubD h fun _ q => q)).mpr fun z => by
    rw [mem_nubD h fun _ q => q]
    exact ⟨h1 z, h2 z⟩
theorem sortOk_sub {xs ys : List D} (hs : ∀ y ∈ ys, y ∈ xs) (h : sortOk xs = true) : sortOk ys = true := by
  obtain ⟨hp, ha, hn⟩ := sortOk_pl h
  unfold sortOk alkP
  simp only [Bool.and_eq_true, Bool.not_eq_true', List.any_eq_false]
  exact ⟨⟨plAll_of fun x hx => plAll_mem hp _ (hs x hx), List.all_eq_true.mpr fun x hx => List.all_eq_true.mpr fun y hy => alkP_get hp ha (hs x hx) (hs y hy)⟩, fun x hx => by simp [hn x (hs x hx)]⟩
def ssetD : Mu → D → Option D
  | _, .lst xs => if setOk xs then some (.lst (isort (nubD xs))) else none
  | _, .tup xs => if setOk xs then some (.lst (isort (nubD xs))) else none
  | _, _ => none
def lsetD : Mu → D → Option D
  | _, .lst xs => if setOk xs then some (.int (nubD xs).length) else none
  | _, .tup xs => if setOk xs then some (.int (nubD xs).length) else none
  | _, _ => none
section
variable {X : Cx} {f : Bool} {H0 : Hp} {W : WX} {ω : List Md} {a : Expr} {ca : EC} {p q pos pos2 : Pos}
theorem rd_sset : RdD f X (fun x H Q => rSetD X.K X.w [x] H fun y H2 => rSortSet X.K X.w [y] H2 Q) ssetD := by
  intro x H Q W ρ m Hs d z b hx hg o
  have fin : ∀ (ds : List D) (vs : List V) (l0 : Addr), RepAll X.K ρ Hs vs ds → setOk ds = true → (SqL X.K H l0 vs ∨ SqT X.K H l0 vs) → OutB f X.K X.mg W (.ok (.lst (isort (nubD ds))) m) ρ Hs H Q → rSetD X.K X.w [.ref l0] H fun y H2 => rSortSet X.K X.w [y] H2 Q := by
    intro ds vs l0 h2 hok hl o
    obtain ⟨z1, z2, z3⟩ := h2.zip
    have sk := setOk_sortOk hok
    refine ⟨l0, vs.zip ds, ρ, rfl, by rw [z1]; exact hl, by rw [z1, z2]; exact h2.mono (.refl _) b.sub, by rw [z2]; exact hok, fun a' cs ha' hs hb nd => ?_⟩
    have hcs : ∀ y ∈ cs.map (·.2), y ∈ ds := fun y hy => by
      obtain ⟨c, hc, rfl⟩ := List.mem_map.mp hy
      rw [← z2]; exact List.mem_map.mpr ⟨c, hs c hc, rfl⟩
    have b1 := b.newF (o := SetDO X.w a' (cs.map (·.1))) ha'
    refine ⟨a', cs, ρ, rfl, upd_same, fun c hc => (z3 c (hs c hc)).mono (.refl _) b1.sub, sortOk_sub hcs sk, fun es l pm e hl => ?_⟩
    have e' : es.map (·.2) = isort (nubD ds) := by
      rw [e]
      refine isort_perm_eq (nub_perm sk nd hcs fun y hy => ?_) (sortOk_sub (fun y hy => (mem_nubD sk (fun _ q => q) y).mp hy) sk)
      rw [← z2] at hy
      obtain ⟨c, hc, rfl⟩ := List.mem_map.mp hy
      exact hb c hc
    have z := (show RepAll X.K ρ Hs (es.map (·.1)) (es.map (·.2)) from RepAll.unzip fun c hc => z3 c (hs c (pm.mem_iff.mp hc)))
    rw [e'] at z
    exact OutB.newL b1 z (OutB.tr (tr_newF ha') o) hl
  cases d <;> simp only [ssetD] at hg <;> try (cases hg; done)
  case lst ds =>
    obtain ⟨hok, rfl⟩ := of_if hg
    obtain ⟨a, vs, rfl, h1, h2⟩ := hx.items b
    exact fin ds vs a h2 hok (.inl (.inl (.inl h1))) o
  case tup ds =>
    obtain ⟨hok, rfl⟩ := of_if hg
    obtain ⟨a, vs, rfl, h1, h2, h3⟩ := hx.itemsT b
    exact fin ds vs a h2 hok (.inr h1) o
theorem rd_lset : RdD false X (fun x H Q => rSetD X.K X.w [x] H fun y H2 => ∃ (a : Addr) (us : List V), [y] = [V.ref a] ∧ H2 a = some (SetDO X.w a us) ∧ Q (.int us.length) H2) lsetD := by
  intro x H Q W ρ m Hs d z b hx hg o
  have fin : ∀ (ds : List D) (vs : List V) (l : Addr), RepAll X.K ρ Hs vs ds → setOk ds = true → (SqL X.K H l vs ∨ SqT X.K H l vs) → OutB false X.K X.mg W (.ok (.int (nubD ds).length) m) ρ Hs H Q → rSetD X.K X.w [.ref l] H fun y H2 => ∃ (a : Addr) (us : List V), [y] = [V.ref a] ∧ H2 a = some (SetDO X.w a us) ∧ Q (.int us.length) H2 := by
    intro ds vs l h2 hok hl o
    obtain ⟨z1, z2, z3⟩ := h2.zip
    have sk := setOk_sortOk hok
    refine ⟨l, vs.zip ds, ρ, rfl, by rw [z1]; exact hl, by rw [z1, z2]; exact h2.mono (.refl _) b.sub, by rw [z2]; exact hok, fun a' cs ha' hs hb nd => ?_⟩
    have b1 := b.newF (o := SetDO X.w a' (cs.map (·.1))) ha'
    refine ⟨a', _, rfl, upd_same, ?_⟩
    have e : (cs.map (·.1)).length = (nubD ds).length := by
      rw [List.length_map, ← List.length_map (f := (·.2)) (as := cs)]
      refine (nub_perm sk nd (fun y hy => ?_) fun y hy => ?_).length_eq
      · obtain ⟨c, hc, rfl⟩ := List.mem_map.mp hy
        rw [← z2]; exact List.mem_map.mpr ⟨c, hs c hc, rfl⟩
      · rw [← z2] at hy
        obtain ⟨c, hc, rfl⟩ := List.mem_map.mp hy
        exact hb c hc
    rw [e]
    exact OutB.val b1 (.int _) (OutB.tr (tr_newF ha') o)
  cases d <;> simp only [lsetD] at hg <;> try (cases hg; done)
  case lst ds =>
    obtain ⟨hok, rfl⟩ := of_if hg
    obtain ⟨a, vs, rfl, h1, h2⟩ := hx.items b
    exact fin ds vs a h2 hok (.inl (.inl (.inl h1))) o
  case tup ds =>
    obtain ⟨hok, rfl⟩ := of_if hg
    obtain ⟨a, vs, rfl, h1, h2, h3⟩ := hx.itemsT b
    exact fin ds vs a h2 hok (.inr h1) o
theorem ev_sset (B : Bn X.mg) (hc : X.calm = true) (hu : X.A.units + 64 < cLine) (ha : BV X H0 W ω a ca) (hg : Gl X "sorted" := by rfl) (hg2 : Gl X "set" := by rfl) (he : starEach [a] X.env = [(false, eval a X.env)] := by rfl) (he2 : starEach [.Call (.Name "set" q) [a] [] pos2] X.env = [(false, eval (.Call (.Name "set" q) [a] [] pos2) X.env)] := by rfl) :
    EB f X H0 W ω (.Call (.Name "sorted" p) [.Call (.Name "set" q) [a] [] pos2] [] pos) (c1 ssetD ca) :=
  PE.imp (pe_callB (cr_sortSet hc hu) hg B.sorted (by decide +kernel) (pa_cons (pe_callTy (cr_setD hc hu) hg2 B.set (by decide +kernel) (pa_cons ha pa_nil he) (by decide) (by decide) he) pa_nil he2) (by decide) (by decide) he2) fun σ H Q h => c1_read rd_sset h
theorem ev_lset (B : Bn X.mg) (hc : X.calm = true) (hu : X.A.units + 64 < cLine) (ha : BV X H0 W ω a ca) (hg : Gl X "len" := by rfl) (hg2 : Gl X "set" := by rfl) (he : starEach [a] X.env = [(false, eval a X.env)] := by rfl) (he2 : starEach [.Call (.Name "set" q) [a] [] pos2] X.env = [(false, eval (.Call (.Name "set" q) [a] [] pos2) X.env)] := by rfl) :
    EV X H0 W ω (.Call (.Name "len" p) [.Call (.Name "set" q) [a] [] pos2] [] pos) (c1 lsetD ca) :=
  EB.ev (PE.imp (pe_callB cr_lenSet hg B.len (by decide +kernel) (pa_cons (pe_callTy (cr_setD hc hu) hg2 B.set (by decide +kernel) (pa_cons ha pa_nil he) (by decide) (by decide) he) pa_nil he2) (by decide) (by decide) he2) fun σ H Q h => c1_read rd_lset h)
end
end Pv
end
section
set_option Elab.async false
set_option linter.all false
set_option maxRecDepth 100000
/-! Pv20: list comprehensions of two clauses. -/
namespace Pv
open PySem L2 PySem.W PyProof.Rows PySem.SeqAt
/-- the list at A, new behind (ρb, Hsb, Hb), is being filled -/
structure Fil (K : PySem.W.Frag) (ρb : List Addr) (Hsb Hb : Hp) (A : Addr) (ρ : List Addr) (Hs H : Hp) (acc : List D) (m : Mu) : Prop where
  tr : Tr ρb Hsb Hb ρ Hs H
  bs : Bs K ρ m Hs H
  ow : Own K ρ Hs H A (.lst acc)
  hs : Hs A = none
  nr : A ∉ ρ
  ha : H A ≠ none
theorem Fil.step {K : PySem.W.Frag} {ρb : List Addr} {Hsb Hb : Hp} {A : Addr} {ρ ρ' : List Addr} {Hs H Hs' H' : Hp} {acc : List D} {m m' : Mu} (h : Fil K ρb Hsb Hb A ρ Hs H acc m) (t : Tr ρ Hs H ρ' Hs' H') (b : Bs K ρ' m' Hs' H') : Fil K ρb Hsb Hb A ρ' Hs' H' acc m' where
  tr := h.tr.trans t
  bs := b
  ow := h.ow.mono t h.nr
  hs := by
    cases q : Hs' A with
    | none => rfl
    | some u =>
      rcases t.new A u q with y | y
      · rw [h.hs] at y; cases y
      · exact (h.ow.nw y).elim
  nr := fun q => by
    rcases t.bnew A q with z | z
    · exact h.nr z
    · exact h.ha z
  ha := fun z => h.ha (t.dom A z)
theorem Fil.push {K : PySem.W.Frag} {ρb : List Addr} {Hsb Hb : Hp} {A : Addr} {ρ : List Addr} {Hs H : Hp} {acc : List D} {m : Mu} {v : V} {y : D} (hA : Hb A = none) (h : Fil K ρb Hsb Hb A ρ Hs H acc m) (r : Rep K ρ Hs v y) : ∃ vs, H A = some (.lst vs) ∧ vs.length = acc.length ∧ Fil K ρb Hsb Hb A ρ Hs (upd H A (.lst (vs ++ [v]))) (acc ++ [y]) m := by
  obtain ⟨vs, g1, g2⟩ := ownL h.ow
  refine ⟨vs, g1, g2.length, ⟨h.tr.sub, h.tr.new, h.tr.pre, h.tr.bnew, fun x q => ?_, fun x u n q => ?_⟩, h.bs.mut h.hs h.nr, .lst upd_same (g2.append (.one r)), h.hs, h.nr, upd_some⟩
  · by_cases z : x = A
    · subst z; exact hA
    · rw [upd_ne z] at q; exact h.tr.dom x q
  · have z : x ≠ A := fun z => by subst z; rw [hA] at q; cases q
    rw [upd_ne z]; exact h.tr.same x u n q
theorem En.mutO {K : PySem.W.Frag} {H0 : Hp} {ω : List Md} {Γ : Gam} {ρ : List Addr} {Hs H : Hp} {σ : L2.St} {A : Addr} {o : HO} (e : En K H0 ω Γ ρ Hs H σ) (hn : ∀ i : Nat, ω[i]? = some Md.ow → σ[i]? ≠ some (some (V.ref A))) : En K H0 ω Γ ρ Hs (upd H A o) σ where
  ln := e.ln
  wl := e.wl
  sh := e.sh
  ow i h := by
    obtain ⟨a, h1, h2, h3, h4, h5, h6⟩ := e.ow i h
    have z : a ≠ A := fun z => hn i h (by rw [← z]; exact h1)
    exact ⟨a, h1, h2.other z, h3, h4, h5, by rw [upd_ne z]; exact h6⟩
  nd := e.nd
section
variable {f : Bool} {X : Cx} {H0 : Hp} {W : WX} {ω ωw ωt ωw1 ωt1 : List Md} {is vs is1 vs1 : List Nat} {tg iter elt tg1 iter1 : Expr} {ifs ifs1 : List Expr} {ci ci1 : IC} {ct ct1 : GC} {tt tt1 : TC} {ce : EC} {pos : Pos}
def lc2Go (ct : GC) (tt : TC) (ci1 : IC) (ct1 : GC) (tt1 : TC) (ce : EC) (Γ : Gam) : List D → Mu → R (List D)
  | [], m => .ok [] m
  | d :: ds, m => match ct d Γ with
    | none => .bad
    | some Γ1 => (noX (tt Γ1 m)).bind fun k m1 => if k then (noX (ci1 Γ1 m1)).bind fun es m2 => (lcGo ct1 tt1 ce Γ1 es m2).bind fun ys m3 => (lc2Go ct tt ci1 ct1 tt1 ce Γ ds m3).bind fun zs m4 => .ok (ys ++ zs) m4 else lc2Go ct tt ci1 ct1 tt1 ce Γ ds m1
def cLc2 (ci : IC) (ct : GC) (tt : TC) (ci1 : IC) (ct1 : GC) (tt1 : TC) (ce : EC) : EC := fun Γ m => (ci Γ m).bind fun ds m1 => match lc2Go ct tt ci1 ct1 tt1 ce Γ ds m1 with
  | .ok ys m2 => if szOk ys.length then .ok (.lst ys) m2 else .bad
  | _ => .bad
end
end Pv
end
section
set_option Elab.async false
set_option linter.all false
set_option maxRecDepth 100000
/-! Pv21: extend, pop of lists of one's own. -/
namespace Pv
open PySem L2 PySem.W PyProof.Rows PySem.SeqAt
section
variable {f : Bool} {X : Cx} {N : Ent} {W : WX} {ωx ω : List Md} {e : Expr} {c : EC} {pos : Pos}
/-- x.extend(e) -/
def sExt (i : Nat) (c : EC) : SC := fun Γ m => match Γ.getD i .non with
  | .lst xs => toS (c Γ m) Γ fun d m' => match d with
    | .lst ys => if szOk (xs.length + ys.length) then .nx (Γ.set i (.lst (xs ++ ys))) m' else .bad
    | _ => .bad
  | _ => .bad
theorem sv_ext (i : Nat) {x : Str} {p apos cpos : Pos} (hi : ω[i]? = some .ow) (hx : MdLe ωx ω = true)
    (hp : PS X (.Expr (.Call (.Attribute (.Name x p) "extend" apos) [e] [] cpos) pos) (tDrop (tBM X.K "list" rExtend (tVar i) (tCons (cE X N.H W ω c) tNil)))) :
    SV f X N W ωx ω (.Expr (.Call (.Attribute (.Name x p) "extend" apos) [e] [] cpos) pos) (sExt i c) ω :=
  PS.imp hp fun dn σ H ⟨Γ, m, ρ, Hs, t, b, en, o⟩ => by
    unfold sExt at o
    obtain ⟨a, h1, h2, h3, h4, h5, h6⟩ := en.ow i hi
    generalize hg : Γ.getD i .non = g at o h2
    cases g <;> try exact o.elim
    rename_i xs
    obtain ⟨vs0, w0, _⟩ := ownL h2
    refine ⟨.ref a, h1, .inl ⟨rfl, _, .inl (.inl w0)⟩, Γ, m, ρ, Hs, b, en, toS_out t en hx o fun d m' v ρ' Hs' H' hq o' t' b' r' => ?_⟩
    have en' := en.mono t'
    obtain ⟨a', q1, q2, q3, q4, q5, q6⟩ := en'.ow i hi
    rw [h1] at q1
    cases q1
    rw [hg] at q2
    obtain ⟨vs, w1, w2⟩ := ownL q2
    cases d <;> try exact o'.elim
    rename_i ys
    obtain ⟨hz, o'⟩ := SOut.guard o'
    cases r' with
    | lst g1 g2 =>
      rename_i a2 ws
      have hl : vs.length + ws.length ≤ sizeLine := by rw [w2.length, g2.length]; exact szOk_le hz
      exact ⟨a, a2, vs, ws, rfl, rfl, w1, b'.sub _ _ g1, hl, o' σ ρ' Hs' _ ⟨tr_mut (t.trans t') q5 q6, t'.pre, t'.sub⟩ (b'.mut q3 q4) (en'.updOw hi h1 (.lst upd_same (w2.append g2)))⟩
/-- y = x.pop() -/
def sPop (i j : Nat) : SC := fun Γ m => match Γ.getD i .non with
  | .lst xs => match xs[xs.length - 1]? with
    | some d => .nx ((Γ.set i (.lst xs.dropLast)).set j d) m
    | none => .bad
  | _ => .bad
theorem RepAll.dropLast {K : PySem.W.Frag} {ρ : List Addr} {H : Hp} {vs : List V} {ds : List D} (h : RepAll K ρ H vs ds) : RepAll K ρ H vs.dropLast ds.dropLast := by
  rw [List.dropLast_eq_take, List.dropLast_eq_take, h.length]; exact h.take _
theorem sv_pop (i j : Nat) {x y : Str} {p py apos cpos : Pos} (hi : ω[i]? = some .ow := by rfl) (hj : j < ω.length := by decide) (hij : i ≠ j := by decide)
    (hp : PS X (.Assign [.Name y py] (.Call (.Attribute (.Name x p) "pop" apos) [] [] cpos) pos) (tAsg (tBM0 X.K "list" rPop (tVar i)) (gName j))) :
    SV f X N W ωx ω (.Assign [.Name y py] (.Call (.Attribute (.Name x p) "pop" apos) [] [] cpos) pos) (sPop i j) (ω.set j .sh) :=
  PS.imp hp fun dn σ H ⟨Γ, m, ρ, Hs, t, b, en, o⟩ => by
    unfold sPop at o
    obtain ⟨a, h1, h2, h3, h4, h5, h6⟩ := en.ow i hi
    generalize hg : Γ.getD i .non = g at o h2
    cases g <;> try exact o.elim
    rename_i xs
    obtain ⟨vs, w1, w2⟩ := ownL h2
    have o : SOut f X N W ωx (ω.set j .sh) ρ Hs (match xs[xs.length - 1]? with | some d => .nx ((Γ.set i (.lst xs.dropLast)).set j d) m | none => .bad) dn := o
    cases hd : xs[xs.length - 1]? with
    | none => rw [hd] at o; exact o.elim
    | some d =>
      rw [hd] at o
      obtain ⟨v, g1, g2⟩ := w2.get' hd
      exact ⟨.ref a, h1, .inl ⟨rfl, _, .inl (.inl w1)⟩, a, vs, v, rfl, rfl, w1, by rw [w2.length]; exact g1, o _ ρ Hs _ ⟨tr_mut t h5 h6, .refl _, .refl _⟩ (b.mut h3 h4) ((en.updOw hi h1 (.lst upd_same w2.dropLast)).setSh hj g2)⟩
/-- y = x.pop(k), k a number from 0 -/
def sPopAt (i j : Nat) (k : Nat) : SC := fun Γ m => match Γ.getD i .non with
  | .lst xs => match xs[k]? with
    | some d => .nx ((Γ.set i (.lst (xs.eraseIdx k))).set j d) m
    | none => .bad
  | _ => .bad
theorem RepAll.erase {K : PySem.W.Frag} {ρ : List Addr} {H : Hp} : ∀ {vs : List V} {ds : List D} (k : Nat), RepAll K ρ H vs ds → RepAll K ρ H (vs.eraseIdx k) (ds.eraseIdx k)
  | _, _, _, .nil => .nil
  | _, _, 0, .cons _ r => r
  | _, _, k + 1, .cons a r => .cons a (RepAll.erase k r)
end
end Pv
end
section
set_option Elab.async false
set_option linter.all false
set_option maxRecDepth 100000
/-! Pv22: for pair in zip(s, t): the pair is a name, s and t are tuples. -/
namespace Pv
open PySem L2 PySem.W PyProof.Rows PySem.SeqAt
/-- a zip; f0: its own tuple is free or was handed out -/
abbrev IsZ (h : Heap) (z TI TO : Addr) (f0 : Value) (f : Bool) : Prop := h.get? z = some { cls := .type "zip", dict := none, data := .fields #[f0, .bool f, .bool false, .ref TI, .ref TO], slots := #[] }
inductive Fr : Value → Prop
  | non : Fr .none
  | out (T : Addr) : Fr (rawInt T)
section
variable {prog : Program} {w : World} {A : Around} {E : Value → Shared → Prop} {s : Shared} {z TI TO i1 i2 l1 l2 : Addr}
theorem alive_any {a : Addr} {Q : Option Obj → Shared → Prop} (h : Q (s.heap.get? a) s) : wpAny (model prog w) A (loadIfAlive a) Q E s := fun _ _ _ => h
theorem isFree_any {f0 : Value} {f : Bool} {Q : Bool → Shared → Prop} (hz : IsZ s.heap z TI TO f0 f) (hf : Fr f0) (h1 : Q true s) (h2 : ∀ T h', f0 = rawInt T → IsZ h' z TI TO f0 true → Heap.SameBut z s.heap h' → Q false { s with heap := h' }) : wpAny (model prog w) A (Builtin.SmallTypes.ownedTupleIsFree (.ref z)) Q E s := by
  unfold Builtin.SmallTypes.ownedTupleIsFree; cases hf with
  | non => exact wpAny_bind (wpAny_field hz rfl (x := .none) rfl (wpAny_pure h1))
  | out T =>
    refine wpAny_bind (wpAny_field hz rfl (x := rawInt T) rfl ?_); show wpAny _ _ (loadIfAlive ((T : Int).toNat) >>= _) _ _ _
    rw [Int.toNat_natCast]; refine wpAny_bind (alive_any ?_)
    cases hT : s.heap.get? T with
    | none => simp only [Option.isNone_none, if_true]; exact wpAny_pure h1
    | some oT =>
      simp only [Option.isNone_some, Bool.false_eq_true, if_false]; refine wpAny_bind (wpAny_field hz rfl (x := .bool f) rfl ?_)
      cases f with
      | true => rw [if_neg (by decide)]; exact wpAny_pure (h2 T s.heap rfl hz (Heap.SameBut.refl _ _))
      | false => rw [if_pos (by decide)]; exact wpAny_bind (wpAny_setField_rec hz (by simp) fun h₁ hz₁ hs₁ => wpAny_pure (h2 T h₁ rfl hz₁ hs₁))
theorem zipN_item {k1 k2 : Nat} {xs ys : Array Value} {x y a b f0 : Value} {f : Bool} {Q : Value → Shared → Prop} (D : ZipApart z TI TO i1 i2 l1 l2) (hz : IsZ s.heap z TI TO f0 f) (hf : Fr f0) (hTI : IsPair s.heap TI (.ref i1) (.ref i2)) (hTO : IsPair s.heap TO a b)
    (h1 : s.heap.IsTupleIter i1 l1 k1) (h2 : s.heap.IsTupleIter i2 l2 k2) (hl1 : s.heap.IsTuple l1 xs) (hl2 : s.heap.IsTuple l2 ys) (hx : xs[k1]? = some x) (hy : ys[k2]? = some y)
    (hQ : ∀ h' f1 f', IsZ h' z TI TO f1 f' → Fr f1 → (∃ a b, IsPair h' TO a b) → h'.IsTupleIter i1 l1 (k1 + 1) → h'.IsTupleIter i2 l2 (k2 + 1) → IsPair h' s.heap.objs.size x y → (∀ c o, c ≠ z → c ≠ TO → c ≠ i1 → c ≠ i2 → s.heap.get? c = some o → h'.get? c = some o) → Q (.ref s.heap.objs.size) { s with heap := h' }) :
    wpAny (model prog w) A (Builtin.«zip.__next__» ⟨[.ref z], []⟩) (fun fin s' => ∃ v, fin = .done (.ret v) ∧ Q v s') E s := by
  show wpAny _ _ (field (.ref z) 2 >>= _) _ _ _; refine wpAny_bind (wpAny_field hz rfl (x := .bool false) rfl ?_)
  show wpAny _ _ (field (.ref z) 3 >>= _) _ _ _; refine wpAny_bind (wpAny_field hz rfl (x := .ref TI) rfl ?_)
  refine wpAny_bind (wpAny_seqItems hTI rfl ?_); show wpAny _ _ (Builtin.SmallTypes.ownedTupleIsFree (.ref z) >>= _) _ _ _
  refine wpAny_bind (isFree_any hz hf ?_ fun T h₁ e0 hz₁ hs₁ => ?_)
  · simp only [if_true]; refine wpAny_bind (wpAny_rule ?_); refine wpAny_bind (wpAny_field hz rfl (x := .ref TO) rfl ?_)
    refine wpAny_bind (wpAny_setField_rec hz (by simp) fun h₁ hz₁ hs₁ => ?_)
    replace hz₁ : IsZ h₁ z TI TO .ellipsis f := hz₁
    refine wpAny_bind ?_; simp only [List.zipIdx_cons, List.zipIdx_nil, List.forIn_cons, List.forIn_nil]
    refine wpAny_bind (wpAny_bind (wpAny_onRaise ?_)); show wpAny _ _ (Builtin.SmallTypes.nextOf (.ref i1) >>= _) _ _ _
    refine wpAny_bind (RZ.nextOf_tuple_item (h1.extBut hs₁.extBut D.i1z) (hl1.extBut hs₁.extBut D.l1z) hx fun h₂ h1₂ hs₂ => wpAny_pure ?_)
    have hTO₂ : IsPair h₂ TO a b := hs₂.extBut _ _ D.TOi1 (hs₁.extBut _ _ D.TOz hTO)
    refine wpAny_bind (wpAny_seqItems hTO₂ rfl ?_); refine wpAny_bind (wpAny_updateSeq_pair hTO₂ fun h₃ hTO₃ hs₃ => ?_)
    replace hTO₃ : IsPair h₃ TO x b := hTO₃
    refine wpAny_bind (wpAny_letGo (wpAny_pure ?_)); refine wpAny_bind (wpAny_bind (wpAny_onRaise ?_))
    show wpAny _ _ (Builtin.SmallTypes.nextOf (.ref i2) >>= _) _ _ _
    refine wpAny_bind (RZ.nextOf_tuple_item (((h2.extBut hs₁.extBut D.i2z).extBut hs₂.extBut D.i12.symm).extBut hs₃.extBut D.TOi2.symm) (((hl2.extBut hs₁.extBut D.l2z).extBut hs₂.extBut D.l2i1).extBut hs₃.extBut D.l2TO) hy fun h₄ h2₄ hs₄ => wpAny_pure ?_)
    have hTO₄ : IsPair h₄ TO x b := hs₄.extBut _ _ D.TOi2 hTO₃
    refine wpAny_bind (wpAny_seqItems hTO₄ rfl ?_); refine wpAny_bind (wpAny_updateSeq_pair hTO₄ fun h₅ hTO₅ hs₅ => ?_)
    replace hTO₅ : IsPair h₅ TO x y := hTO₅
    refine wpAny_bind (wpAny_letGo (wpAny_pure (wpAny_pure ?_))); refine wpAny_bind (wpAny_seqItems hTO₅ rfl ?_); refine wpAny_bind (wpAny_newTuple ?_)
    have hsz : h₅.objs.size = s.heap.objs.size := by rw [hs₅.1, hs₄.1, hs₃.1, hs₂.1, hs₁.1]
    have hz₅ : IsZ h₅ z TI TO .ellipsis f := hs₅.extBut _ _ D.TOz.symm (hs₄.extBut _ _ D.i2z.symm (hs₃.extBut _ _ D.TOz.symm (hs₂.extBut _ _ D.i1z.symm hz₁)))
    have hk₅ : ∀ c o, c ≠ z → c ≠ TO → c ≠ i1 → c ≠ i2 → s.heap.get? c = some o → h₅.get? c = some o := fun c o c1 c2 c3 c4 e => hs₅.extBut _ _ c2 (hs₄.extBut _ _ c4 (hs₃.extBut _ _ c2 (hs₂.extBut _ _ c3 (hs₁.extBut _ _ c1 e))))
    have h1₅ : h₅.IsTupleIter i1 l1 (k1 + 1) := ((h1₂.extBut hs₃.extBut D.TOi1.symm).extBut hs₄.extBut D.i12).extBut hs₅.extBut D.TOi1.symm
    have h2₅ : h₅.IsTupleIter i2 l2 (k2 + 1) := h2₄.extBut hs₅.extBut D.TOi2.symm
    have hzlt : z < h₅.objs.size := Heap.lt_size hz₅
    show wpAny _ _ (Builtin.SmallTypes.ownedTupleHandOut (.ref z) (.ref h₅.objs.size) >>= _) _ _ _; refine wpAny_bind ?_
    unfold Builtin.SmallTypes.ownedTupleHandOut
    have hz₆ : IsZ (h₅.push { cls := .type "tuple", data := .seq #[x, y] }) z TI TO .ellipsis f := Heap.get?_push_of_some _ hz₅
    refine wpAny_bind (wpAny_setField_rec hz₆ (by simp) fun h₇ hz₇ hs₇ => ?_)
    replace hz₇ : IsZ h₇ z TI TO (rawInt h₅.objs.size) f := hz₇
    refine wpAny_setField_rec hz₇ (by simp) fun h₈ hz₈ hs₈ => ?_
    replace hz₈ : IsZ h₈ z TI TO (rawInt h₅.objs.size) false := hz₈
    have up : ∀ c o, c ≠ z → h₅.get? c = some o → h₈.get? c = some o := fun c o c1 e => hs₈.extBut _ _ c1 (hs₇.extBut _ _ c1 (Heap.get?_push_of_some _ e))
    have hT₈ : IsPair h₈ h₅.objs.size x y := hs₈.extBut _ _ (Nat.ne_of_gt hzlt) (hs₇.extBut _ _ (Nat.ne_of_gt hzlt) (Heap.get?_push_size _ rfl))
    rw [hsz] at hz₈ hT₈; refine wpAny_pure ⟨_, rfl, ?_⟩; show Q (.ref h₅.objs.size) _; rw [hsz]
    exact hQ h₈ _ _ hz₈ (.out _) ⟨_, _, up _ _ D.TOz hTO₅⟩ (h1₅.at fun o e => up _ o D.i1z e) (h2₅.at fun o e => up _ o D.i2z e) hT₈ fun c o c1 c2 c3 c4 e => up c o c1 (hk₅ c o c1 c2 c3 c4 e)
  · simp only [Bool.false_eq_true, if_false]; refine wpAny_bind ?_; rw [← Array.forIn_toList]; simp only [List.forIn_cons, List.forIn_nil]
    refine wpAny_bind (wpAny_bind (wpAny_holding ?_)); show wpAny _ _ (Builtin.SmallTypes.nextOf (.ref i1) >>= _) _ _ _
    refine wpAny_bind (RZ.nextOf_tuple_item (s := { s with heap := h₁ }) (h1.extBut hs₁.extBut D.i1z) (hl1.extBut hs₁.extBut D.l1z) hx fun h₂ h1₂ hs₂ => wpAny_pure ?_)
    refine wpAny_pure ?_; refine wpAny_bind (wpAny_bind (wpAny_holding ?_)); show wpAny _ _ (Builtin.SmallTypes.nextOf (.ref i2) >>= _) _ _ _
    refine wpAny_bind (RZ.nextOf_tuple_item (s := { s with heap := h₂ }) ((h2.extBut hs₁.extBut D.i2z).extBut hs₂.extBut D.i12.symm) ((hl2.extBut hs₁.extBut D.l2z).extBut hs₂.extBut D.l2i1) hy fun h₃ h2₃ hs₃ => wpAny_pure ?_)
    refine wpAny_pure (wpAny_pure ?_); show wpAny _ _ (newTuple [x, y] >>= _) _ _ _; refine wpAny_bind (wpAny_newTuple ?_)
    have hsz : h₃.objs.size = s.heap.objs.size := by rw [hs₃.1, hs₂.1, hs₁.1]
    have hz₃ : IsZ h₃ z TI TO f0 true := hs₃.extBut _ _ D.i2z.symm (hs₂.extBut _ _ D.i1z.symm hz₁)
    have hk : ∀ c o, c ≠ z → c ≠ i1 → c ≠ i2 → s.heap.get? c = some o → h₃.get? c = some o := fun c o c1 c2 c3 e => hs₃.extBut _ _ c3 (hs₂.extBut _ _ c2 (hs₁.extBut _ _ c1 e))
    have h1₃ : h₃.IsTupleIter i1 l1 (k1 + 1) := h1₂.extBut hs₃.extBut D.i12
    refine wpAny_pure ⟨_, rfl, ?_⟩; show Q (.ref h₃.objs.size) _
    have hp : IsPair (h₃.push { cls := .type "tuple", data := .seq #[x, y] }) h₃.objs.size x y := Heap.get?_push_size _ rfl
    rw [hsz] at hp ⊢
    exact hQ _ _ _ (Heap.get?_push_of_some _ hz₃) hf ⟨a, b, Heap.get?_push_of_some _ (hk _ _ D.TOz D.TOi1 D.TOi2 hTO)⟩ (h1₃.at fun o e => Heap.get?_push_of_some _ e) (h2₃.at fun o e => Heap.get?_push_of_some _ e) hp fun c o c1 _ c3 c4 e => Heap.get?_push_of_some _ (hk c o c1 c3 c4 e)
theorem zipN_end {k1 k2 : Nat} {xs ys : Array Value} {a b f0 : Value} {f : Bool} {Q : Fin → Shared → Prop} (hh : A.handled = none) (D : ZipApart z TI TO i1 i2 l1 l2) (hz : IsZ s.heap z TI TO f0 f) (hf : Fr f0) (hTI : IsPair s.heap TI (.ref i1) (.ref i2)) (hTO : IsPair s.heap TO a b)
    (h1 : s.heap.IsTupleIter i1 l1 k1) (h2 : s.heap.IsTupleIter i2 l2 k2) (hl1 : s.heap.IsTuple l1 xs) (hl2 : s.heap.IsTuple l2 ys) (hend : xs[k1]? = none ∨ ys[k2]? = none)
    (hE : ∀ h' e, (∀ c o, c ≠ z → c ≠ TO → c ≠ i1 → c ≠ i2 → s.heap.get? c = some o → h'.get? c = some o) → (∃ o, h'.get? e = some o ∧ o.cls = .type "StopIteration") → E (.ref e) { s with heap := h' }) : wpAny (model prog w) A (Builtin.«zip.__next__» ⟨[.ref z], []⟩) Q E s := by
  show wpAny _ _ (field (.ref z) 2 >>= _) _ _ _; refine wpAny_bind (wpAny_field hz rfl (x := .bool false) rfl ?_)
  show wpAny _ _ (field (.ref z) 3 >>= _) _ _ _; refine wpAny_bind (wpAny_field hz rfl (x := .ref TI) rfl ?_)
  refine wpAny_bind (wpAny_seqItems hTI rfl ?_); show wpAny _ _ (Builtin.SmallTypes.ownedTupleIsFree (.ref z) >>= _) _ _ _
  refine wpAny_bind (isFree_any hz hf ?_ fun T h₁ e0 hz₁ hs₁ => ?_)
  · simp only [if_true]; refine wpAny_bind (wpAny_rule ?_); refine wpAny_bind (wpAny_field hz rfl (x := .ref TO) rfl ?_)
    refine wpAny_bind (wpAny_setField_rec hz (by simp) fun h₁ hz₁ hs₁ => ?_)
    replace hz₁ : IsZ h₁ z TI TO .ellipsis f := hz₁
    refine wpAny_bind ?_; simp only [List.zipIdx_cons, List.zipIdx_nil, List.forIn_cons, List.forIn_nil]
    refine wpAny_bind (wpAny_bind (wpAny_onRaise ?_)); show wpAny _ _ (Builtin.SmallTypes.nextOf (.ref i1) >>= _) _ _ _
    cases hx : xs[k1]? with
    | none =>
      refine wpAny_bind (RZ.nextOf_tuple_end hh (h1.extBut hs₁.extBut D.i1z) (hl1.extBut hs₁.extBut D.l1z) hx fun h₂ e hs₂ he => ?_)
      obtain ⟨oe, hoe, hce⟩ := he
      have hz₂ : IsZ h₂ z TI TO .ellipsis f := hs₂ _ _ D.i1z.symm hz₁
      have hez : e ≠ z := fun x => by subst x; rw [hz₂] at hoe; cases hoe; simp at hce
      exact wpAny_setField_rec hz₂ (by simp) fun h₃ _ hs₃ => hE h₃ e (fun c o c1 _ c3 _ x => hs₃.extBut _ _ c1 (hs₂ _ _ c3 (hs₁.extBut _ _ c1 x))) ⟨oe, hs₃.extBut _ _ hez hoe, hce⟩
    | some x =>
      have hy : ys[k2]? = none := hend.resolve_left (by rw [hx]; exact fun q => nomatch q)
      refine wpAny_bind (RZ.nextOf_tuple_item (h1.extBut hs₁.extBut D.i1z) (hl1.extBut hs₁.extBut D.l1z) hx fun h₂ h1₂ hs₂ => wpAny_pure ?_)
      have hTO₂ : IsPair h₂ TO a b := hs₂.extBut _ _ D.TOi1 (hs₁.extBut _ _ D.TOz hTO)
      refine wpAny_bind (wpAny_seqItems hTO₂ rfl ?_); refine wpAny_bind (wpAny_updateSeq_pair hTO₂ fun h₃ hTO₃ hs₃ => ?_)
      refine wpAny_bind (wpAny_letGo (wpAny_pure ?_)); refine wpAny_bind (wpAny_bind (wpAny_onRaise ?_)); show wpAny _ _ (Builtin.SmallTypes.nextOf (.ref i2) >>= _) _ _ _
      refine wpAny_bind (RZ.nextOf_tuple_end hh (((h2.extBut hs₁.extBut D.i2z).extBut hs₂.extBut D.i12.symm).extBut hs₃.extBut D.TOi2.symm) (((hl2.extBut hs₁.extBut D.l2z).extBut hs₂.extBut D.l2i1).extBut hs₃.extBut D.l2TO) hy fun h₄ e hs₄ he => ?_)
      obtain ⟨oe, hoe, hce⟩ := he
      have hz₄ : IsZ h₄ z TI TO .ellipsis f := hs₄ _ _ D.i2z.symm (hs₃.extBut _ _ D.TOz.symm (hs₂.extBut _ _ D.i1z.symm hz₁))
      have hez : e ≠ z := fun x => by subst x; rw [hz₄] at hoe; cases hoe; simp at hce
      exact wpAny_setField_rec hz₄ (by simp) fun h₅ _ hs₅ => hE h₅ e (fun c o c1 c2 c3 c4 x => hs₅.extBut _ _ c1 (hs₄ _ _ c4 (hs₃.extBut _ _ c2 (hs₂.extBut _ _ c3 (hs₁.extBut _ _ c1 x))))) ⟨oe, hs₅.extBut _ _ hez hoe, hce⟩
  · simp only [Bool.false_eq_true, if_false]; refine wpAny_bind ?_; rw [← Array.forIn_toList]; simp only [List.forIn_cons, List.forIn_nil]
    refine wpAny_bind (wpAny_bind (wpAny_holding ?_)); show wpAny _ _ (Builtin.SmallTypes.nextOf (.ref i1) >>= _) _ _ _
    cases hx : xs[k1]? with
    | none =>
      refine wpAny_bind (RZ.nextOf_tuple_end (s := { s with heap := h₁ }) hh (h1.extBut hs₁.extBut D.i1z) (hl1.extBut hs₁.extBut D.l1z) hx fun h₂ e hs₂ he => ?_)
      exact hE h₂ e (fun c o c1 _ c2 _ x => hs₂ _ _ c2 (hs₁.extBut _ _ c1 x)) he
    | some x =>
      have hy : ys[k2]? = none := hend.resolve_left (by rw [hx]; exact fun q => nomatch q)
      refine wpAny_bind (RZ.nextOf_tuple_item (s := { s with heap := h₁ }) (h1.extBut hs₁.extBut D.i1z) (hl1.extBut hs₁.extBut D.l1z) hx fun h₂ h1₂ hs₂ => wpAny_pure ?_)
      refine wpAny_pure ?_; refine wpAny_bind (wpAny_bind (wpAny_holding ?_)); show wpAny _ _ (Builtin.SmallTypes.nextOf (.ref i2) >>= _) _ _ _
      refine wpAny_bind (RZ.nextOf_tuple_end (s := { s with heap := h₂ }) hh ((h2.extBut hs₁.extBut D.i2z).extBut hs₂.extBut D.i12.symm) ((hl2.extBut hs₁.extBut D.l2z).extBut hs₂.extBut D.l2i1) hy fun h₃ e hs₃ he => ?_)
      exact hE h₃ e (fun c o c1 _ c2 c3 x => hs₃ _ _ c3 (hs₂.extBut _ _ c2 (hs₁.extBut _ _ c1 x))) he
theorem nextN_item {k1 k2 : Nat} {xs ys : Array Value} {x y a b f0 : Value} {f : Bool} {Q : Option Value → Shared → Prop} (D : ZipApart z TI TO i1 i2 l1 l2) (hz : IsZ s.heap z TI TO f0 f) (hf : Fr f0) (hTI : IsPair s.heap TI (.ref i1) (.ref i2)) (hTO : IsPair s.heap TO a b)
    (h1 : s.heap.IsTupleIter i1 l1 k1) (h2 : s.heap.IsTupleIter i2 l2 k2) (hl1 : s.heap.IsTuple l1 xs) (hl2 : s.heap.IsTuple l2 ys) (hx : xs[k1]? = some x) (hy : ys[k2]? = some y)
    (hQ : ∀ h' f1 f', IsZ h' z TI TO f1 f' → Fr f1 → (∃ a b, IsPair h' TO a b) → h'.IsTupleIter i1 l1 (k1 + 1) → h'.IsTupleIter i2 l2 (k2 + 1) → IsPair h' s.heap.objs.size x y → (∀ c o, c ≠ z → c ≠ TO → c ≠ i1 → c ≠ i2 → s.heap.get? c = some o → h'.get? c = some o) → Q (some (.ref s.heap.objs.size)) { s with heap := h' }) : wpAny (model prog w) A (pyNext (.ref z)) Q E s := by
  have hTy : s.TypeIs (.ref z) "zip" := ⟨_, hz, rfl⟩
  unfold pyNext
  exact wpAny_bind (wpAny_attempt (wpAny_callSpecial?_slot (name := Str.ofString "__next__") hTy F.slot_zip_next (wpAny_call_entry F.slot_zip_next hTy F.entry_zip_next (zipN_item D hz hf hTI hTO h1 h2 hl1 hl2 hx hy fun h' f1 f' a1 a2 a3 a4 a5 a6 a7 => wpAny_pure (hQ h' f1 f' a1 a2 a3 a4 a5 a6 a7)) (F.args_zip_next_1 _))))
theorem nextN_end {k1 k2 : Nat} {xs ys : Array Value} {a b f0 : Value} {f : Bool} {Q : Option Value → Shared → Prop} (hh : A.handled = none) (D : ZipApart z TI TO i1 i2 l1 l2) (hz : IsZ s.heap z TI TO f0 f) (hf : Fr f0) (hTI : IsPair s.heap TI (.ref i1) (.ref i2)) (hTO : IsPair s.heap TO a b)
    (h1 : s.heap.IsTupleIter i1 l1 k1) (h2 : s.heap.IsTupleIter i2 l2 k2) (hl1 : s.heap.IsTuple l1 xs) (hl2 : s.heap.IsTuple l2 ys) (hend : xs[k1]? = none ∨ ys[k2]? = none)
    (hQ : ∀ h', (∀ c o, c ≠ z → c ≠ TO → c ≠ i1 → c ≠ i2 → s.heap.get? c = some o → h'.get? c = some o) → Q none { s with heap := h' }) : wpAny (model prog w) A (pyNext (.ref z)) Q E s := by
  have hTy : s.TypeIs (.ref z) "zip" := ⟨_, hz, rfl⟩
  unfold pyNext
  refine wpAny_bind (wpAny_attempt (wpAny_callSpecial?_slot (name := Str.ofString "__next__") hTy F.slot_zip_next (wpAny_call_entry F.slot_zip_next hTy F.entry_zip_next (zipN_end hh D hz hf hTI hTO h1 h2 hl1 hl2 hend fun h' e hk he => ?_) (F.args_zip_next_1 _))))
  obtain ⟨o, ho, hc⟩ := he
  exact wpAny_bind (wpAny_isInstance (T := "StopIteration") (b := true) ⟨o, ho, hc⟩ isSubtype_stop (wpAny_pure (hQ _ hk)))
end
end Pv
end
section
set_option Elab.async false
set_option linter.all false
set_option maxRecDepth 100000
/-! Pv23: the rule for pair in zip(s, t); a < b < c. -/
namespace Pv
open PySem L2 PySem.W PyProof.Rows PySem.SeqAt RZ
section
variable {prog : Program} {w : World} {A : Around} {E : Value → Shared → Prop} {s : Shared} {z TI TO i1 i2 l1 l2 : Addr}
theorem iter_Z {f0 : Value} {f : Bool} {Q : Value → Shared → Prop} (hz : IsZ s.heap z TI TO f0 f) (h : Q (.ref z) s) : wpAny (model prog w) A (pyIter (.ref z)) Q E s := by
  have hT : s.TypeIs (.ref z) "zip" := ⟨_, hz, rfl⟩
  refine wpAny_pyIter_slot hT F.slot_zip_iter (wpAny_call_entry F.slot_zip_iter hT F.entry_zip_iter (show wpAny _ _ (ret (.ref z)) _ _ s from ?_) (F.args_zip_iter_1 _))
  exact wpAny_pure ⟨_, rfl, "zip", _, hT, F.slot_zip_next.lookup, h⟩
end
/-- two tuples in step, each pair in a new tuple -/
def ItzN (K : PySem.W.Frag) (a b : Addr) (l r : List V) : It where
  go i H := SqT K H a l ∧ SqT K H b r ∧ i < l.length ∧ i < r.length
  yld i H v H' := ∃ (T : Addr) (o : Obj) (x y : V), v = .ref T ∧ H T = none ∧ o.dict = none ∧ H' = upd H T (tlet o [x, y]) ∧ l[i]? = some x ∧ r[i]? = some y
  stop i H := SqT K H a l ∧ SqT K H b r ∧ (l.length ≤ i ∨ r.length ≤ i)
theorem walks_zipN {K : PySem.W.Frag} {ρ : List Addr} {Hs : Hp} {a b' : Addr} {vs ws : List V} {ds es : List D} (h : SqT K Hs a vs) (r : RepAll K ρ Hs vs ds) (h' : SqT K Hs b' ws) (r' : RepAll K ρ Hs ws es) : Walks K (ItzN K a b' vs ws) ρ Hs (zipI ds es) where
  go ρ2 Hs2 m2 H i p s b hi := by
    rw [zipI_length, ← r.length, ← r'.length] at hi
    exact ⟨b.sub.t (s.t h), b.sub.t (s.t h'), by omega, by omega⟩
  stop ρ2 Hs2 m2 H i p s b hi := by
    rw [zipI_length, ← r.length, ← r'.length] at hi
    exact ⟨b.sub.t (s.t h), b.sub.t (s.t h'), by omega⟩
  yld ρ2 Hs2 m2 H i x H' p s b hi q := by
    obtain ⟨T, ob, y, z, rfl, hT, hob, rfl, q, q'⟩ := q
    obtain ⟨d, h1, h2⟩ := r.get q
    obtain ⟨d', h1', h2'⟩ := r'.get q'
    have sb := Sub.new (o := tlet ob [y, z]) (hs_none b.sub hT)
    exact ⟨_, upd Hs2 T _, zipI_get ds es i d d' h1 h1', tr_new b.sub hT, b.new hT, .tup ⟨ob, hob, upd_same⟩ (.cons ((h2.mono p s).mono (.refl _) sb) (.one ((h2'.mono p s).mono (.refl _) sb)))⟩
theorem turn_zipN {P : Program} {w : World} {K : PySem.W.Frag} {x : Str} {tpos : Pos} {a b z TI TO i1 i2 : Addr} {l r : List V} (D : ZipApart z TI TO i1 i2 a b) :
    Turn P w K (.Name x tpos) (ItzN K a b l r) [z, TI, TO, i1, i2] z (fun i h => (∃ f0 f, IsZ h z TI TO f0 f ∧ Fr f0) ∧ IsPair h TI (.ref i1) (.ref i2) ∧ (∃ x y, IsPair h TO x y) ∧ h.IsTupleIter i1 a i ∧ h.IsTupleIter i2 b i) where
  mem := by simp
  obj := fun i h st c hc => by
    obtain ⟨⟨f0, f, hz, hf⟩, hTI, ⟨x, y, hTO⟩, ⟨o1, e1, _, d1⟩, ⟨o2, e2, _, d2⟩⟩ := st
    simp only [List.mem_cons, List.not_mem_nil, or_false] at hc
    rcases hc with rfl | rfl | rfl | rfl | rfl
    · exact ⟨_, hz, fun v q => nomatch q⟩
    · exact ⟨_, hTI, fun v q => nomatch q⟩
    · exact ⟨_, hTO, fun v q => nomatch q⟩
    · exact ⟨o1, e1, fun v q => by rw [d1] at q; cases q⟩
    · exact ⟨o2, e2, fun v q => by rw [d2] at q; cases q⟩
  keep := fun i h h' st k => by
    obtain ⟨⟨f0, f, hz, hf⟩, hTI, ⟨x, y, hTO⟩, h1, h2⟩ := st
    exact ⟨⟨f0, f, k z (by simp) _ hz, hf⟩, k TI (by simp) _ hTI, ⟨x, y, k TO (by simp) _ hTO⟩, h1.at fun o q => k i1 (by simp) o q, h2.at fun o q => k i2 (by simp) o q⟩
  item := by
    intro X hP hw hK hc i pins s σ H E I hf st hg
    subst hP hw hK
    obtain ⟨⟨f0, f, hz, hfr⟩, hTI, ⟨x0, y0, hTO⟩, h1, h2⟩ := st
    obtain ⟨hqx, hqy, hl1, hl2⟩ := hg
    obtain ⟨its, rv, p, _⟩ := I.tuple hqx
    obtain ⟨its2, rv2, p2, _⟩ := I.tuple hqy
    obtain ⟨u, hu, ru⟩ := rv.get (List.getElem?_eq_getElem hl1)
    obtain ⟨u2, hu2, ru2⟩ := rv2.get (List.getElem?_eq_getElem hl2)
    refine nextN_item D hz hfr hTI hTO h1 h2 p p2 (x := u) (y := u2) (by simpa using hu) (by simpa using hu2) fun h' f1 f' z' fr' TO' h1' h2' hT hk => ⟨_, rfl, wpAny_pure ?_⟩
    have hT' : h'.get? s.heap.objs.size = some (tObj [u, u2]) := hT
    have new : ObjOk X.prog X.w (upd H s.heap.objs.size (tlet (tObj [u, u2]) [l[i], r[i]])) h' s.heap.objs.size (tlet (tObj [u, u2]) [l[i], r[i]]) := objOk_tlet hT' ⟨by show 2 ≤ sizeLine; decide, [u, u2], .cons ru (.cons ru2 .nil), ⟨_, hT', rfl, _, rfl⟩⟩
    have I1 : L2.Inv X pins σ (upd H s.heap.objs.size (tlet (tObj [u, u2]) [l[i], r[i]])) { s with heap := h' } :=
      I.turnedNew (t' := s.toks) (ch := [z, TI, TO, i1, i2]) (fun c o hb q => hk c o (fun q' => hb (by simp [q'])) (fun q' => hb (by simp [q'])) (fun q' => hb (by simp [q'])) (fun q' => hb (by simp [q'])) q) hf (Nat.le_refl _) new
    refine ⟨.ref s.heap.objs.size, _, I1, rfl, ⟨_, tObj [u, u2], _, _, rfl, I.hok.fresh (Nat.le_refl _), rfl, rfl, List.getElem?_eq_getElem hl1, List.getElem?_eq_getElem hl2⟩, ⟨⟨f1, f', z', fr'⟩, hk _ _ D.TIz D.TITO D.TIi1 D.TIi2 hTI, TO', h1', h2'⟩, fun c hcm => ?_⟩
    have hlt : c < s.heap.objs.size := by
      simp only [List.mem_cons, List.not_mem_nil, or_false] at hcm
      rcases hcm with rfl | rfl | rfl | rfl | rfl
      · exact Heap.lt_size hz
      · exact Heap.lt_size hTI
      · exact Heap.lt_size hTO
      · obtain ⟨_, e1, _⟩ := h1; exact Heap.lt_size e1
      · obtain ⟨_, e2, _⟩ := h2; exact Heap.lt_size e2
    rw [upd_ne (Nat.ne_of_lt hlt)]; exact (hf c hcm).1
  done := by
    intro X hP hw hK hc i pins s σ H E I hf st hg
    subst hP hw hK
    obtain ⟨⟨f0, f, hz, hfr⟩, hTI, ⟨x0, y0, hTO⟩, h1, h2⟩ := st
    obtain ⟨hqx, hqy, hend⟩ := hg
    obtain ⟨its, rv, p, _⟩ := I.tuple hqx
    obtain ⟨its2, rv2, p2, _⟩ := I.tuple hqy
    have l1 := rv.length
    have l2 := rv2.length
    have he : its.toArray[i]? = none ∨ its2.toArray[i]? = none := by
      rcases hend with q | q
      · exact .inl (by simp; omega)
      · exact .inr (by simp; omega)
    exact nextN_end (I.ok.hd hc) D hz hfr hTI hTO h1 h2 p p2 he fun h' hk => ⟨rfl, I.turnedL (t' := s.toks) (ch := [z, TI, TO, i1, i2]) (fun c o hb q => hk c o (fun q' => hb (by simp [q'])) (fun q' => hb (by simp [q'])) (fun q' => hb (by simp [q'])) (fun q' => hb (by simp [q'])) q) hf⟩
  self := fun A i s Q E ⟨⟨_, _, hz, _⟩, _⟩ h => iter_Z hz h
def iZipN (K : PySem.W.Frag) (ta : TA) : TI := fun σ H R => ta σ H fun vs H1 => ∃ a b xs ys, vs = [.ref a, .ref b] ∧ SqT K H1 a xs ∧ SqT K H1 b ys ∧ R (ItzN K a b xs ys) H1
theorem pi_zipN {X : Cx} {e e2 : Expr} {ta : TA} {p pos tpos : Pos} {x : Str} (hg : Gl X "zip") (hm : X.mg "zip" = none) (ha : PA X [e, e2] ta)
    (hs : starEach [e, e2] X.env = (false, eval e X.env) :: starEach [e2] X.env := by rfl) (hpl : (backTo pos (starEach [e2] X.env)).any (·.1) = false := by rfl) : PI X (.Name x tpos) (.Call (.Name "zip" p) [e, e2] [] pos) (iZipN X.K ta) := by
  refine ⟨fun pins s σ H R I h => ?_⟩
  refine Call_ (ld_blt I hg hm PyProof.Rows.boot_zip (PyProof.Rows.callWith_type1 (thn (ha.run pos pins s σ H _ I h) fun us s1 ⟨vs, H1, I1, r1, q1⟩ => ?_) hs hpl))
  obtain ⟨a, b, xs, ys, rfl, hqx, hqy, q⟩ := q1
  cases r1 with
  | cons r rr => cases rr with
    | cons r' rr =>
      cases rr; cases r; cases r'
      have fresh5 : ∀ c, c ∈ [s1.heap.objs.size + 4, s1.heap.objs.size + 2, s1.heap.objs.size + 3, s1.heap.objs.size, s1.heap.objs.size + 1] → FpOk X pins H1 c := fun c hcm => by
        have hle : s1.heap.objs.size ≤ c := by
          simp only [List.mem_cons, List.not_mem_nil, or_false] at hcm
          rcases hcm with rfl | rfl | rfl | rfl | rfl <;> first | exact Nat.le_refl _ | exact Nat.le_add_right _ _
        exact I1.fpOk hle (I1.hok.fresh hle)
      obtain ⟨its, rv, p1, _⟩ := I1.tuple hqx
      obtain ⟨its2, rv2, p2, _⟩ := I1.tuple hqy
      obtain ⟨o1, ho1, _⟩ := id p1
      obtain ⟨o2, ho2, _⟩ := id p2
      refine RZ.call_zipT (show s1.heap.IsTuple a its.toArray from p1) (show s1.heap.IsTuple b its2.toArray from p2) fun h' hz hTI hTO h1 h2 hsz hk => wpAny_pyIter_zip hz ?_
      have I2 : L2.Inv X pins σ H1 { s1 with heap := h' } := I1.kept (t' := s1.toks) hk
      exact ⟨s1.heap.objs.size + 4, [s1.heap.objs.size + 4, s1.heap.objs.size + 2, s1.heap.objs.size + 3, s1.heap.objs.size, s1.heap.objs.size + 1], _, _, H1, rfl, I2, turn_zipN (PySem.W.ktu_apart s1.heap.objs.size a b (Heap.lt_size ho1) (Heap.lt_size ho2)), ⟨⟨_, _, hz, .non⟩, hTI, ⟨_, _, hTO⟩, h1, h2⟩, fresh5, q⟩
def zipND : List D → Option (List D)
  | [.tup xs, .tup ys] => some (zipI xs ys)
  | _ => none
def iZpN (c : Gam → Mu → R (List D)) : IC := fun Γ m => (c Γ m).bind fun ds m1 => R.of (zipND ds) m1
section
variable {X : Cx} {H0 : Hp} {W : WX} {ω : List Md} {a b c : Expr} {ca cb cc : EC} {cs : Gam → Mu → R (List D)} {p pos : Pos}
theorem iv_zipN {x : Str} {tpos : Pos} (B : Bn X.mg) (h : AV X H0 W ω [a, b] cs) (hg : Gl X "zip" := by rfl) (hs : starEach [a, b] X.env = (false, eval a X.env) :: starEach [b] X.env := by rfl) (hpl : (backTo pos (starEach [b] X.env)).any (·.1) = false := by rfl) : IV X H0 W ω (.Name x tpos) (.Call (.Name "zip" p) [a, b] [] pos) (iZpN cs) :=
  PI.imp (pi_zipN hg B.zip h hs hpl) fun σ H Q ⟨Γ, m, ρ, Hs, b, en, o⟩ => ⟨Γ, m, ρ, Hs, b, en, Out.mono (Out.bind o) fun vs H1 ⟨ds, m1, ρ1, Hs1, t1, b1, r1, o1⟩ => by
    obtain ⟨xs, hi, o1⟩ := Out.ofV o1
    cases r1 with
    | nil => cases hi
    | cons h1 r1 => cases r1 with
      | nil => cases h1 <;> cases hi
      | cons h2 r1 => cases r1 with
        | cons _ _ => cases h1 <;> cases h2 <;> cases hi
        | nil =>
          cases h1 with
          | tup q1 q2 => cases h2 with
            | tup q3 q4 => cases hi; exact ⟨_, _, _, _, rfl, sqt (q1.sub b1.sub), sqt (q3.sub b1.sub), o1 _ ρ1 Hs1 H1 (.refl ..) b1 (walks_zipN (sqt q1) q2 (sqt q3) q4)⟩
            | _ => cases hi
          | _ => cases hi⟩
/-! ### a < b < c -/
def tChainC (g g' : Mu → D → D → Option D) (ca cb cc : EC) : TC := fun Γ m => (cChain g g' ca cb cc Γ m).bind fun d m1 => R.of (asBl d) m1
end
end Pv
end
section
set_option Elab.async false
set_option linter.all false
set_option maxRecDepth 100000
/-! Pv24: dicts: reading. -/
namespace Pv
open PySem L2 PySem.W PyProof.Rows PySem.SeqAt
def keyD : D → Option Key
  | .int i => some (.inl i)
  | .str x => some (.inr x)
  | _ => none
def keysD : List D → Option (List Key)
  | [] => some []
  | d :: ds => (keyD d).bind fun k => (keysD ds).bind fun ks => some (k :: ks)
def tkeyD : D → Option (List Key)
  | .tup xs => if emk || !xs.isEmpty then keysD xs else none
  | _ => none
def dfind (kvs : List (D × D)) (k : D) : Option D := (kvs.find? fun kv => kv.1.eqv k).map (·.2)
def putD (kvs : List (D × D)) (k v : D) : List (D × D) := if kvs.any (fun kv => kv.1.eqv k) then kvs.map (fun kv => if kv.1.eqv k then (kv.1, v) else kv) else kvs ++ [(k, v)]
def keyOk : Bool → D → Bool
  | true, k => (tkeyD k).isSome
  | false, k => (keyD k).isSome
theorem keyD_eq {d : D} {k : Key} (h : keyD d = some k) : d = kD k := by cases d <;> simp [keyD] at h <;> subst h <;> rfl
theorem keysD_eq : ∀ {ds : List D} {ks : List Key}, keysD ds = some ks → ds = ks.map kD
  | [], ks, h => by simp [keysD] at h; subst h; rfl
  | d :: ds, ks, h => by
    simp only [keysD, Option.bind_eq_some_iff] at h
    obtain ⟨k, h1, ks', h2, h3⟩ := h
    cases h3
    rw [keyD_eq h1, keysD_eq h2]; rfl
theorem tkeyD_eq {d : D} {ks : List Key} (h : tkeyD d = some ks) : d = tD ks := by
  cases d <;> simp only [tkeyD] at h <;> try (cases h; done)
  split at h
  · rw [keysD_eq h]; rfl
  · cases h
theorem ktV_keys {d : D} {ks : List Key} (h : tkeyD d = some ks) : ktV (ks.map kV) = true := by
  have e := tkeyD_eq h
  subst e
  simp only [tD, tkeyD] at h
  split at h
  · rename_i q
    unfold ktV
    rw [Bool.and_eq_true]
    refine ⟨by cases ks <;> simpa using q, List.all_eq_true.mpr fun v hv => ?_⟩
    obtain ⟨k, _, rfl⟩ := List.mem_map.mp hv
    cases k <;> rfl
  · cases h
theorem kD_eqv (a b : Key) : (kD a).eqv (kD b) = decide (a = b) := by
  cases a <;> cases b <;> simp only [kD, D.eqv]
  · rename_i i j
    by_cases h : i = j
    · subst h; simp
    · rw [decide_eq_false (fun z => h (by cases z; rfl))]; simpa using h
  · rfl
  · rfl
  · rename_i i j
    by_cases h : i = j
    · subst h; simp
    · rw [decide_eq_false (fun z => h (by cases z; rfl))]; simpa using h
theorem kDs_eqv : ∀ a b : List Key, eqvAll (a.map kD) (b.map kD) = decide (a = b)
  | [], [] => by simp [eqvAll]
  | [], _ :: _ => by simp [eqvAll]
  | _ :: _, [] => by simp [eqvAll]
  | x :: xs, y :: ys => by
    simp only [List.map_cons, eqvAll, kD_eqv, kDs_eqv xs ys, List.cons.injEq]
    by_cases h : x = y <;> by_cases h' : xs = ys <;> simp [h, h']
theorem tD_eqv (a b : List Key) : (tD a).eqv (tD b) = decide (a = b) := by
  simp only [tD, D.eqv]; exact kDs_eqv a b
theorem rep_key {K : PySem.W.Frag} {ρ : List Addr} {H : Hp} {v : V} {k : Key} (h : Rep K ρ H v (kD k)) : v = kV k := by
  cases k <;> cases h <;> rfl
theorem rep_keys {K : PySem.W.Frag} {ρ : List Addr} {H : Hp} : ∀ {vs : List V} {ks : List Key}, RepAll K ρ H vs (ks.map kD) → vs = ks.map kV
  | [], [], _ => rfl
  | _ :: _, [], h => by cases h
  | [], _ :: _, h => by cases h
  | v :: vs, k :: ks, h => by
    cases h with
    | cons a r => rw [rep_key a, rep_keys r]; rfl
/-- what is found -/
inductive Fnd (K : PySem.W.Frag) (ρ : List Addr) (H : Hp) : Option V → Option D → Prop
  | no : Fnd K ρ H none none
  | yes {v : V} {d : D} : Rep K ρ H v d → Fnd K ρ H (some v) (some d)
theorem fnd_of {κ : Type} [DecidableEq κ] {K : PySem.W.Frag} {ρ : List Addr} {H : Hp} (g : κ → D) (hg : ∀ a b, (g a).eqv (g b) = decide (a = b)) (k : κ) : ∀ {es : List (κ × V)} {kvs : List (D × D)}, kvs.map (·.1) = es.map (fun e => g e.1) → RepAll K ρ H (es.map (·.2)) (kvs.map (·.2)) → Fnd K ρ H (valV es k) (dfind kvs (g k))
  | [], [], _, _ => .no
  | _ :: _, [], h, _ => by cases h
  | [], _ :: _, h, _ => by cases h
  | e :: es, (a, d) :: kvs, h, r => by
    simp only [List.map_cons, List.cons.injEq] at h
    rw [List.map_cons, List.map_cons] at r
    cases r with
    | cons r1 r2 =>
      have ih := fnd_of g hg k h.2 r2
      unfold valV dfind at ih ⊢
      rw [List.find?_cons, List.find?_cons]
      show Fnd K ρ H (Option.map _ (match decide (e.1 = k) with | true => some e | false => _)) (Option.map _ (match a.eqv (g k) with | true => some (a, d) | false => _))
      rw [h.1, hg]
      cases decide (e.1 = k) with
      | true => exact .yes r1
      | false => exact ih
section
variable {X : Cx} {f : Bool} {H0 : Hp} {W : WX} {ω : List Md} {a b c : Expr} {ca cb cc : EC} {p pos : Pos}
theorem dget_of {K : PySem.W.Frag} {ρ : List Addr} {Hs H : Hp} {m : Mu} {x y : V} {t : Bool} {kvs : List (D × D)} {k : D} (b : Bs K ρ m Hs H) (hx : BRep K ρ Hs H x (.dct t kvs)) (hy : BRep K ρ Hs H y k) (hk : keyOk t k = true) : ∃ a o, x = .ref a ∧ DGet H a y o ∧ Fnd K ρ Hs o (dfind kvs k) := by
  cases t with
  | false =>
    obtain ⟨a, es, rfl, h1, h2, h3⟩ := hx.itemsK b
    obtain ⟨kk, hkk⟩ := Option.isSome_iff_exists.mp (show (keyD k).isSome = true from hk)
    have e := keyD_eq hkk
    subst e
    have hy' := hy.full b
    rw [rep_key hy']
    exact ⟨a, _, rfl, .k h1, fnd_of kD kD_eqv kk h2 h3⟩
  | true =>
    obtain ⟨a, es, rfl, h1, h2, h3⟩ := hx.itemsTk b
    obtain ⟨kk, hkk⟩ := Option.isSome_iff_exists.mp (show (tkeyD k).isSome = true from hk)
    have e := tkeyD_eq hkk
    have kt := ktV_keys hkk
    subst e
    have hy' := hy.full b
    cases hy' with
    | tup g1 g2 =>
      rw [rep_keys g2] at g1
      exact ⟨a, _, rfl, .inr ⟨_, _, _, h1, rfl, g1.key kt, rfl⟩, fnd_of tD tD_eqv kk h2 h3⟩
theorem isD_of {K : PySem.W.Frag} {ρ : List Addr} {Hs H : Hp} {m : Mu} {x : V} {t : Bool} {kvs : List (D × D)} (b : Bs K ρ m Hs H) (hx : BRep K ρ Hs H x (.dct t kvs)) : ∃ a, x = .ref a ∧ IsD H a := by
  cases t with
  | false => obtain ⟨a, es, rfl, h1, _⟩ := hx.itemsK b; exact ⟨a, rfl, .inl ⟨_, .inl h1⟩⟩
  | true => obtain ⟨a, es, rfl, h1, _⟩ := hx.itemsTk b; exact ⟨a, rfl, .inr ⟨_, h1⟩⟩
/-- d[k] -/
def dixD : Mu → D → D → Option D
  | _, .dct t kvs, k => if keyOk t k then dfind kvs k else none
  | _, _, _ => none
theorem ev_dix (hu : X.A.units + 64 < cLine) (ha : BV X H0 W ω a ca) (hb : BV X H0 W ω b cb) (hs : NoSl b := by exact fun _ _ => rfl) : EV X H0 W ω (.Subscript a b pos) (c2 dixD ca cb) :=
  EB.ev (PE.imp (pe_dget (by omega) ha hb hs) fun σ H Q ⟨Γ, m, ρ, Hs, b, en, o⟩ => by
    refine ⟨Γ, m, ρ, Hs, b, en, OutW.mono (OutB.bindW o) fun x H1 ⟨d, m1, ρ1, Hs1, t1, b1, r1, o1⟩ => ?_⟩
    refine ⟨Γ, m1, ρ1, Hs1, b1, en.mono t1, OutW.mono (OutB.bindW o1) fun y H2 ⟨e, m2, ρ2, Hs2, t2, b2, r2, o2⟩ => ?_⟩
    obtain ⟨z, hz, o3⟩ := OutB.of o2
    clear o2 o1
    cases d <;> simp only [dixD] at hz <;> try (cases hz; done)
    split at hz
    · rename_i hk
      obtain ⟨a, o, rfl, g, fd⟩ := dget_of b2 (r1.mono t2) r2 hk
      rw [hz] at fd
      cases fd with
      | yes r => exact ⟨a, _, rfl, g, o3.val b2 r⟩
    · cases hz)
/-- k in d -/
def dinD : Mu → D → D → Option D
  | _, k, .dct t kvs => if keyOk t k then some (.bl (dfind kvs k).isSome) else none
  | _, _, _ => none
def dninD : Mu → D → D → Option D
  | _, k, .dct t kvs => if keyOk t k then some (.bl (!(dfind kvs k).isSome)) else none
  | _, _, _ => none
theorem Fnd.isSome {K : PySem.W.Frag} {ρ : List Addr} {H : Hp} {o : Option V} {q : Option D} (h : Fnd K ρ H o q) : o.isSome = q.isSome := by cases h <;> rfl
theorem din_read {g : Mu → D → D → Option D} (n : Bool → Bool) (hg : ∀ m d e z, g m d e = some z → ∃ t kvs, e = .dct t kvs ∧ keyOk t d = true ∧ z = .bl (n (dfind kvs d).isSome)) {σ : L2.St} {H : Hp} {Q : VK} (h : cEB false X H0 W ω (c2 g ca cb) σ H Q) :
    cW X H0 W ω ca σ H fun y H1 => cW X H0 W ω cb σ H1 fun x H2 => ∃ a o, x = .ref a ∧ DGet H2 a y o ∧ Q (.bl (n o.isSome)) H2 := by
  obtain ⟨Γ, m, ρ, Hs, b, en, o⟩ := h
  refine ⟨Γ, m, ρ, Hs, b, en, OutW.mono (OutB.bindW o) fun y H1 ⟨d, m1, ρ1, Hs1, t1, b1, r1, o1⟩ => ?_⟩
  refine ⟨Γ, m1, ρ1, Hs1, b1, en.mono t1, OutW.mono (OutB.bindW o1) fun x H2 ⟨e, m2, ρ2, Hs2, t2, b2, r2, o2⟩ => ?_⟩
  obtain ⟨z, hz, o2⟩ := OutB.of o2
  obtain ⟨t, kvs, rfl, hk, rfl⟩ := hg _ _ _ _ hz
  obtain ⟨a, o, rfl, g, fd⟩ := dget_of b2 r2 (r1.mono t2) hk
  refine ⟨a, o, rfl, g, ?_⟩
  rw [fd.isSome]
  exact o2.val b2 (.bl _)
theorem hg_dnin (m : Mu) (d e z : D) (h : dninD m d e = some z) : ∃ t kvs, e = .dct t kvs ∧ keyOk t d = true ∧ z = .bl (not (dfind kvs d).isSome) := by
  cases e <;> simp only [dninD] at h <;> try (cases h; done)
  obtain ⟨h1, rfl⟩ := of_if h
  exact ⟨_, _, rfl, h1, rfl⟩
theorem tcmp_read {g : Mu → D → D → Option D} {σ : L2.St} {H : Hp} {Q : Bool → Hp → Prop} (h : cT X H0 W ω (tCmp g ca cb) σ H Q) : cEB false X H0 W ω (c2 g ca cb) σ H fun x H' => ∃ k, x = .bl k ∧ Q k H' := by
  obtain ⟨Γ, m, ρ, Hs, b, en, o⟩ := h
  refine ⟨Γ, m, ρ, Hs, b, en, ?_⟩
  rw [OutB.out]
  refine Out.mono (Out.bind (Rp := Rep X.K) o) fun v H1 ⟨d, m1, ρ1, Hs1, t1, b1, r1, o1⟩ => ?_
  obtain ⟨k, hk, o1⟩ := Out.ofV o1
  cases d <;> simp only [asBl] at hk <;> try (cases hk; done)
  cases hk
  cases r1
  exact ⟨_, rfl, o1 _ ρ1 Hs1 H1 (.refl ..) b1 rfl⟩
theorem tv_dnin (hu : X.A.units + 64 < cLine) (ha : BV X H0 W ω a ca) (hb : BV X H0 W ω b cb) (h1 : behindInMarks .NotIn b = false := by rfl) : TV X H0 W ω (.Compare a [.NotIn] [b] pos) (tCmp dninD ca cb) :=
  PT.imp (pt_cmp (pc_dnotin (by omega) ha hb) h1) fun σ H Q h => din_read not hg_dnin (tcmp_read h)
/-- d.get(k) -/
def dgetD : Mu → D → D → Option D
  | _, .dct t kvs, k => if keyOk t k then some ((dfind kvs k).getD .non) else none
  | _, _, _ => none
def cGet (ca cb : EC) : EC := fun Γ m => (ca Γ m).bind fun d m1 => match d with
  | .dct t kvs => (cb Γ m1).bind fun e m2 => R.of (dgetD m2 (.dct t kvs) e) m2
  | _ => .bad
theorem ev_get1 {apos cpos : Pos} (hu : X.A.units + 64 < cLine) (ha : BV X H0 W ω a ca) (hb : BV X H0 W ω b cb) (m : M1 X a "get" apos b cpos := by exact ⟨rfl, rfl, rfl, rfl⟩) : EV X H0 W ω (.Call (.Attribute a "get" apos) [b] [] cpos) (cGet ca cb) :=
  EB.ev (PE.imp (pe_dget1 (by omega) ha hb m) fun σ H Q ⟨Γ, m, ρ, Hs, b, en, o⟩ => by
    refine ⟨Γ, m, ρ, Hs, b, en, OutW.mono (OutB.bindW o) fun x H1 ⟨d, m1, ρ1, Hs1, t1, b1, r1, o1⟩ => ?_⟩
    cases d <;> try exact o1.elim
    rename_i t kvs
    obtain ⟨a, rfl, hd⟩ := isD_of b1 r1
    have o1 : OutB false X.K X.mg (fun cls dx H' => W cls dx σ H') ((cb Γ m1).bind fun e m2 => R.of (dgetD m2 (.dct t kvs) e) m2) ρ1 Hs1 H1 Q := o1
    refine ⟨a, rfl, hd, Γ, m1, ρ1, Hs1, b1, en.mono t1, OutW.mono (OutB.bindW o1) fun y H2 ⟨e, m2, ρ2, Hs2, t2, b2, r2, o2⟩ => ?_⟩
    obtain ⟨z, hz, o2⟩ := OutB.of o2
    obtain ⟨hk, rfl⟩ := of_if hz
    obtain ⟨a', o, e', g, fd⟩ := dget_of b2 (r1.mono t2) r2 hk
    cases e'
    refine ⟨o, g, ?_⟩
    generalize hq : dfind kvs e = q at o2 fd
    cases fd with
    | no => exact o2.val b2 .non
    | yes r => exact o2.val b2 r)
/-- d.get(k, x) -/
def cGet2 (ca cb cc : EC) : EC := fun Γ m => (ca Γ m).bind fun d m1 => match d with
  | .dct t kvs => (cb Γ m1).bind fun e m2 => (cc Γ m2).bind fun z m3 => if keyOk t e then .ok ((dfind kvs e).getD z) m3 else .bad
  | _ => .bad
theorem ev_get2 {apos cpos : Pos} (hu : X.A.units + 64 < cLine) (ha : BV X H0 W ω a ca) (hb : BV X H0 W ω b cb) (hc : EV X H0 W ω c cc) (m : M2 X a "get" apos b c cpos := by exact ⟨rfl, rfl, rfl, rfl⟩) : EV X H0 W ω (.Call (.Attribute a "get" apos) [b, c] [] cpos) (cGet2 ca cb cc) :=
  EB.ev (PE.imp (pe_dget2 (by omega) ha hb hc m) fun σ H Q ⟨Γ, m, ρ, Hs, b, en, o⟩ => by
    refine ⟨Γ, m, ρ, Hs, b, en, OutW.mono (OutB.bindW o) fun x H1 ⟨d, m1, ρ1, Hs1, t1, b1, r1, o1⟩ => ?_⟩
    cases d <;> try exact o1.elim
    rename_i t kvs
    obtain ⟨a, rfl, hd⟩ := isD_of b1 r1
    have o1 : OutB false X.K X.mg (fun cls dx H' => W cls dx σ H') ((cb Γ m1).bind fun e m2 => (cc Γ m2).bind fun z m3 => if keyOk t e then .ok ((dfind kvs e).getD z) m3 else .bad) ρ1 Hs1 H1 Q := o1
    refine ⟨a, rfl, hd, Γ, m1, ρ1, Hs1, b1, en.mono t1, OutW.mono (OutB.bindW o1) fun y H2 ⟨e, m2, ρ2, Hs2, t2, b2, r2, o2⟩ => ?_⟩
    refine ⟨Γ, m2, ρ2, Hs2, b2, (en.mono t1).mono t2, Out.mono (OutB.bind o2) fun w H3 ⟨z, m3, ρ3, Hs3, t3, b3, r3, o3⟩ => ?_⟩
    obtain ⟨hk, o3⟩ := OutB.guard o3
    obtain ⟨a', o, e', g, fd⟩ := dget_of b3 ((r1.mono t2).mono t3) (r2.mono t3) hk
    cases e'
    refine ⟨o, g, ?_⟩
    generalize hq : dfind kvs e = q at o3 fd
    cases fd with
    | no => exact o3.val b3 r3
    | yes r => exact o3.val b3 r)
end
end Pv
end
section
set_option Elab.async false
set_option linter.all false
set_option maxRecDepth 100000
/-! Pv25: {**d, **e}. -/
namespace Pv
open PySem L2 PySem.W PyProof.Rows PySem.SeqAt
section
variable {prog : Program} {w : World} {K : Type} [DecidableEq K] {knd : PySem.KeyKind prog w K} {A : Around} {E : Value → Shared → Prop} {s : Shared}
theorem put_pairs {d : Addr} {kvs : List (K × Value)} {k : K} {key v : Value} {Q : Unit → Shared → Prop} (hkey : knd.is k key = true) (hm : s.heap.DictOf knd d kvs) (hsz : kvs.length ≤ sizeLine)
    (hQ : ∀ h', h'.DictOf knd d (stored kvs k v) → Heap.SameBut d s.heap h' → Q () { s with heap := h' }) : wpAny (model prog w) A (dictPut d (knd.hash k) key v) Q E s := by
  obtain ⟨o, es, ep, ho, hc, hd, hk, hp, hn⟩ := hm
  have hes : es.size ≤ sizeLine := by have e1 := hp.length; rw [Array.length_toList] at e1; omega
  unfold dictPut; refine wpAny_bind (wpAny_dictFind_of hkey ho hd hk ?_)
  have hidx : (es.findIdx? fun e => knd.is k e.key) = kvs.findIdx? fun kv => decide (kv.1 = k) := by rw [← hp.findIdx k]; obtain ⟨l⟩ := es; simp
  cases hi : es.findIdx? fun e => knd.is k e.key with
  | some i =>
    refine wpAny_updateDict ho hd (hQ _ ⟨_, _, ep, Heap.get?_update_self _ ho (Obj.isFreed_of_dict (Obj.data_mapDict hd _)), hc.mapDict _, Obj.data_mapDict hd _, hk.modify _ _, ?_, ?_⟩ (Heap.SameBut.update ..))
    · rw [stored, if_pos (any_of_findIdx_some (hidx ▸ hi))]
      have hl : (es.toList.findIdx? fun e => knd.is k e.key) = some i := by rw [← hi]; obtain ⟨l⟩ := es; simp
      have := hp.modify hn hl v; obtain ⟨l⟩ := es; simpa using this
    · rw [stored, if_pos (any_of_findIdx_some (hidx ▸ hi)), keys_map_store]; exact hn
  | none =>
    have hnot : k ∉ kvs.map (·.1) := not_mem_of_findIdx_none (hidx ▸ hi)
    have hany : ¬ (kvs.any fun kv => decide (kv.1 = k)) = true := fun z => by
      obtain ⟨kv, hkv, he⟩ := List.any_eq_true.mp z; exact hnot (List.mem_map.mpr ⟨kv, hkv, of_decide_eq_true he⟩)
    refine wpAny_updateDictKeys (hz := hes) ho hd (hQ _ ⟨_, _, ep + 1, Heap.get?_update_self _ ho (Obj.isFreed_of_dict (Obj.data_mapDictKeys hd _)), hc.mapDictKeys _, Obj.data_mapDictKeys hd _, hk.push hkey _, ?_, ?_⟩ (Heap.SameBut.update ..))
    · rw [stored, if_neg hany]
      have := hp.append hkey (knd.hash k) v; obtain ⟨l⟩ := es; simpa using this
    · rw [stored, if_neg hany, List.map_append, List.nodup_append]
      exact ⟨hn, by simp, fun a ha b hb e => by simp only [List.map_cons, List.map_nil, List.mem_singleton] at hb; subst hb; exact hnot (e ▸ ha)⟩
theorem merge_pairs {d o : Addr} {kvs more : List (K × Value)} {Q : Unit → Shared → Prop} (hnr : ∀ k a, knd.is k (.ref a) = false) (hdo : d ≠ o) (hoS : (o == sysModules) = false) (hd : s.heap.DictOf knd d kvs) (ho : s.heap.DictOf knd o more) (hsz : kvs.length + more.length ≤ sizeLine)
    (hQ : ∀ h', h'.DictOf knd d (merged kvs more) → Heap.SameBut d s.heap h' → Q () { s with heap := h' }) : wpAny (model prog w) A (mergeMapping d (.ref o) false) Q E s := by
  obtain ⟨od, esd, epd, hod, hcd, hdd, hkd, hpd, hnd⟩ := id hd
  obtain ⟨oo, eso, epo, hoo, hco, hdo', hko, hpo, hno⟩ := id ho
  have hT : s.TypeIs (.ref o) "dict" := ⟨oo, hoo, hco.1⟩
  have hlen : more.length = eso.size := by rw [← hpo.length]; simp
  unfold mergeMapping
  refine wpAny_bind (wpAny_isInstance hT PySem.F.sub_dict_dict ?_)
  simp only [if_true]
  refine wpAny_bind (wpAny_specialOf hT PySem.F.slot_dict_iter.lookup ?_)
  rw [beq_self_eq_true]
  simp only [hoS, Bool.false_eq_true, if_false]
  refine wpAny_bind (wpAny_pure ?_)
  simp only [hoS, Bool.false_eq_true, if_false]
  refine wpAny_bind (wpAny_dictEntries hod hdd ?_)
  have fin : wpAny (model prog w) A (do
      let l ← dictEntries o
      let epoch ← dictEpoch o
      forIn (List.range l.size) PUnit.unit fun i (_ : PUnit) => (do
          let l' ← dictEntries o
          match l'[i]? with
            | some e => do
              holding [e.key, e.val] (dictPut d e.hash e.key e.val)
              let ep' ← dictEpoch o
              if (ep' != epoch) = true then do
                  (unsupported "dict.changed-during-merge" : Sem PUnit)
                  pure (ForInStep.yield PUnit.unit)
                else pure (ForInStep.yield PUnit.unit)
            | _ => do
              (unsupported "dict.changed-during-merge" : Sem PUnit)
              pure (ForInStep.yield PUnit.unit) : Sem (ForInStep PUnit))
      pure ()) Q E s := by
    refine wpAny_bind (wpAny_dictEntries hoo hdo' ?_); refine wpAny_bind (wpAny_dictEpoch hoo hdo' ?_); refine wpAny_bind ?_
    refine wpAny_forIn_list _ (fun rest _ s' => ∃ h' i, s' = { s with heap := h' } ∧ rest = List.range' i (eso.size - i) ∧ i ≤ eso.size ∧ h'.DictOf knd d (merged kvs (more.take i)) ∧ h'.get? o = some oo ∧ Heap.SameBut d s.heap h') _ ?_ ?_ _ _ ⟨s.heap, 0, rfl, by simp [List.range_eq_range'], Nat.zero_le _, by simpa [merged] using hd, hoo, Heap.SameBut.refl _ _⟩
    · rintro x rest b s' ⟨h', i, rfl, hr, hi, hd', hoo', hs'⟩
      have hlt : i < eso.size := by
        rcases Nat.lt_or_ge i eso.size with h | h
        · exact h
        · rw [Nat.sub_eq_zero_of_le h] at hr; simp at hr
      obtain ⟨rfl, hrest⟩ : x = i ∧ rest = List.range' (i + 1) (eso.size - (i + 1)) := by
        have e : eso.size - i = (eso.size - (i + 1)) + 1 := by omega
        rw [e, List.range'_succ] at hr; injection hr with h1 h2; exact ⟨h1, h2⟩
      refine wpAny_bind (wpAny_dictEntries hoo' hdo' ?_); rw [Array.getElem?_eq_getElem hlt]
      obtain ⟨kv, hkv⟩ : ∃ kv, more[x]? = some kv := ⟨more[x]'(by rw [hlen]; exact hlt), List.getElem?_eq_getElem _⟩
      obtain ⟨k, v⟩ := kv
      obtain ⟨hkey, hval⟩ := hpo.get? (e := eso[x]) (by simp [hlt]) hkv
      obtain ⟨k', hkey', hhash⟩ := hko eso[x] (Array.getElem_mem hlt)
      obtain rfl : k' = k := knd.inj _ _ _ hkey' hkey
      show wpAny _ _ (holding [eso[x].key, eso[x].val] (dictPut d eso[x].hash eso[x].key eso[x].val) >>= _) _ _ _
      rw [hhash, hval]
      have hmx : (merged kvs (more.take x)).length ≤ sizeLine := by
        have e1 := merged_length_le kvs (more.take x)
        have e2 : (more.take x).length ≤ more.length := by rw [List.length_take]; omega
        omega
      refine wpAny_bind (wpAny_holding (put_pairs hkey hd' hmx fun h'' hd'' hs'' => ?_))
      have hoo'' : h''.get? o = some oo := (hs''.2 o (Ne.symm hdo)).trans hoo'
      refine wpAny_bind (wpAny_dictEpoch hoo'' hdo' ?_); rw [if_neg (by simp)]
      exact wpAny_pure ⟨h'', x + 1, rfl, hrest, hlt, by rw [merged_take_succ kvs more x (k', v) hkv]; exact hd'', hoo'', hs'.trans hs''⟩
    · rintro b s' ⟨h', i, rfl, hr, hi, hd', hoo', hs'⟩
      have hin : i = eso.size := by
        rcases Nat.lt_or_ge i eso.size with h | h
        · have e : eso.size - i = (eso.size - (i + 1)) + 1 := by omega
          rw [e, List.range'_succ] at hr; cases hr
        · omega
      rw [hin, ← hlen, List.take_length] at hd'
      exact wpAny_pure (hQ h' hd' hs')
  cases he : esd.isEmpty
  all_goals simp only [Bool.false_eq_true, if_false, if_true]
  case true =>
    refine wpAny_bind (wpAny_dictEntries hoo hdo' ?_)
    refine wpAny_bind (wpAny_forIn_array' _ (fun rest _ s' => (∀ e ∈ rest, e ∈ eso) ∧ s' = s) _ ?_ ?_ _ _ ⟨fun e he => by simpa using he, rfl⟩)
    · rintro e rest b s' ⟨hm, rfl⟩
      obtain ⟨k, hk, _⟩ := hko e (hm e List.mem_cons_self)
      cases hek : e.key
      case ref a => rw [hek, hnr] at hk; cases hk
      all_goals exact wpAny_pure ⟨fun e he => hm e (List.mem_cons_of_mem _ he), rfl⟩
    · rintro b s' ⟨_, rfl⟩
      exact fin
  case false => exact fin
end
end Pv
end
section
set_option Elab.async false
set_option linter.all false
set_option maxRecDepth 100000
/-! Pv26: {**d, **e} as an expression. -/
namespace Pv
open PySem L2 PySem.W PyProof.Rows PySem.SeqAt
def tMrg (ta tb : TE) : TE := fun σ H Q => ∀ p, H p = none → ta σ (upd H p (.dK [])) fun x H1 => ∃ a es, x = .ref a ∧ a ≠ p ∧ H1 p = some (.dK []) ∧ Rd H1 a (.dK es) ∧ es.length ≤ 1000000 ∧ tb σ (upd H1 p (.dK (mergeK [] es))) fun y H2 => ∃ b fs, y = .ref b ∧ b ≠ p ∧ H2 p = some (.dK (mergeK [] es)) ∧ Rd H2 b (.dK fs) ∧ fs.length ≤ 1000000 ∧ Q (.ref p) (upd H2 p (.dK (mergeK (mergeK [] es) fs)))
section
variable {X : Cx} {a b : Expr} {ta tb : TE} {pos : Pos}
theorem mix_ref {P : Program} {w : World} (k : Key) (a : Addr) : (mixKind P w).is k (.ref a) = false := by cases k <;> rfl
theorem merge_step {pins : List (Addr × Obj)} {s : Shared} {σ : L2.St} {H : Hp} {p o : Addr} {kvs es : List (Key × V)} {A : Around} {E : Value → Shared → Prop} {Q : Unit → Shared → Prop} (I : L2.Inv X pins σ H s) (hp : H p = some (.dK kvs)) (ho : Rd H o (.dK es)) (hne : o ≠ p) (hz : kvs.length + es.length ≤ sizeLine)
    (q : ∀ s', L2.Inv X pins σ (upd H p (.dK (mergeK kvs es))) s' → Q () s') : wpAny (model X.prog X.w) A (mergeMapping p (.ref o) false) Q E s := by
  obtain ⟨z1, hd, vs, rel, dd⟩ := dk_of I.hok hp
  obtain ⟨z2, hd2, vs2, rel2, dd2⟩ := dk_rd I.hok ho
  refine merge_pairs (knd := mixKind X.prog X.w) mix_ref (Ne.symm hne) hd2 dd dd2 (by rw [← rel.length, ← rel2.length]; exact hz) fun h' dd' hs => q _ ?_
  have hl : (mergeK kvs es).length ≤ sizeLine := by have := length_mergeK es kvs; omega
  have he : ∃ q, h'.get? p = some q := let ⟨q, _, _, hq, _⟩ := dd'; ⟨q, hq⟩
  exact d_write I (by rw [hp]; exact True.intro) hs he (dk_new hl hd (rel2.merge rel) dd')
theorem pe_mrg (ha : PE X a ta) (hb : PE X b tb) : PE X (.Dict [none, none] [a, b] pos) (tMrg ta tb) := by
  refine ⟨fun pins s σ H Q I h => ?_⟩
  rw [arm_eval_Dict]
  refine wpAny_bind (wpAny_standAt ?_)
  show wpAny _ _ (dictDisplay [(none, do let x ← eval a X.env; standAt pos; pure x), (none, do let x ← eval b X.env; standAt pos; pure x)]) _ _ _
  unfold dictDisplay
  dsimp only
  simp only [List.forIn_cons, List.forIn_nil]
  have hn := I.hok.fresh (Nat.le_refl s.heap.objs.size)
  have I1 := I.laid (a := s.heap.objs.size) (o := .dK []) (h' := s.heap.push { cls := .type "dict", data := .dict #[] }) (t' := s.toks) (fun _ _ q => Heap.get?_push_of_some _ q) (Nat.le_refl _) (dk_empty s.heap I.big)
  simp only [List.isEmpty_nil, if_true]
  refine wpAny_bind (wpAny_bind (wpAny_bind (wpAny_pure ?_)))
  dsimp only
  refine wpAny_bind (wpAny_alloc ?_)
  refine wpAny_bind (wpAny_holding ?_)
  refine wpAny_bind (thn (ha.run pins _ σ _ _ I1 (h _ hn)) fun v s1 ⟨x, H1, J1, r1, a', es, ex, hne, h1, h2, h3, q1⟩ => wpAny_bind (wpAny_standAt (wpAny_pure ?_)))
  subst ex
  obtain rfl : v = Value.ref a' := r1
  refine wpAny_bind (wpAny_onRaise (wpAny_tryCatch (wpAny_onRaise (wpAny_holding (merge_step J1 h1 h2 hne (by rw [sizeLine_eq]; simp; omega) fun s2 J2 => ?_)))))
  refine wpAny_pure ?_
  dsimp only
  simp only [List.isEmpty_nil, if_true]
  refine wpAny_bind (wpAny_bind (wpAny_pure ?_))
  dsimp only
  refine wpAny_bind (wpAny_pure (wpAny_bind (wpAny_holding ?_)))
  refine wpAny_bind (thn (hb.run pins _ σ _ _ J2 q1) fun v s3 ⟨y, H2, J3, r3, b', fs, ey, hne', g1, g2, g3, q3⟩ => wpAny_bind (wpAny_standAt (wpAny_pure ?_)))
  subst ey
  obtain rfl : v = Value.ref b' := r3
  have hl : (mergeK [] es).length ≤ 1000000 := by have := length_mergeK es []; rw [List.length_nil] at this; omega
  refine wpAny_bind (wpAny_onRaise (wpAny_tryCatch (wpAny_onRaise (wpAny_holding (merge_step J3 g1 g2 hne' (by rw [sizeLine_eq]; omega) fun s4 J4 => ?_)))))
  refine wpAny_pure ?_
  dsimp only
  refine wpAny_pure ?_
  simp only [List.isEmpty_nil, if_true]
  refine wpAny_bind (wpAny_pure ?_)
  exact wpAny_pure ⟨.ref s.heap.objs.size, _, J4, rfl, q3⟩
end
end Pv
end
section
set_option Elab.async false
set_option linter.all false
set_option maxRecDepth 100000
/-! Pv27: dicts made and changed. -/
namespace Pv
open PySem L2 PySem.W PyProof.Rows PySem.SeqAt
section
variable {K : PySem.W.Frag} {ρ : List Addr} {Hs H : Hp} {mg : Str → Option Value} {W : Value → Option Addr → Hp → Prop} {f : Bool}
theorem OutB.newK {m : Mu} {es : List (Key × V)} {kvs : List (D × D)} {Q : VK} {p : Addr} (b : Bs K ρ m Hs H) (k : kvs.map (·.1) = es.map (fun e => kD e.1)) (r : RepAll K ρ Hs (es.map (·.2)) (kvs.map (·.2))) (h : OutB f K mg W (.ok (.dct false kvs) m) ρ Hs H Q) (hp : H p = none) : Q (.ref p) (upd H p (.dK es)) := by
  cases f with
  | false => exact h _ ρ _ _ (tr_new b.sub hp) (b.new hp) (.dK upd_same k (r.mono (.refl _) (Sub.new (hs_none b.sub hp))))
  | true => exact h p ρ Hs _ (tr_newF hp) (b.newF hp) (.dK upd_same k r) (hs_none b.sub hp) (b.out hp) hp (by rw [upd_same]; exact fun z => nomatch z)
theorem OutB.newTk {m : Mu} {es : List (List Key × V)} {kvs : List (D × D)} {Q : VK} {p : Addr} (b : Bs K ρ m Hs H) (k : kvs.map (·.1) = es.map (fun e => tD e.1)) (r : RepAll K ρ Hs (es.map (·.2)) (kvs.map (·.2))) (h : OutB f K mg W (.ok (.dct true kvs) m) ρ Hs H Q) (hp : H p = none) : Q (.ref p) (upd H p (.dT es)) := by
  cases f with
  | false => exact h _ ρ _ _ (tr_new b.sub hp) (b.new hp) (.dT (.inl upd_same) k (r.mono (.refl _) (Sub.new (hs_none b.sub hp))))
  | true => exact h p ρ Hs _ (tr_newF hp) (b.newF hp) (.dT upd_same k r) (hs_none b.sub hp) (b.out hp) hp (by rw [upd_same]; exact fun z => nomatch z)
theorem any_of {κ : Type} [DecidableEq κ] (g : κ → D) (hg : ∀ a b, (g a).eqv (g b) = decide (a = b)) (k : κ) : ∀ {es : List (κ × V)} {kvs : List (D × D)}, kvs.map (·.1) = es.map (fun e => g e.1) → kvs.any (fun kv => kv.1.eqv (g k)) = es.any fun kv => decide (kv.1 = k)
  | [], [], _ => rfl
  | _ :: _, [], h => by cases h
  | [], _ :: _, h => by cases h
  | e :: es, (a, d) :: kvs, h => by
    simp only [List.map_cons, List.cons.injEq] at h
    rw [List.any_cons, List.any_cons, any_of g hg k h.2]
    show (a.eqv (g k) || _) = _
    rw [h.1, hg]
theorem put_map {κ : Type} [DecidableEq κ] (g : κ → D) (hg : ∀ a b, (g a).eqv (g b) = decide (a = b)) (k : κ) {v : V} {d : D} (hv : Rep K ρ Hs v d) : ∀ {es : List (κ × V)} {kvs : List (D × D)}, kvs.map (·.1) = es.map (fun e => g e.1) → RepAll K ρ Hs (es.map (·.2)) (kvs.map (·.2)) →
    (kvs.map (fun kv => if kv.1.eqv (g k) then (kv.1, d) else kv)).map (·.1) = (es.map (fun kv => if kv.1 = k then (kv.1, v) else kv)).map (fun e => g e.1) ∧ RepAll K ρ Hs ((es.map (fun kv => if kv.1 = k then (kv.1, v) else kv)).map (·.2)) ((kvs.map (fun kv => if kv.1.eqv (g k) then (kv.1, d) else kv)).map (·.2))
  | [], [], _, _ => ⟨rfl, .nil⟩
  | _ :: _, [], h, _ => by cases h
  | [], _ :: _, h, _ => by cases h
  | e :: es, (a, c) :: kvs, h, r => by
    simp only [List.map_cons, List.cons.injEq] at h
    rw [List.map_cons, List.map_cons] at r
    cases r with
    | cons r1 r2 =>
      obtain ⟨h1, h2⟩ := put_map g hg k hv h.2 r2
      simp only [List.map_cons]
      rw [h.1, hg]
      by_cases z : e.1 = k
      · rw [decide_eq_true z, if_pos rfl, if_pos z, h1]
        exact ⟨rfl, .cons hv h2⟩
      · rw [decide_eq_false z, if_neg (by decide), if_neg z, h1]
        exact ⟨rfl, .cons r1 h2⟩
theorem put_of {κ : Type} [DecidableEq κ] (g : κ → D) (hg : ∀ a b, (g a).eqv (g b) = decide (a = b)) (k : κ) {v : V} {d : D} (hv : Rep K ρ Hs v d) {es : List (κ × V)} {kvs : List (D × D)} (h : kvs.map (·.1) = es.map (fun e => g e.1)) (r : RepAll K ρ Hs (es.map (·.2)) (kvs.map (·.2))) :
    (putD kvs (g k) d).map (·.1) = (putK es k v).map (fun e => g e.1) ∧ RepAll K ρ Hs ((putK es k v).map (·.2)) ((putD kvs (g k) d).map (·.2)) := by
  unfold putD putK
  rw [any_of g hg k h]
  split
  · exact put_map g hg k hv h r
  · rw [List.map_append, List.map_append, List.map_append, List.map_append, h]
    exact ⟨rfl, r.append (.one hv)⟩
end
/-- later pairs put over earlier ones -/
def mergeD (kvs more : List (D × D)) : List (D × D) := more.foldl (fun acc kv => putD acc kv.1 kv.2) kvs
theorem merge_of {K : PySem.W.Frag} {ρ : List Addr} {Hs : Hp} : ∀ {more : List (Key × V)} {mored : List (D × D)} {es : List (Key × V)} {kvs : List (D × D)}, mored.map (·.1) = more.map (fun e => kD e.1) → RepAll K ρ Hs (more.map (·.2)) (mored.map (·.2)) → kvs.map (·.1) = es.map (fun e => kD e.1) → RepAll K ρ Hs (es.map (·.2)) (kvs.map (·.2)) →
    (mergeD kvs mored).map (·.1) = (mergeK es more).map (fun e => kD e.1) ∧ RepAll K ρ Hs ((mergeK es more).map (·.2)) ((mergeD kvs mored).map (·.2))
  | [], [], _, _, _, _, h, r => ⟨h, r⟩
  | _ :: _, [], _, _, h, _, _, _ => by cases h
  | [], _ :: _, _, _, h, _, _, _ => by cases h
  | e :: more, (a, c) :: mored, es, kvs, hm, rm, h, r => by
    simp only [List.map_cons, List.cons.injEq] at hm
    rw [List.map_cons, List.map_cons] at rm
    cases rm with
    | cons r1 r2 =>
      obtain ⟨h1, h2⟩ := put_of kD kD_eqv e.1 r1 h r
      have := merge_of hm.2 r2 h1 h2
      unfold mergeD mergeK at this ⊢
      rw [List.foldl_cons, List.foldl_cons]
      show (List.foldl _ (putD kvs a c) mored).map _ = _ ∧ RepAll K ρ Hs _ ((List.foldl _ (putD kvs a c) mored).map _)
      rw [hm.1]
      exact this
section
variable {X : Cx} {f : Bool} {H0 : Hp} {W : WX} {ω ωx : List Md} {N : Ent} {a b c e k : Expr} {ca cb cc : EC} {ck : EC} {p pos : Pos}
/-- {} -/
def cDNew (t : Bool) : EC := fun _ m => .ok (.dct t []) m
theorem ev_dnewK : EB f X H0 W ω (.Dict [] [] pos) (cDNew false) := PE.imp pe_dnewK fun σ H Q ⟨Γ, m, ρ, Hs, b, en, o⟩ p hp => OutB.newK b rfl .nil o hp
theorem ev_dnewT : EB f X H0 W ω (.Dict [] [] pos) (cDNew true) := PE.imp pe_dnewT fun σ H Q ⟨Γ, m, ρ, Hs, b, en, o⟩ p hp => OutB.newTk b rfl .nil o hp
/-- d[k] = e, d a dict of one's own -/
def sPutD (i : Nat) (c ck : EC) : SC := fun Γ m => toS (c Γ m) Γ fun d m1 => toS (ck Γ m1) Γ fun k m2 => match Γ.getD i .non with
  | .dct t kvs => if keyOk t k && szOk (kvs.length + 1) then .nx (Γ.set i (.dct t (putD kvs k d))) m2 else .bad
  | _ => .bad
theorem len_of_map {α β γ : Type} {f : α → γ} {g : β → γ} {as : List α} {bs : List β} (h : as.map f = bs.map g) : as.length = bs.length := by
  have := congrArg List.length h; rwa [List.length_map, List.length_map] at this
theorem sv_dput (i : Nat) {x : Str} {p tp : Pos} (hu : X.A.units + 64 < cLine) (he : EV X N.H W ω e c') (hk : EV X N.H W ω k ck) (hi : ω[i]? = some .ow := by rfl) (hx : MdLe ωx ω = true := by rfl) (hN : X.N[i]? = some x := by rfl) (hv : Vis X.env.scope x := by first | exact Or.inl rfl | exact Or.inr (Or.inl rfl) | exact Or.inr (Or.inr rfl)) (hd : (x == ("__debug__" : Str)) = false := by decide) (hcd : (x == ("__classdict__" : Str)) = false := by decide) (hs : swapsWith e (some (.Subscript (.Name x p) k tp)) pos.line X.env = pure false := by rfl) :
    SV f X N W ωx ω (.Assign [.Subscript (.Name x p) k tp] e pos) (sPutD i c' ck) ω :=
  PS.imp (ps_dput (by omega) (pe_var hN hv hd hcd) hk he hs) fun dn σ H ⟨Γ, m, ρ, Hs, t, b, en, o⟩ => by
    refine ⟨Γ, m, ρ, Hs, b, en, toS_out t en hx o fun d m1 v ρ1 Hs1 H1 hq1 o1 t1 b1 r1 => ?_⟩
    have en1 := en.mono t1
    obtain ⟨a, h1, h2, h3, h4, h5, h6⟩ := en1.ow i hi
    refine ⟨.ref a, h1, Γ, m1, ρ1, Hs1, b1, en1, toS_out (t.trans t1) en1 hx (SOut.fwd t1.pre t1.sub o1) fun d2 m2 v2 ρ2 Hs2 H2 hq o2 t2 b2 r2 => ?_⟩
    have en2 := en1.mono t2
    obtain ⟨a', q1, q2, q3, q4, q5, q6⟩ := en2.ow i hi
    rw [h1] at q1
    cases q1
    have o2 : SOut f X N W ωx ω ρ1 Hs1 (match Γ.getD i .non with
      | .dct t kvs => if keyOk t d2 && szOk (kvs.length + 1) then .nx (Γ.set i (.dct t (putD kvs d2 d))) m2 else .bad
      | _ => .bad) dn := o2
    generalize hg : Γ.getD i .non = g at o2 q2
    cases g <;> try exact o2.elim
    rename_i tt kvs
    obtain ⟨hz, o2⟩ := SOut.guard o2
    obtain ⟨hk1, hz⟩ := Bool.and_eq_true_iff.mp hz
    have hz := szOk_le hz
    have r1' := r1.mono t2.pre t2.sub
    cases q2 with
    | dK w1 w2 w3 =>
      obtain ⟨kk, hkk⟩ := Option.isSome_iff_exists.mp (show (keyD d2).isSome = true from hk1)
      have ek := keyD_eq hkk
      subst ek
      rw [rep_key r2]
      obtain ⟨p1, p2⟩ := put_of kD kD_eqv kk r1' w2 w3
      exact ⟨a, _, rfl, .k w1 (by have := len_of_map w2; omega), o2 σ ρ2 Hs2 _ ⟨tr_mut ((t.trans t1).trans t2) q5 q6, t2.pre, t2.sub⟩ (b2.mut q3 q4) (en2.updOw hi h1 (.dK upd_same p1 p2))⟩
    | dT w1 w2 w3 =>
      obtain ⟨kk, hkk⟩ := Option.isSome_iff_exists.mp (show (tkeyD d2).isSome = true from hk1)
      have ek := tkeyD_eq hkk
      have kt := ktV_keys hkk
      subst ek
      cases r2 with
      | tup g1 g2 =>
        rw [rep_keys g2] at g1
        obtain ⟨p1, p2⟩ := put_of tD tD_eqv kk r1' w2 w3
        exact ⟨a, _, rfl, .t w1 (b2.sub _ _ (g1.key kt)) (by have := len_of_map w2; omega), o2 σ ρ2 Hs2 _ ⟨tr_mut ((t.trans t1).trans t2) q5 q6, t2.pre, t2.sub⟩ (b2.mut q3 q4) (en2.updOw hi h1 (.dT upd_same p1 p2))⟩
/-- {**a, **b}, numbers and texts as keys -/
def cMrg (ca cb : EC) : EC := fun Γ m => (ca Γ m).bind fun d m1 => match d with
  | .dct false xs => if Nat.ble xs.length 100000 then (cb Γ m1).bind fun e m2 => match e with
    | .dct false ys => if Nat.ble ys.length 100000 then .ok (.dct false (mergeD (mergeD [] xs) ys)) m2 else .bad
    | _ => .bad else .bad
  | _ => .bad
theorem tr_upd {ρ ρ1 : List Addr} {Hs H Hs1 H1 : Hp} {p : Addr} {o : HO} (hp : H p = none) (t : Tr ρ Hs H ρ1 Hs1 H1) : Tr ρ Hs H ρ1 Hs1 (upd H1 p o) where
  sub := t.sub
  new := t.new
  pre := t.pre
  bnew := t.bnew
  dom x q := by
    by_cases z : x = p
    · subst z; exact hp
    · rw [upd_ne z] at q; exact t.dom x q
  same x u n q := by
    have z : x ≠ p := fun z => by subst z; rw [hp] at q; cases q
    rw [upd_ne z]; exact t.same x u n q
theorem tr_hid {ρ ρ1 : List Addr} {Hs H Hs1 H1 : Hp} {p : Addr} (h1 : Hs p = none) (h2 : p ∉ ρ) (h3 : ¬ Nw ρ H p) (t1 : Tr ρ Hs H ρ1 Hs1 H1) : Hs1 p = none ∧ p ∉ ρ1 := by
  refine ⟨?_, fun q => ?_⟩
  · cases q : Hs1 p with
    | none => rfl
    | some u =>
      rcases t1.new p u q with z | z
      · rw [h1] at z; cases z
      · exact (h3 z).elim
  · rcases t1.bnew p q with z | z
    · exact h2 z
    · exact h3 (.inl z)
theorem ev_mrg (ha : EV X H0 W ω a ca) (hb : EV X H0 W ω b cb) : EB f X H0 W ω (.Dict [none, none] [a, b] pos) (cMrg ca cb) :=
  PE.imp (pe_mrg ha hb) fun σ H Q ⟨Γ, m, ρ, Hs, b, en, o⟩ p hp => by
    have t0 := tr_newF (ρ := ρ) (Hs := Hs) (o := .dK []) hp
    have b0 := b.newF (o := .dK []) hp
    refine ⟨Γ, m, ρ, Hs, b0, en.mono t0, ?_⟩
    unfold cMrg at o
    cases hca : ca Γ m with
    | bad => rw [hca] at o; exact o
    | exc c fs m' => rw [hca] at o; exact fun cls dx ρ' Hs' H' t' b' e' => o cls dx ρ' Hs' H' (t0.trans t') b' e'
    | ok d m1 =>
      rw [hca] at o
      intro x ρ1 Hs1 H1 t1 b1 r1
      obtain ⟨p1, p2⟩ := tr_hid (hs_none b.sub hp) (b.out hp) (by intro z; rcases z with z | ⟨_, xs, z⟩ <;> (rw [upd_same] at z; cases z)) t1
      have hH1 : H1 p = some (.dK []) := t1.same _ _ (b.out hp) upd_same
      cases r1 <;> try exact o.elim
      rename_i a' es xs w1 w2 w3
      have o : OutB f X.K X.mg (fun cls dx H' => W cls dx σ H') (if Nat.ble xs.length 100000 then (cb Γ m1).bind fun e m2 => match e with
        | .dct false ys => if Nat.ble ys.length 100000 then .ok (.dct false (mergeD (mergeD [] xs) ys)) m2 else .bad
        | _ => .bad else .bad) ρ Hs H Q := o
      obtain ⟨hx, o⟩ := OutB.guardR o
      have hx := Nat.le_of_ble_eq_true hx
      have ne : a' ≠ p := fun z => by subst z; rw [p1] at w1; cases w1
      have T1 := tr_upd (o := .dK (mergeK [] es)) hp (t0.trans t1)
      have B1 := b1.mut (o := .dK (mergeK [] es)) p1 p2
      obtain ⟨k1, k2⟩ := merge_of w2 w3 (es := []) (kvs := []) rfl .nil
      refine ⟨a', es, rfl, ne, hH1, .inl (b1.sub _ _ w1), by have := len_of_map w2; omega, Γ, m1, ρ1, Hs1, B1, en.mono T1, ?_⟩
      cases hcb : cb Γ m1 with
      | bad => rw [hcb] at o; exact o.elim
      | exc c fs m' => rw [hcb] at o; exact fun cls dx ρ' Hs' H' t' b' e' => o cls dx ρ' Hs' H' (T1.trans t') b' e'
      | ok e m2 =>
        rw [hcb] at o
        intro y ρ2 Hs2 H2 t2 b2 r2
        obtain ⟨p3, p4⟩ := tr_hid p1 p2 (by intro z; rcases z with z | ⟨_, xs, z⟩ <;> (rw [upd_same] at z; cases z)) t2
        have hH2 : H2 p = some (.dK (mergeK [] es)) := t2.same _ _ p2 upd_same
        cases r2 <;> try exact o.elim
        rename_i b' fs ys z1 z2 z3
        have o : OutB f X.K X.mg (fun cls dx H' => W cls dx σ H') (if Nat.ble ys.length 100000 then .ok (.dct false (mergeD (mergeD [] xs) ys)) m2 else .bad) ρ Hs H Q := o
        obtain ⟨hy, o⟩ := OutB.guardR o
        have hy := Nat.le_of_ble_eq_true hy
        have ne2 : b' ≠ p := fun z => by subst z; rw [p3] at z1; cases z1
        have T2 := tr_upd (o := .dK (mergeK (mergeK [] es) fs)) hp (T1.trans t2)
        have B2 := b2.mut (o := .dK (mergeK (mergeK [] es) fs)) p3 p4
        obtain ⟨k3, k4⟩ := merge_of z2 z3 k1 (k2.mono t2.pre t2.sub)
        refine ⟨b', fs, rfl, ne2, hH2, .inl (b2.sub _ _ z1), by have := len_of_map z2; omega, ?_⟩
        cases f with
        | true => exact o p ρ2 Hs2 _ T2 B2 (.dK upd_same k3 k4) p3 p4 hp upd_some
        | false =>
          obtain ⟨u, hu, rp, b3⟩ := own_val B2 (.dK upd_same k3 k4) p3 p4
          refine o (.ref p) ρ2 (upd Hs2 p u) _ ⟨T2.sub.trans (Sub.new p3), fun x v q => ?_, T2.pre, T2.bnew, T2.dom, T2.same⟩ b3 rp
          by_cases z : x = p
          · subst z; exact .inr hp
          · rw [upd_ne z] at q; exact T2.new x v q
/-- list(d), numbers and texts as keys -/
def listdD : Mu → D → Option D
  | _, .dct false kvs => if szOk kvs.length then some (.lst (kvs.map (·.1))) else none
  | _, _ => none
theorem repKeys {K : PySem.W.Frag} {ρ : List Addr} {H : Hp} : ∀ {es : List (Key × V)}, RepAll K ρ H (es.map fun kv => kV kv.1) (es.map fun e => kD e.1)
  | [] => .nil
  | (k, _) :: es => .cons (by cases k <;> constructor) repKeys
theorem rd_listd : RdD f X (fun x H Q => rListD [x] H Q) listdD := by
  intro x H Q W ρ m Hs d z b hx hg o
  cases d <;> simp only [listdD] at hg <;> try (cases hg; done)
  rename_i t kvs
  cases t <;> simp only [] at hg <;> try (cases hg; done)
  obtain ⟨hz, rfl⟩ := of_if hg
  obtain ⟨a, es, rfl, h1, h2, h3⟩ := hx.itemsK b
  refine ⟨a, es, rfl, h1, fun q hq => OutB.newL b ?_ o hq⟩
  rw [h2]
  exact repKeys
theorem ev_listd (B : Bn X.mg) (hc : X.calm = true) (ha : BV X H0 W ω a ca) (hg : Gl X "list" := by rfl) (he : starEach [a] X.env = [(false, eval a X.env)] := by rfl) : EB f X H0 W ω (.Call (.Name "list" p) [a] [] pos) (c1 listdD ca) :=
  ev_callT (call_list_dK hc) rd_listd hg B.list (by decide +kernel) ha (he := he)
end
end Pv
end
section
set_option Elab.async false
set_option linter.all false
set_option maxRecDepth 100000
/-! Pv28: a dict comprehension into a name; {k: v}. -/
namespace Pv
open PySem L2 PySem.W PyProof.Rows PySem.SeqAt
section
variable {X : Cx}
theorem ps_setDc {i : Nat} {y : Str} {py : Pos} {kx vx tg iter : Expr} {ifs : List Expr} {scope : Scope} {own : List (Str × Nat)} {pos spos : Pos} {wi : TI} {g : TG} {tt : TT} {tk tv : TE} (hc : X.calm = true) (hN : X.N.Nodup) (hy : X.N[i]? = some y) (hyl : X.env.scope.names.lookup y = some .local)
    (hsw : swapsWith (.DictComp kx vx [⟨tg, iter, ifs, 0⟩] scope pos) (some (.Name y py)) spos.line X.env = pure true) (hi : PI X tg iter wi) (ok : BlkOk X.N X.env.scope scope own)
    (hg : ∀ s H C cl fp, PG (Cx.bl X s H scope C cl fp) tg g) (ht : ∀ s H C cl fp, PTs (Cx.bl X s H scope C cl fp) ifs tt) (hk : ∀ s H C cl fp, PE (Cx.bl X s H scope C cl fp) kx tk) (he : ∀ s H C cl fp, PE (Cx.bl X s H scope C cl fp) vx tv) (hs : ∀ x, foldedSetIterable iter X.env x = pure x := by intro _; rfl) :
    PS X (.Assign [.Name y py] (.DictComp kx vx [⟨tg, iter, ifs, 0⟩] scope pos) spos) (tAsg (tDc wi g tt tk tv (own.map (·.2))) (gName i)) := by
  refine ⟨fun pins s σ H D I h => ?_⟩
  rw [exec_Assign_Name_used _ _ _ _ hsw]; refine wpAny_bind (wpAny_standAt (wpAny_bind ?_))
  show wpAny _ X.A (do let _ ← comprehension (.DictComp kx vx [⟨tg, iter, ifs, 0⟩] scope pos) scope X.env (firstIterPos [⟨tg, iter, ifs, 0⟩] pos) newDict false (eval iter X.env) (some (assign (.Name y py) X.env))) _ _ s
  have h : tDc wi g tt tk tv (own.map (·.2)) σ H (fun x H1 => gName i x σ H1 D.nx) := h
  refine wpAny_bind (thn (dc_core (Qf := fun _ s' => SP X pins D .next s') hc hN I hi ok hg ht hk he hs h fun L C s' m H' I' q hn f => ?_) fun _ s' hq => wpAny_pure (wpAny_pure hq))
  show wpAny _ _ (assign (.Name y py) X.env (.ref L)) _ _ _
  refine wpAny_assign_Name (store_ok2 (v := V.ref L) I' hN hy (.inl hyl) rfl (fun s2 I2 ⟨a, sb, ha⟩ => ?_) (.inr hyl))
  obtain ⟨f0, f1, f2, f3, f4, f5⟩ := f
  have haC : C ≠ a := ha.elim (fun z => by rw [z]; exact f1) fun z e => f4 y a z e.symm
  exact ⟨m, hn.sameBut sb haC, fun h3 sb3 => ⟨_, H', I2.turned (t' := s2.toks) (fun b o hb e => (sb3.2 b hb).trans e) f0 f1 f3 f4 f5, q⟩⟩
theorem swD_true {kx vx : Expr} {gs : List Comprehension} {scope : Scope} {pos py : Pos} {y : Str} {l : Nat} {env : Env} (hk : env.scope.kind = .function) (hy : env.scope.names.lookup y = some .local) (hl : (py.line == pos.line) = true)
    (ha : (scope.names.any fun (n, k) => n == y && (k == .local || k == .cell)) = false) : swapsWith (.DictComp kx vx gs scope pos) (some (.Name y py)) l env = pure true := by
  have ky : env.kindOf y = some .local := hy
  have hb : env.blockKind = .function := by unfold Env.blockKind; rw [hk]; rfl
  unfold swapsWith; simp only [hb, ky, ha, Expr.pos, hl]; rfl
end
section
variable {X : Cx} {f : Bool} {H0 : Hp} {W : WX} {ω : List Md} {k v : Expr} {ck cv : EC} {pos : Pos}
/-- {k: v}, k a number or a text -/
def cDisp1 (ck cv : EC) : EC := fun Γ m => (ck Γ m).bind fun d m1 => (cv Γ m1).bind fun e m2 => if (keyD d).isSome then .ok (.dct false [(d, e)]) m2 else .bad
theorem ev_disp1 (hk : EV X H0 W ω k ck) (hv : EV X H0 W ω v cv) : EB f X H0 W ω (.Dict [some k] [v] pos) (cDisp1 ck cv) :=
  PE.imp (pe_disp (pps_cons hk hv pps_nil) rfl rfl (by simp) (by simp)) fun σ H Q ⟨Γ, m, ρ, Hs, b, en, o⟩ p hp => by
    have t0 := tr_newF (ρ := ρ) (Hs := Hs) (o := .dK []) hp
    have b0 := b.newF (o := .dK []) hp
    refine ⟨Γ, m, ρ, Hs, b0, en.mono t0, ?_⟩
    unfold cDisp1 at o
    cases hca : ck Γ m with
    | bad => rw [hca] at o; exact o
    | exc c fs m' => rw [hca] at o; exact fun cls dx ρ' Hs' H' t' b' e' => o cls dx ρ' Hs' H' (t0.trans t') b' e'
    | ok d m1 =>
      rw [hca] at o
      intro x ρ1 Hs1 H1 t1 b1 r1
      have o : OutB f X.K X.mg (fun cls dx H' => W cls dx σ H') ((cv Γ m1).bind fun e m2 => if (keyD d).isSome then .ok (.dct false [(d, e)]) m2 else .bad) ρ Hs H Q := o
      obtain ⟨p1, p2⟩ := tr_hid (hs_none b.sub hp) (b.out hp) (by intro z; rcases z with z | ⟨_, xs, z⟩ <;> (rw [upd_same] at z; cases z)) t1
      have hH1 : H1 p = some (.dK []) := t1.same _ _ (b.out hp) upd_same
      refine ⟨Γ, m1, ρ1, Hs1, b1, (en.mono t0).mono t1, ?_⟩
      cases hcb : cv Γ m1 with
      | bad => rw [hcb] at o; exact o.elim
      | exc c fs m' => rw [hcb] at o; exact fun cls dx ρ' Hs' H' t' b' e' => o cls dx ρ' Hs' H' ((t0.trans t1).trans t') b' e'
      | ok e m2 =>
        rw [hcb] at o
        intro y ρ2 Hs2 H2 t2 b2 r2
        obtain ⟨p3, p4⟩ := tr_hid p1 p2 (by intro z; rcases z with z | ⟨_, xs, z⟩ <;> (rw [hH1] at z; cases z)) t2
        have hH2 : H2 p = some (.dK []) := t2.same _ _ p2 hH1
        obtain ⟨hz, o⟩ := OutB.guardR (r := .ok (.dct false [(d, e)]) m2) o
        obtain ⟨kk, hkk⟩ := Option.isSome_iff_exists.mp hz
        have ek := keyD_eq hkk
        subst ek
        rw [rep_key r1]
        have T2 := tr_upd (o := .dK (mergeK [] [(kk, y)])) hp ((t0.trans t1).trans t2)
        have B2 := b2.mut (o := .dK (mergeK [] [(kk, y)])) p3 p4
        have w : Own X.K ρ2 Hs2 (upd H2 p (.dK (mergeK [] [(kk, y)]))) p (.dct false [(kD kk, e)]) := .dK upd_same rfl (.one r2)
        refine ⟨hH2, [(kk, y)], rfl, by simp, ?_⟩
        cases f with
        | true => exact o p ρ2 Hs2 _ T2 B2 w p3 p4 hp upd_some
        | false =>
          obtain ⟨u, hu, rp, b3⟩ := own_val B2 w p3 p4
          refine o (.ref p) ρ2 (upd Hs2 p u) _ ⟨T2.sub.trans (Sub.new p3), fun x v q => ?_, T2.pre, T2.bnew, T2.dom, T2.same⟩ b3 rp
          by_cases z : x = p
          · subst z; exact .inr hp
          · rw [upd_ne z] at q; exact T2.new x v q
end
end Pv
end
section
set_option Elab.async false
set_option linter.all false
set_option maxRecDepth 100000
/-! Pv29: found = {k: [] for k in ..}; for a, b in ..: found[a].append(b); return found. -/
namespace Pv
open PySem L2 PySem.W PyProof.Rows PySem.SeqAt
/-- a row: a number, the address of its list, what the list holds -/
abbrev Row := Int × Addr × List D
/-- a dict of lists of one's own; H0: the heap at the def's entry -/
structure DL (K : PySem.W.Frag) (H0 : Hp) (ρ : List Addr) (Hs H : Hp) (a : Addr) (rows : List Row) : Prop where
  dk : H a = some (.dK (rows.map fun r => (.inl r.1, .ref r.2.1)))
  ls : ∀ r ∈ rows, ∃ vs, H r.2.1 = some (.lst vs) ∧ RepAll K ρ Hs vs r.2.2
  fr : ∀ c, c = a ∨ c ∈ rows.map (·.2.1) → Hs c = none ∧ c ∉ ρ ∧ H0 c = none
  nd : (rows.map (·.2.1)).Nodup
  na : a ∉ rows.map (·.2.1)
  kn : (rows.map (·.1)).Nodup
section
variable {K : PySem.W.Frag} {H0 : Hp} {ρ ρ' : List Addr} {Hs H Hs' H' : Hp} {a : Addr} {rows : List Row}
theorem DL.at (h : DL K H0 ρ Hs H a rows) {c : Addr} (hc : c = a ∨ c ∈ rows.map (·.2.1)) : H c ≠ none := by
  rcases hc with rfl | hc
  · rw [h.dk]; exact fun z => nomatch z
  · obtain ⟨r, hr, rfl⟩ := List.mem_map.mp hc
    obtain ⟨vs, q, _⟩ := h.ls r hr
    rw [q]; exact fun z => nomatch z
theorem DL.nw (h : DL K H0 ρ Hs H a rows) {c : Addr} (hc : c = a ∨ c ∈ rows.map (·.2.1)) : ¬ Nw ρ H c := fun z => by
  rcases z with z | ⟨_, xs, z⟩
  · exact h.at hc z
  · rcases hc with rfl | hc
    · rw [h.dk] at z; cases z
    · obtain ⟨r, hr, rfl⟩ := List.mem_map.mp hc
      obtain ⟨vs, q, _⟩ := h.ls r hr
      rw [q] at z; cases z
theorem DL.mono (t : Tr ρ Hs H ρ' Hs' H') (h : DL K H0 ρ Hs H a rows) : DL K H0 ρ' Hs' H' a rows where
  dk := t.same _ _ (h.fr a (.inl rfl)).2.1 h.dk
  ls r hr := by
    obtain ⟨vs, q1, q2⟩ := h.ls r hr
    exact ⟨vs, t.same _ _ (h.fr _ (.inr (List.mem_map.mpr ⟨r, hr, rfl⟩))).2.1 q1, q2.mono t.pre t.sub⟩
  fr c hc := by
    obtain ⟨q1, q2, q3⟩ := h.fr c hc
    obtain ⟨z1, z2⟩ := tr_hid q1 q2 (h.nw hc) t
    exact ⟨z1, z2, q3⟩
  nd := h.nd
  na := h.na
  kn := h.kn
/-- a new row -/
theorem DL.add {c : Addr} {k : Int} {m : Mu} (h : DL K H0 ρ Hs H a rows) (b : Bs K ρ m Hs H) (hc : H c = none) (h0 : H0 c = none) (hk : k ∉ rows.map (·.1)) : DL K H0 ρ Hs (upd (upd H c (.lst [])) a (.dK ((rows ++ [((k, c, []) : Row)]).map fun (r : Row) => (.inl r.1, .ref r.2.1)))) a (rows ++ [(k, c, [])]) where
  dk := upd_same
  ls r hr := by
    have ca : c ≠ a := fun z => h.at (.inl z) hc
    rcases List.mem_append.mp hr with hr | hr
    · obtain ⟨vs, q1, q2⟩ := h.ls r hr
      have m1 : r.2.1 ∈ rows.map (·.2.1) := List.mem_map.mpr ⟨r, hr, rfl⟩
      have z1 : r.2.1 ≠ a := fun z => h.na (z ▸ m1)
      have z2 : r.2.1 ≠ c := fun z => by rw [z, hc] at q1; cases q1
      exact ⟨vs, by rw [upd_ne z1, upd_ne z2]; exact q1, q2⟩
    · rcases List.mem_singleton.mp hr with rfl
      exact ⟨[], by rw [upd_ne ca, upd_same], .nil⟩
  fr x hx := by
    rw [List.map_append, List.mem_append] at hx
    rcases hx with hx | hx | hx
    · exact h.fr x (.inl hx)
    · exact h.fr x (.inr hx)
    · rcases List.mem_singleton.mp hx with rfl
      exact ⟨hs_none b.sub hc, b.out hc, h0⟩
  nd := by
    rw [List.map_append, List.nodup_append]
    refine ⟨h.nd, by simp, fun x hx y hy e => ?_⟩
    rcases List.mem_singleton.mp hy with rfl
    exact h.at (.inr (e ▸ hx)) hc
  na := by
    rw [List.map_append, List.mem_append]
    rintro (z | z)
    · exact h.na z
    · exact h.at (.inl (List.mem_singleton.mp z).symm) hc
  kn := by
    rw [List.map_append, List.nodup_append]
    refine ⟨h.kn, by simp, fun x hx y hy e => ?_⟩
    rcases List.mem_singleton.mp hy with rfl
    exact hk (e ▸ hx)
def addRow (k : Int) (d : D) (rows : List Row) : List Row := rows.map fun r => if r.1 = k then (r.1, r.2.1, r.2.2 ++ [d]) else r
theorem addRow_fst (k : Int) (d : D) (rows : List Row) : (addRow k d rows).map (·.1) = rows.map (·.1) := by
  unfold addRow; rw [List.map_map]; exact List.map_congr_left fun r _ => by show (if _ then _ else _ : Row).1 = _; split <;> rfl
theorem addRow_adr (k : Int) (d : D) (rows : List Row) : (addRow k d rows).map (·.2.1) = rows.map (·.2.1) := by
  unfold addRow; rw [List.map_map]; exact List.map_congr_left fun r _ => by show (if _ then _ else _ : Row).2.1 = _; split <;> rfl
theorem addRow_kv (k : Int) (d : D) (rows : List Row) : (addRow k d rows).map (fun r => ((.inl r.1 : Key), V.ref r.2.1)) = rows.map (fun r => ((.inl r.1 : Key), V.ref r.2.1)) := by
  unfold addRow; rw [List.map_map]; exact List.map_congr_left fun r _ => by show ((.inl (if _ then _ else _ : Row).1 : Key), V.ref (if _ then _ else _ : Row).2.1) = _; split <;> rfl
theorem DL.app {k : Int} {v : V} {d : D} {r0 : Row} {vs : List V} (h : DL K H0 ρ Hs H a rows) (h0 : r0 ∈ rows) (hk : r0.1 = k) (hv : H r0.2.1 = some (.lst vs)) (r : Rep K ρ Hs v d) : DL K H0 ρ Hs (upd H r0.2.1 (.lst (vs ++ [v]))) a (addRow k d rows) where
  dk := by
    have z : a ≠ r0.2.1 := fun z => h.na (z ▸ List.mem_map.mpr ⟨r0, h0, rfl⟩)
    rw [upd_ne z, addRow_kv]; exact h.dk
  ls x hx := by
    obtain ⟨y, hy, rfl⟩ := List.mem_map.mp hx
    obtain ⟨ws, q1, q2⟩ := h.ls y hy
    by_cases z : y = r0
    · subst z
      rw [hv] at q1; cases q1
      rw [if_pos hk]
      exact ⟨_, upd_same, q2.append (.one r)⟩
    · have ne : y.1 ≠ k := fun e => by
        have n1 := h.kn
        obtain ⟨i, hi, ei⟩ := List.getElem_of_mem hy
        obtain ⟨j, hj, ej⟩ := List.getElem_of_mem h0
        have hij : i ≠ j := fun e => by subst e; exact z (ei.symm.trans ej)
        have := (List.nodup_iff_pairwise_ne (l := rows.map (·.1))).mp n1
        have q := List.pairwise_iff_getElem.mp this
        rcases Nat.lt_or_gt_of_ne hij with l | l
        · exact q i j (by simpa using hi) (by simpa using hj) l (by simp [ei, ej, e, hk])
        · exact q j i (by simpa using hj) (by simpa using hi) l (by simp [ei, ej, e, hk])
      have na : y.2.1 ≠ r0.2.1 := fun e => by
        obtain ⟨i, hi, ei⟩ := List.getElem_of_mem hy
        obtain ⟨j, hj, ej⟩ := List.getElem_of_mem h0
        have hij : i ≠ j := fun e => by subst e; exact z (ei.symm.trans ej)
        have q := List.pairwise_iff_getElem.mp ((List.nodup_iff_pairwise_ne (l := rows.map (·.2.1))).mp h.nd)
        rcases Nat.lt_or_gt_of_ne hij with l | l
        · exact q i j (by simpa using hi) (by simpa using hj) l (by simp [ei, ej, e])
        · exact q j i (by simpa using hj) (by simpa using hi) l (by simp [ei, ej, e])
      rw [if_neg ne]
      exact ⟨ws, by rw [upd_ne na]; exact q1, q2⟩
  fr c hc := by rw [addRow_adr] at hc; exact h.fr c hc
  nd := by rw [addRow_adr]; exact h.nd
  na := by rw [addRow_adr]; exact h.na
  kn := by rw [addRow_fst]; exact h.kn
/-- all of it held as a value -/
def hold (H : Hp) (cs : List Addr) (Hs : Hp) : Hp := fun c => if c ∈ cs then H c else Hs c
theorem DL.val {m : Mu} (h : DL K H0 ρ Hs H a rows) (b : Bs K ρ m Hs H) : ∃ Hs', Sub Hs Hs' ∧ (∀ c o, Hs' c = some o → Hs c = some o ∨ H0 c = none) ∧ Bs K ρ m Hs' H ∧ Rep K ρ Hs' (.ref a) (.dct false (rows.map fun r => (.int r.1, .lst r.2.2))) := by
  have sb : Sub Hs (hold H (a :: rows.map (·.2.1)) Hs) := fun c o e => by
    unfold hold
    split
    · exact b.sub c o e
    · exact e
  have hin : ∀ c, c = a ∨ c ∈ rows.map (·.2.1) → hold H (a :: rows.map (·.2.1)) Hs c = H c := fun c hc => by
    unfold hold
    rw [if_pos (List.mem_cons.mpr hc)]
  refine ⟨hold H (a :: rows.map (·.2.1)) Hs, sb, fun c o e => ?_, ⟨fun c o e => ?_, fun n ds e => ?_, b.nd, b.len⟩, .dK (es := rows.map fun r => (.inl r.1, .ref r.2.1)) ?_ ?_ ?_⟩
  · unfold hold at e
    split at e
    · rename_i hc; exact .inr (h.fr c (List.mem_cons.mp hc)).2.2
    · exact .inl e
  · unfold hold at e
    split at e
    · exact e
    · exact b.sub c o e
  · obtain ⟨c, vs, q1, q2, q3, q4⟩ := b.bx n ds e
    refine ⟨c, vs, q1, ?_, q3, q4.mono (.refl _) sb⟩
    unfold hold
    rw [if_neg fun hc => (h.fr c (List.mem_cons.mp hc)).2.1 (List.mem_of_getElem? q1)]
    exact q2
  · rw [hin a (.inl rfl)]; exact h.dk
  · rw [List.map_map, List.map_map]; rfl
  · rw [List.map_map, List.map_map]
    have go : ∀ l : List Row, (∀ r ∈ l, r ∈ rows) → RepAll K ρ (hold H (a :: rows.map (·.2.1)) Hs) (l.map fun r => V.ref r.2.1) (l.map fun r => D.lst r.2.2) := by
      intro l
      induction l with
      | nil => intro _; exact .nil
      | cons r l ih =>
        intro hl
        obtain ⟨vs, q1, q2⟩ := h.ls r (hl r List.mem_cons_self)
        exact .cons (.lst (by rw [hin _ (.inr (List.mem_map.mpr ⟨r, hl r List.mem_cons_self, rfl⟩))]; exact q1) (q2.mono (.refl _) sb)) (ih fun x hx => hl x (List.mem_cons_of_mem _ hx))
    exact go rows fun _ h => h
end
end Pv
end
section
set_option Elab.async false
set_option linter.all false
set_option maxRecDepth 100000
/-! Pv30: the def that gathers lists in a dict. -/
namespace Pv
open PySem L2 PySem.W PyProof.Rows PySem.SeqAt
def pairOf : D → Option (D × D)
  | .tup [x, y] => some (x, y)
  | .lst [x, y] => some (x, y)
  | _ => none
def behGo (rows : List (Int × List D)) : List D → Option (List (Int × List D))
  | [] => some rows
  | d :: ds => match pairOf d with
    | some (.int k, e) => if rows.any (fun r => decide (r.1 = k)) then behGo (rows.map fun r => if r.1 = k then (r.1, r.2 ++ [e]) else r) ds else none
    | _ => none
def sBehind (ci ci2 : IC) : SC := fun Γ m => match ci Γ m with
  | .ok ks m1 => match ci2 Γ m1 with
    | .ok ls m2 => if ks.all isI && decide ((ks.map ival).Nodup) && szOk ks.length && szOk ls.length then match behGo ((ks.map ival).map fun k => (k, [])) ls with
      | some rows => .rt (.dct false (rows.map fun r => (.int r.1, .lst r.2))) m2
      | none => .bad else .bad
    | _ => .bad
  | _ => .bad
theorem u1 {n : Nat} (h : n + 64 < cLine) : n + 1 < cLine := by omega
def noOw (ω : List Md) : Bool := ω.all fun k => k != .ow
theorem noOw_at {ω : List Md} (h : noOw ω = true) (i : Nat) : ω[i]? ≠ some .ow := fun e => by
  have := List.all_eq_true.mp h _ (List.mem_of_getElem? e)
  simp at this
theorem En.setUn {K : PySem.W.Frag} {H0 : Hp} {ω : List Md} {Γ : Gam} {ρ : List Addr} {Hs H : Hp} {σ : L2.St} {i : Nat} {v : V} (e : En K H0 ω Γ ρ Hs H σ) (hi : ω[i]? = some .un) : En K H0 ω Γ ρ Hs H (σ.set i (some v)) where
  ln := by rw [List.length_set]; exact e.ln
  wl := by rw [List.length_set]; exact e.wl
  sh j h := by
    have z : i ≠ j := fun z => by subst z; rw [hi] at h; cases h
    rw [List.getElem?_set_ne z]; exact e.sh j h
  ow j h := by
    have z : i ≠ j := fun z => by subst z; rw [hi] at h; cases h
    rw [List.getElem?_set_ne z]; exact e.ow j h
  nd j k a h1 h2 h3 h4 := by
    have z1 : i ≠ j := fun z => by subst z; rw [hi] at h1; cases h1
    have z2 : i ≠ k := fun z => by subst z; rw [hi] at h2; cases h2
    rw [List.getElem?_set_ne z1] at h3
    rw [List.getElem?_set_ne z2] at h4
    exact e.nd j k a h1 h2 h3 h4
theorem put_new {es : List (Key × V)} {k : Key} {v : V} (h : k ∉ es.map (·.1)) : putK es k v = es ++ [(k, v)] := by
  unfold putK
  rw [if_neg]
  intro z
  obtain ⟨e, he, q⟩ := List.any_eq_true.mp z
  exact h (List.mem_map.mpr ⟨e, he, of_decide_eq_true q⟩)
theorem valV_row : ∀ {rows : List Row} {r : Row}, r ∈ rows → (rows.map (·.1)).Nodup → valV (rows.map fun r => ((.inl r.1 : Key), V.ref r.2.1)) (.inl r.1) = some (.ref r.2.1)
  | x :: rows, r, h, nd => by
    rw [List.map_cons] at nd ⊢
    obtain ⟨n1, n2⟩ := List.nodup_cons.mp nd
    rcases List.mem_cons.mp h with rfl | h
    · exact valV_pos rfl
    · rw [valV_neg (fun z => by injection z with z; exact n1 (z ▸ List.mem_map.mpr ⟨r, h, rfl⟩))]
      exact valV_row h n2
section
variable {X : Cx} {N : Ent} {W : WX} {ω ωx ωt ωl : List Md} {tgH iter kx tgL iter2 : Expr} {ci ci2 : IC} {scope : Scope} {is : List Nat}
theorem behind_rule {sts : List Stmt} {own : List (Str × Nat)} (iF i1 i2 iH : Nat)
    (hp : PSs X sts (tSeq (tAsg (tDc (cI X N.H W ω ci) (cG X N.H [iH] (wipeM ω (own.map (·.2))) ωt (gN iH)) (cT X N.H Wn ωt fun _ m => .ok true m) (cE X N.H Wn ωt (cVar iH)) (tLst tNil) (own.map (·.2))) (gName iF))
      (tSeq (tFor (cI X N.H W ω ci2) (cG X N.H is ω ωl (gT 2 (gsCons (gN i1) (gsCons (gN i2) gsNil)))) (tDrop (tBM X.K "list" rAppend (tDGet (tVar iF) (tVar i1)) (tCons (tVar i2) tNil)))) (tRet (tVar iF)))))
    (hown : own.map (·.2) = [iH]) (hF : ω[iF]? = some .un) (hFi : iF ∉ is) (hH : iH < ω.length) (h1 : ωl[i1]? = some .sh) (h2 : ωl[i2]? = some .sh) (h12 : i1 ≠ i2) (hno : noOw ωl = true) (hle : MdLe ω ωl = true) : SVs false X N W ωx ω sts (sBehind ci ci2) [] :=
  PSs.imp hp fun dn σ H ⟨Γ, m, ρ, Hs, t, b, en, o⟩ => by
    unfold sBehind at o
    cases hci : ci Γ m with
    | bad => rw [hci] at o; exact o.elim
    | exc c fs m' => rw [hci] at o; exact o.elim
    | ok ks m1 =>
    rw [hci] at o
    have o : SOut false X N W ωx [] ρ Hs (match ci2 Γ m1 with
      | .ok ls m2 => if ks.all isI && decide ((ks.map ival).Nodup) && szOk ks.length && szOk ls.length then match behGo ((ks.map ival).map fun k => (k, [])) ls with
        | some rows => .rt (.dct false (rows.map fun r => (.int r.1, .lst r.2))) m2
        | none => .bad else .bad
      | _ => .bad) dn := o
    cases hci2 : ci2 Γ m1 with
    | bad => rw [hci2] at o; exact o.elim
    | exc c fs m' => rw [hci2] at o; exact o.elim
    | ok ls m2 =>
    rw [hci2] at o
    obtain ⟨hz, o⟩ := SOut.guard o
    simp only [Bool.and_eq_true, decide_eq_true_eq] at hz
    obtain ⟨⟨⟨hI, hnd⟩, hzk⟩, hzl⟩ := hz
    cases hbg : behGo ((ks.map ival).map fun k => (k, [])) ls with
    | none => rw [hbg] at o; exact o.elim
    | some rowsF =>
    rw [hbg] at o
    have hls := szOk_le hzl
    have hks := szOk_le hzk
    refine ⟨Γ, m, ρ, Hs, b, en, ?_⟩
    rw [hci]
    intro J ρ1 Hs1 H1 t1 b1 wk A hA
    have en1 := (en.mono t1).wipe (wipeM_le ω (own.map (·.2))) (fun i h => wipeM_un ω _ i h)
    have eks : ks = (ks.map ival).map D.int := isI_map hI
    refine ⟨fun i k H3 => k = ks.length - i ∧ i ≤ ks.length ∧ ∃ ρ3 Hs3 rows, Tr ρ1 Hs1 H1 ρ3 Hs3 H3 ∧ Bs X.K ρ3 m1 Hs3 H3 ∧ DL X.K H1 ρ3 Hs3 H3 A rows ∧ rows.map (fun r => (r.1, r.2.2)) = ((ks.map ival).take i).map (fun k => (k, [])), ⟨ks.length, by omega, Nat.zero_le _, ρ1, Hs1, [], tr_newF hA, b1.newF hA, ⟨upd_same, fun r hr => (by cases hr), fun c hc => ?_, .nil, fun z => (by cases z), .nil⟩, rfl⟩, ?_⟩
    · rcases hc with rfl | hc
      · exact ⟨hs_none b1.sub hA, b1.out hA, hA⟩
      · cases hc
    rintro i k H3 ⟨rfl, hik, ρ3, Hs3, rows, t3, b3, dl, hrows⟩
    by_cases hlt : i < ks.length
    · refine .inr ⟨wk.go ρ3 Hs3 m1 H3 i t3.pre t3.sub b3 hlt, fun H9 => ∃ ρ3 Hs3 rows, Tr ρ1 Hs1 H1 ρ3 Hs3 H9 ∧ Bs X.K ρ3 m1 Hs3 H9 ∧ DL X.K H1 ρ3 Hs3 H9 A rows ∧ rows.map (fun r => (r.1, r.2.2)) = ((ks.map ival).take (i + 1)).map (fun k => (k, [])), fun H9 hN => ⟨ks.length - (i + 1), by omega, rfl, hlt, hN⟩, fun x H4 hy => ?_⟩
      obtain ⟨d, Hs4, hd, t4, b4, r4⟩ := wk.yld ρ3 Hs3 m1 H3 i x H4 t3.pre t3.sub b3 hlt hy
      have ek : ∃ n, d = .int n ∧ (ks.map ival)[i]? = some n := by
        have hi := List.all_eq_true.mp hI d (List.mem_of_getElem? hd)
        exact ⟨ival d, isI_eq hi, by rw [List.getElem?_map, hd]; rfl⟩
      obtain ⟨n, rfl, hn⟩ := ek
      refine ⟨Γ, m1, ρ3, Hs4, .int n, Γ.set iH (.int n), b4, (en1.mono t3).mono t4, r4, rfl, fun σ5 so en5 => ⟨wipe_eq so (by rw [hown]; exact fun i h => h), Γ.set iH (.int n), m1, ρ3, Hs4, b4, en5, ?_⟩⟩
      intro k' ρ5 Hs5 H5 t5 b5 e5
      subst e5
      refine ⟨Γ.set iH (.int n), m1, ρ5, Hs5, b5, en5.mono t5, ?_⟩
      intro v6 ρ6 Hs6 H6 t6 b6 r6
      have hg : (Γ.set iH (.int n)).getD iH .non = .int n := getD_set_same (by rw [en.ln, ← en.wl]; exact hH)
      rw [hg] at r6
      cases r6
      refine ⟨Nat.zero_le _, fun q hq => ?_⟩
      have T := ((t3.trans t4).trans t5).trans t6
      have dl6 := ((dl.mono t4).mono t5).mono t6
      have hq1 : H1 q = none := T.dom q hq
      have fst : rows.map (·.1) = (ks.map ival).take i := by
        have := congrArg (List.map (·.1)) hrows
        rw [List.map_map, List.map_map] at this
        simpa [Function.comp_def] using this
      have hkn : n ∉ rows.map (·.1) := by
        rw [fst]
        intro z
        obtain ⟨j, hj, ej⟩ := List.getElem_of_mem z
        have hj' : j < i := by rw [List.length_take] at hj; omega
        rw [List.getElem_take] at ej
        have hil : i < (ks.map ival).length := by rw [List.length_map]; exact hlt
        have e2 : (ks.map ival)[i] = n := by rw [List.getElem?_eq_getElem hil] at hn; exact Option.some.inj hn
        exact List.pairwise_iff_getElem.mp ((List.nodup_iff_pairwise_ne).mp hnd) j i (by rw [List.length_map]; omega) hil hj' (ej.trans e2.symm)
      have qa : A ≠ q := fun z => dl6.at (.inl z.symm) hq
      refine ⟨rows.map fun r => (.inl r.1, .ref r.2.1), .inl n, rfl, by rw [upd_ne qa]; exact dl6.dk, ?_, ρ6, Hs6, rows ++ [(n, q, [])], ?_, ?_, ?_, ?_⟩
      · rw [List.length_map]
        have := congrArg List.length hrows
        rw [List.length_map, List.length_map, List.length_take] at this
        rw [this]
        have : min i (ks.map ival).length ≤ i := Nat.min_le_left _ _
        omega
      · exact tr_upd hA (tr_upd hq1 T)
      · exact (b6.newF hq).mut (dl6.fr A (.inl rfl)).1 (dl6.fr A (.inl rfl)).2.1
      · rw [put_new (by rw [List.map_map]; intro z; obtain ⟨r, hr, e⟩ := List.mem_map.mp z; injection e with e; exact hkn (List.mem_map.mpr ⟨r, hr, e⟩))]
        have := dl6.add (k := n) b6 hq hq1 hkn
        rw [List.map_append] at this
        exact this
      · rw [List.map_append, hrows, List.take_succ, hn]
        simp
    · have e : i = ks.length := by omega
      subst e
      have hrows : rows.map (fun r => (r.1, r.2.2)) = (ks.map ival).map (fun k => (k, [])) := by
        rw [hrows]; congr 1
        rw [← List.length_map (f := ival)]; exact List.take_length
      refine .inl ⟨wk.stop ρ3 Hs3 m1 H3 _ t3.pre t3.sub b3 (Nat.le_refl _), ?_⟩
      -- the loop
      have T13 := t1.trans t3
      have e3 := (en.mono T13).setUn (v := .ref A) hF
      refine ⟨Γ, m1, ρ3, Hs3, b3, e3, ?_⟩
      rw [hci2]
      intro J4 ρ4 Hs4 H4 t4 b4 wk4
      have nt4 : N.tr ρ4 Hs4 H4 := (t.trans T13).trans t4
      have dl4 : DL X.K N.H ρ4 Hs4 H4 A rows := by
        have z := dl.mono t4
        exact ⟨z.dk, z.ls, fun c hc => ⟨(z.fr c hc).1, (z.fr c hc).2.1, (t.trans t1).dom c (z.fr c hc).2.2⟩, z.nd, z.na, z.kn⟩
      refine ⟨fun i k σ' H' => k = ls.length - i ∧ i ≤ ls.length ∧ σ'[iF]? = some (some (.ref A)) ∧ ∃ Γ' ρ5 Hs5 rows, N.tr ρ5 Hs5 H' ∧ Pre ρ4 ρ5 ∧ Sub Hs4 Hs5 ∧ Bs X.K ρ5 m2 Hs5 H' ∧ En X.K N.H ω Γ' ρ5 Hs5 H' σ' ∧ DL X.K N.H ρ5 Hs5 H' A rows ∧ behGo (rows.map fun r => (r.1, r.2.2)) (ls.drop i) = some rowsF ∧ ∀ r ∈ rows, r.2.2.length ≤ i,
        ⟨ls.length, by omega, Nat.zero_le _, ?_, Γ, ρ4, Hs4, rows, nt4, .refl _, .refl _, b4, e3.mono t4, dl4, by rw [hrows, List.drop_zero]; exact hbg, ?_⟩, ?_⟩
      · rw [List.getElem?_set_self]
        rw [← en.wl]
        rcases Nat.lt_or_ge iF ω.length with z | z
        · exact z
        · rw [List.getElem?_eq_none z] at hF; cases hF
      · intro r hr
        have : (r.1, r.2.2) ∈ rows.map (fun r => (r.1, r.2.2)) := List.mem_map.mpr ⟨r, hr, rfl⟩
        rw [hrows] at this
        obtain ⟨k, _, e⟩ := List.mem_map.mp this
        injection e with e1 e2
        rw [← e2]; exact Nat.le_refl _
      rintro i k σ' H' ⟨rfl, hik, hsF, Γ', ρ5, Hs5, rows, nt, p5, s5, b5, en5, dl5, g5, len5⟩
      by_cases hlt : i < ls.length
      · refine .inr ⟨wk4.go ρ5 Hs5 m2 H' i p5 s5 b5 hlt, fun σ' H' => σ'[iF]? = some (some (.ref A)) ∧ ∃ Γ' ρ5 Hs5 rows, N.tr ρ5 Hs5 H' ∧ Pre ρ4 ρ5 ∧ Sub Hs4 Hs5 ∧ Bs X.K ρ5 m2 Hs5 H' ∧ En X.K N.H ω Γ' ρ5 Hs5 H' σ' ∧ DL X.K N.H ρ5 Hs5 H' A rows ∧ behGo (rows.map fun r => (r.1, r.2.2)) (ls.drop (i + 1)) = some rowsF ∧ ∀ r ∈ rows, r.2.2.length ≤ i + 1, fun σ9 H9 hN => ⟨ls.length - (i + 1), by omega, rfl, hlt, hN⟩, fun x H6 hy => ?_⟩
        obtain ⟨d, Hs6, hd, t6, b6, r6⟩ := wk4.yld ρ5 Hs5 m2 H' i x H6 p5 s5 b5 hlt hy
        have hdr : ls.drop i = d :: ls.drop (i + 1) := by
          rw [List.drop_eq_getElem_cons hlt]
          rw [List.getElem?_eq_getElem hlt] at hd
          rw [Option.some.inj hd]
        rw [hdr] at g5
        unfold behGo at g5
        cases hpo : pairOf d with
        | none => rw [hpo] at g5; cases g5
        | some xy =>
        obtain ⟨dx, dy⟩ := xy
        rw [hpo] at g5
        cases dx <;> try (cases g5; done)
        rename_i n
        have g5 : (if (rows.map fun r => (r.1, r.2.2)).any (fun r => decide (r.1 = n)) = true then behGo ((rows.map fun r => (r.1, r.2.2)).map fun r => if r.1 = n then (r.1, r.2 ++ [dy]) else r) (ls.drop (i + 1)) else none) = some rowsF := g5
        split at g5
        case isFalse => cases g5
        rename_i hany
        obtain ⟨rr, hrr, err⟩ := List.any_eq_true.mp hany
        obtain ⟨r0, hr0, rfl⟩ := List.mem_map.mp hrr
        have er0 : r0.1 = n := of_decide_eq_true err
        have hct : gT 2 (gsCons (gN i1) (gsCons (gN i2) gsNil)) d Γ' = some ((Γ'.set i1 (.int n)).set i2 dy) := by
          cases d <;> simp only [pairOf] at hpo <;> try (cases hpo; done)
          all_goals
            rename_i xs
            match xs, hpo with
            | [x, y], h => simp only [pairOf, Option.some.injEq, Prod.mk.injEq] at h; obtain ⟨rfl, rfl⟩ := h; rfl
        refine ⟨Γ', m2, ρ5, Hs6, d, _, b6, en5.mono t6, r6, hct, fun σ7 so en7 => ?_⟩
        have dl6 := dl5.mono t6
        obtain ⟨v1, a1, a2⟩ := en7.sh i1 h1
        obtain ⟨v2, c1, c2⟩ := en7.sh i2 h2
        have ln7 : Γ'.length = ωl.length := by
          have := en7.ln; rw [List.length_set, List.length_set] at this; rw [this, ← en7.wl]
        have li1 : i1 < ωl.length := by
          rcases Nat.lt_or_ge i1 ωl.length with z | z
          · exact z
          · rw [List.getElem?_eq_none z] at h1; cases h1
        have li2 : i2 < ωl.length := by
          rcases Nat.lt_or_ge i2 ωl.length with z | z
          · exact z
          · rw [List.getElem?_eq_none z] at h2; cases h2
        rw [getD_set_ne (Ne.symm h12), getD_set_same (by rw [ln7]; exact li1)] at a2
        rw [getD_set_same (by rw [List.length_set, ln7]; exact li2)] at c2
        cases a2
        obtain ⟨ws, w1, w2⟩ := dl6.ls r0 hr0
        have hlw : ws.length < sizeLine := by
          rw [w2.length]
          exact Nat.lt_of_le_of_lt (len5 r0 hr0) (Nat.lt_of_lt_of_le hlt hls)
        have sF7 : σ7[iF]? = some (some (.ref A)) := by rw [so.2 iF hFi]; exact hsF
        have hv := valV_row hr0 dl6.kn
        rw [er0] at hv
        have hmem : r0.2.1 = A ∨ r0.2.1 ∈ rows.map (·.2.1) := .inr (List.mem_map.mpr ⟨r0, hr0, rfl⟩)
        refine ⟨.ref A, sF7, .int n, a1, A, .ref r0.2.1, rfl, by rw [← hv]; exact .k (k := .inl n) dl6.dk, .inl ⟨rfl, _, .inl (.inl w1)⟩, v2, c1, r0.2.1, ws, v2, rfl, rfl, w1, hlw, sF7, _, ρ5, Hs6, addRow n dy rows, ?_, p5, s5.trans t6.sub, b6.mut (dl6.fr _ hmem).1 (dl6.fr _ hmem).2.1, (en7.mutO fun i hi => absurd hi (noOw_at hno i)).weak hle, dl6.app hr0 er0 w1 c2, ?_, ?_⟩
        · exact tr_mut (nt.trans t6) (dl6.fr _ hmem).2.2 (dl6.at hmem)
        · rw [← g5]
          congr 1
          unfold addRow
          rw [List.map_map, List.map_map]
          refine List.map_congr_left fun r _ => ?_
          show ((if r.1 = n then _ else r : Row).1, (if r.1 = n then _ else r : Row).2.2) = if r.1 = n then (r.1, r.2.2 ++ [dy]) else (r.1, r.2.2)
          split <;> rfl
        · intro r hr
          obtain ⟨y, hy, rfl⟩ := List.mem_map.mp hr
          have := len5 y hy
          show (if y.1 = n then _ else y : Row).2.2.length ≤ i + 1
          split
          · show (y.2.2 ++ [dy]).length ≤ i + 1
            rw [List.length_append]; simp only [List.length_cons, List.length_nil]; omega
          · omega
      · have e : i = ls.length := by omega
        subst e
        rw [List.drop_length] at g5
        have g5 : rows.map (fun r => (r.1, r.2.2)) = rowsF := Option.some.inj g5
        refine .inl ⟨wk4.stop ρ5 Hs5 m2 H' _ p5 s5 b5 (Nat.le_refl _), .ref A, hsF, ?_⟩
        obtain ⟨Hs7, s7, n7, b7, r7⟩ := dl5.val b5
        refine o (.ref A) ρ5 Hs7 H' ⟨nt.sub.trans s7, fun c u e => ?_, nt.pre, nt.bnew, nt.dom, nt.same⟩ b7 ?_
        · rcases n7 c u e with z | z
          · exact nt.new c u z
          · exact .inr z
        · rw [← g5, List.map_map]
          exact r7
end
end Pv
end
section
set_option Elab.async false
set_option linter.all false
set_option maxRecDepth 100000
/-! Pv31: min of two, min and max of a list. -/
namespace Pv
open PySem L2 PySem.W PyProof.Rows PySem.SeqAt PySem.Calls
mutual
theorem alk_refl_of : ∀ {n : Nat} {d : D}, d.pl n = true → d.alk d = true
  | _, .non, _ => by simp [D.alk]
  | _, .bl _, _ => by simp [D.alk]
  | _, .int _, _ => by simp [D.alk]
  | _, .str _, _ => by simp [D.alk]
  | n + 1, .lst xs, h => by simp only [D.pl] at h; simp only [D.alk]; exact alkAll_refl_of h
  | n + 1, .tup xs, h => by simp only [D.pl] at h; simp only [D.alk]; exact alkAll_refl_of h
  | 0, .lst _, h => by simp [D.pl] at h
  | 0, .tup _, h => by simp [D.pl] at h
  | n, .dct _ _, h | n, .set _, h | n, .exc _ _, h | n, .box _, h | n, .scr _, h => by cases n <;> simp [D.pl] at h
theorem alkAll_refl_of : ∀ {n : Nat} {xs : List D}, plAll n xs = true → alkAll xs xs = true
  | _, [], _ => by simp [alkAll]
  | n, x :: xs, h => by
    simp only [plAll, Bool.and_eq_true] at h
    simp only [alkAll, Bool.and_eq_true]
    exact ⟨alk_refl_of h.1, alkAll_refl_of h.2⟩
end
section
variable {prog : Program} {w : World} {A : Around} {E : Value → Shared → Prop} {s : Shared}
theorem min2_data {a b : Value} {x y : PyData} {as : List Addr} {Q : Value → Shared → Prop} (hh : A.handled = none) (hr : ReadsAll s.heap [a, b] [x, y] as) (ha : AlikeAll [x, y]) (hu : A.units + 1 + PyData.depthAll [x, y] < cLine)
    (h : ∀ h' tk, (∀ b o, s.heap.get? b = some o → h'.get? b = some o) → Q (if dataLt y x then b else a) { s with heap := h', toks := tk }) : wpAny (model prog w) A (call (.builtin "min") [a, b]) Q E s := by
  have hname : (toString "min" ++ toString ".loop" : String) = "min.loop" := by decide
  refine call_function_tree F.kind_min F.plain_min F.entry_min (F.args_min2 _ _) ?_; show wpAny _ A.in1 (Builtin.Builtins.bindParams "min" ["key", "default"] 0 ⟨[], []⟩ >>= _) _ _ s
  refine wpAny_bind (wpAny_of_eq (show Builtin.Builtins.bindParams "min" ["key", "default"] 0 ⟨[], []⟩ = pure [none, none] from rfl) ?_); show wpAny _ A.in1 (newTuple [a, b] >>= _) _ _ s
  refine wpAny_bind (wpAny_newObj_type ?_)
  have ht : (s.heap.push { cls := .type "tuple", data := .seq #[a, b] }).IsTuple s.heap.objs.size #[a, b] := ⟨_, Heap.get?_push_size _ rfl, rfl, _, rfl⟩
  have hr' : ReadsAll (s.heap.push { cls := .type "tuple", data := .seq #[a, b] }) (#[a, b] : Array Value).toList [x, y] as := ReadsAll.keeps (fun _ _ e => Heap.get?_push_of_some _ e) hr
  refine wpAny_bind (iter_tupleW (A := A.in1) (s := { s with heap := s.heap.push { cls := .type "tuple", data := .seq #[a, b] } }) hh ht fun s₂ e W st hfp hw hk => ?_)
  refine wpAny_bind (wpAny_newObj_type ?_)
  have hSf : s₂.heap.objs.size ∉ [(s.heap.push { cls := .type "tuple", data := .seq #[a, b] }).objs.size, s.heap.objs.size] := fun hm => Nat.lt_irrefl _ (hfp _ hm)
  rw [hname]
  refine wpAny_pure ⟨plainId_quiet F.plain_min_loop _, codeAny_min_loop_firstH W _ hw _ (cmpIn_lt (A := A.in1) (s := { s with heap := s.heap.push { cls := .type "tuple", data := .seq #[a, b] } }) hr' ha (by show A.units + 1 + _ < _; exact hu)) s₂.heap.objs.size hSf (fresh_in hk) _ (by simp) (fun b o e => Heap.get?_push_of_some _ (hk b o e)) (W.frame 0 s₂ _ s₂.toks st (Nat.le_refl _) fun b _ o e => Heap.get?_push_of_some _ e) (Heap.get?_push_size _ rfl) fun v s' hP hm => ?_⟩
  have m := Moved.drop_new (tk := s₂.toks) hm (Nat.le_refl _)
  obtain ⟨h', tk, rfl, hk'⟩ := moved_old (s := { s with heap := s.heap.push { cls := .type "tuple", data := .seq #[a, b] } }) e rfl m
  have hv : v = if dataLt y x then b else a := by
    have hP : (#[a, b] : Array Value)[argBest (fun i j => dataLt ([x, y].getD i .none) ([x, y].getD j .none)) 1]? = some v := hP
    unfold argBest at hP
    simp only [argBest] at hP
    cases hd : dataLt y x <;> simp [hd] at hP ⊢ <;> exact hP.symm
  rw [hv]
  exact h h' tk fun b o e => hk' b o (Heap.get?_push_of_some _ e)
end
section
variable {X : Cx} {f : Bool} {H0 : Hp} {W : WX} {ω : List Md} {a b : Expr} {ca cb : EC} {p pos : Pos}
theorem cr_min2D (hc : X.calm = true) (hu : X.A.units + 64 < cLine) : CallR X (.builtin "min") fun xs H Q => ∃ x y d e ρ, xs = [x, y] ∧ Rep X.K ρ H x d ∧ Rep X.K ρ H y e ∧ ltOk d e = true ∧ ltOk e d = true ∧ Q (if e.lt d then y else x) H := by
  intro pins s σ H xs us Q I r h
  obtain ⟨x, y, d, e, ρ, rfl, hx, hy, h1, h2, q⟩ := h
  obtain ⟨u, w, rfl, rx, ry⟩ := vals2 r
  simp only [ltOk, Bool.and_eq_true, Bool.not_eq_true'] at h1 h2
  obtain ⟨as, ra⟩ := hx.reads I h1.1.1.1 rx
  obtain ⟨bs, rb⟩ := hy.reads I h1.1.1.2 ry
  have hr : ReadsAll s.heap [u, w] [d.toPy, e.toPy] (as ++ (bs ++ [])) := .cons ra (.cons rb .nil)
  have dd := depth_of h1.1.1.1
  have de := depth_of h1.1.1.2
  have hal : ∀ p ∈ [d, e], ∀ q ∈ [d, e], p.alk q = true := by
    intro p hp q hq
    have c1 : d.alk d = true := alk_refl_of h1.1.1.1
    have c2 : e.alk e = true := alk_refl_of h1.1.1.2
    simp only [List.mem_cons, List.not_mem_nil, or_false] at hp hq
    rcases hp with rfl | rfl <;> rcases hq with rfl | rfl
    · exact c1
    · exact h1.1.2
    · exact h2.1.2
    · exact c2
  refine min2_data (I.ok.hd hc) hr ⟨?_, ?_⟩ ?_ fun h' tk k => ⟨if e.lt d then y else x, H, I.kept k, ?_, q⟩
  · intro p hp q hq
    simp only [List.mem_cons, List.not_mem_nil, or_false] at hp hq
    rcases hp with rfl | rfl <;> rcases hq with rfl | rfl
    · rw [alk_py h1.1.1.1 h1.1.1.1]; exact hal _ (by simp) _ (by simp)
    · rw [alk_py h1.1.1.1 h1.1.1.2]; exact hal _ (by simp) _ (by simp)
    · rw [alk_py h1.1.1.2 h1.1.1.1]; exact hal _ (by simp) _ (by simp)
    · rw [alk_py h1.1.1.2 h1.1.1.2]; exact hal _ (by simp) _ (by simp)
  · intro p hp
    simp only [List.mem_cons, List.not_mem_nil, or_false] at hp
    rcases hp with rfl | rfl
    · exact not_none_of h1.1.1.1 h1.2
    · exact not_none_of h1.1.1.2 h2.2
  · simp only [PyData.depthAll]; unfold PLN at dd de; omega
  · rw [lt_py h1.1.1.2 h1.1.1.1 h2.1.2]
    cases e.lt d <;> first | exact rx | exact ry
/-- min(x, y) -/
def min2D (_ : Mu) (d e : D) : Option D := if ltOk d e && ltOk e d then some (if e.lt d then e else d) else none
theorem ev_min2 (B : Bn X.mg) (hc : X.calm = true) (hu : X.A.units + 64 < cLine) (ha : EV X H0 W ω a ca) (hb : EV X H0 W ω b cb) (hg : Gl X "min" := by rfl) (he : starEach [a, b] X.env = (false, eval a X.env) :: starEach [b] X.env := by rfl) (he2 : starEach [b] X.env = (false, eval b X.env) :: starEach [] X.env := by rfl) (hpl : (backTo pos (starEach [b] X.env)).any (·.1) = false := by rfl) :
    EV X H0 W ω (.Call (.Name "min" p) [a, b] [] pos) (c2 min2D ca cb) :=
  EB.ev (PE.imp (pe_callB (cr_min2D hc hu) hg B.min (by decide +kernel) (pa_cons ha (pa_cons hb pa_nil he2) he) (by decide) (by decide) he hpl) fun σ H Q h => by
    obtain ⟨Γ, m, ρ, Hs, b, en, o⟩ := h
    refine ⟨Γ, m, ρ, Hs, b, en, Out.mono (OutB.bind o) fun x H1 ⟨d, m1, ρ1, Hs1, t1, b1, r1, o1⟩ => ?_⟩
    refine ⟨Γ, m1, ρ1, Hs1, b1, en.mono t1, Out.mono (OutB.bind o1) fun y H2 ⟨e, m2, ρ2, Hs2, t2, b2, r2, o2⟩ => ?_⟩
    obtain ⟨z, hz, o3⟩ := OutB.of o2
    obtain ⟨hk, rfl⟩ := of_if hz
    obtain ⟨k1, k2⟩ := Bool.and_eq_true_iff.mp hk
    have r1' := r1.mono t2.pre t2.sub
    refine ⟨x, y, d, e, ρ2, rfl, r1'.mono (.refl _) b2.sub, r2.mono (.refl _) b2.sub, k1, k2, ?_⟩
    cases hl : e.lt d with
    | true => rw [hl] at o3; exact o3.val b2 r2
    | false => rw [hl] at o3; exact o3.val b2 r1')
end
end Pv
end
section
namespace Pv
open PySem L2
/-- the end of a law -/
theorem law_end {K : PySem.W.Frag} {mg : Str → Option Value} {H : Hp} {a : Addr} {ns : List Int} {G : List D → Mu → R D} (hS : SqL K H a (ns.map V.int)) (h : ∃ m, G [.scr ns] [] = .ok (.bl true) m) : spD K mg false 1 G [.ref a] H (fun v _ => v = .bl true) fun _ _ _ => False := by
  obtain ⟨m, h⟩ := h
  refine ⟨[], [], H, [.scr ns], ⟨.refl _, fun n ds q => by simp at q, fun i j a q => by simp at q, rfl⟩, .one (.scr hS), rfl, ?_⟩
  rw [h]
  intro v ρ' Hs' H' _ _ r
  cases r
  rfl
end Pv
end
section
set_option linter.all false
set_option maxRecDepth 100000
/-! Pm: how the mirrors are reckoned with. -/
namespace Pv
open PySem
def WR0 {α : Type} (r : R α) (Q : α → Mu → Prop) : Prop := match r with
  | .ok a m => Q a m
  | _ => False
def WO0 {α : Type} (o : Option α) (Q : α → Prop) : Prop := match o with
  | some a => Q a
  | none => False
def WS0 (r : SR) (Qn : Gam → Mu → Prop) (Qr : D → Mu → Prop) : Prop := match r with
  | .nx Γ m => Qn Γ m
  | .rt d m => Qr d m
  | _ => False
theorem WR0.mono {α : Type} {r : R α} {Q Q' : α → Mu → Prop} (h : WR0 r Q) (q : ∀ a m, Q a m → Q' a m) : WR0 r Q' := by
  cases r with
  | ok a m => exact q a m h
  | exc c fs m => exact h
  | bad => exact h
theorem WO0.mono {α : Type} {r : Option α} {Q Q' : α → Prop} (h : WO0 r Q) (q : ∀ a, Q a → Q' a) : WO0 r Q' := by
  cases r with
  | some a => exact q a h
  | none => exact h
theorem WS0.mono {r : SR} {Qn Qn' : Gam → Mu → Prop} {Qr Qr' : D → Mu → Prop} (h : WS0 r Qn Qr) (q : ∀ a m, Qn a m → Qn' a m) (q' : ∀ a m, Qr a m → Qr' a m) : WS0 r Qn' Qr' := by
  cases r with
  | nx Γ m => exact q _ _ h
  | rt d m => exact q' _ _ h
  | exc c fs Γ m => exact h
  | bad => exact h
theorem WR0.get {α : Type} {r : R α} {Q : α → Mu → Prop} (h : WR0 r Q) : ∃ a m, r = .ok a m ∧ Q a m := by
  cases r with
  | ok a m => exact ⟨a, m, rfl, h⟩
  | exc c fs m => exact h.elim
  | bad => exact h.elim
theorem WR0.of {α : Type} {r : R α} {a : α} {m : Mu} {Q : α → Mu → Prop} (e : r = .ok a m) (h : Q a m) : WR0 r Q := by rw [e]; exact h
section
variable {α β : Type} {Γ : Gam} {m : Mu} {Q : D → Mu → Prop} {QL : List D → Mu → Prop} {QB : Bool → Mu → Prop} {Qn : Gam → Mu → Prop} {Qr : D → Mu → Prop}
theorem wr0_ok {a : α} {Q : α → Mu → Prop} : WR0 (.ok a m) Q = Q a m := (rfl)
theorem wr0_bad {Q : α → Mu → Prop} : WR0 (.bad : R α) Q = False := (rfl)
theorem wo0_some {a : α} {Q : α → Prop} : WO0 (some a) Q = Q a := (rfl)
theorem wo0_none {Q : α → Prop} : WO0 (none : Option α) Q = False := (rfl)
theorem wr0_bind {r : R α} {f : α → Mu → R β} {Q : β → Mu → Prop} : WR0 (r.bind f) Q = WR0 r fun a m => WR0 (f a m) Q := by cases r <;> rfl
theorem wr0_of {o : Option α} {Q : α → Mu → Prop} : WR0 (R.of o m) Q = WO0 o fun a => Q a m := by cases o <;> rfl
theorem wr0_ite {k : Bool} {a b : R α} {Q : α → Mu → Prop} : WR0 (if k = true then a else b) Q = if k = true then WR0 a Q else WR0 b Q := by cases k <;> rfl
theorem ws0_ite {k : Bool} {a b : SR} : WS0 (if k = true then a else b) Qn Qr = if k = true then WS0 a Qn Qr else WS0 b Qn Qr := by cases k <;> rfl
theorem wo0_ite {k : Bool} {a b : Option α} {Q : α → Prop} : WO0 (if k = true then a else b) Q = if k = true then WO0 a Q else WO0 b Q := by cases k <;> rfl
theorem wr0_var {i : Nat} : WR0 (cVar i Γ m) Q = Q (Γ.getD i .non) m := (rfl)
theorem wr0_c {d : D} : WR0 (cC d Γ m) Q = Q d m := (rfl)
theorem wr0_c2 {g : Mu → D → D → Option D} {ca cb : EC} : WR0 (c2 g ca cb Γ m) Q = WR0 (ca Γ m) fun d m1 => WR0 (cb Γ m1) fun e m2 => WO0 (g m2 d e) fun z => Q z m2 := by
  unfold c2; rw [wr0_bind]; congr; funext d m1; rw [wr0_bind]; congr; funext e m2; rw [wr0_of]
theorem wr0_c1 {g : Mu → D → Option D} {ca : EC} : WR0 (c1 g ca Γ m) Q = WR0 (ca Γ m) fun d m1 => WO0 (g m1 d) fun z => Q z m1 := by
  unfold c1; rw [wr0_bind]; congr; funext d m1; rw [wr0_of]
theorem wr0_anil : WR0 (aNil Γ m) QL = QL [] m := (rfl)
theorem wr0_acons {ca : EC} {cs : Gam → Mu → R (List D)} : WR0 (aCons ca cs Γ m) QL = WR0 (ca Γ m) fun d m1 => WR0 (cs Γ m1) fun ds m2 => QL (d :: ds) m2 := by
  unfold aCons; rw [wr0_bind]; congr; funext d m1; rw [wr0_bind]; rfl
theorem wr0_astar {ca : EC} {cs : Gam → Mu → R (List D)} : WR0 (aStar ca cs Γ m) QL = WR0 (ca Γ m) fun d m1 => WO0 (itemsD m1 d) fun xs => WR0 (cs Γ m1) fun ds m2 => QL (xs ++ ds) m2 := by
  unfold aStar; rw [wr0_bind]; congr; funext d m1; rw [wr0_bind, wr0_of]; congr; funext xs; rw [wr0_bind]; rfl
theorem wr0_lst {cs : Gam → Mu → R (List D)} : WR0 (cLst cs Γ m) Q = WR0 (cs Γ m) fun ds m1 => if szOk ds.length = true then Q (.lst ds) m1 else False := by
  unfold cLst; rw [wr0_bind]; congr; funext d m1; rw [wr0_ite]; rfl
theorem wr0_tup {cs : Gam → Mu → R (List D)} : WR0 (cTup cs Γ m) Q = WR0 (cs Γ m) fun ds m1 => if szOk ds.length = true then Q (.tup ds) m1 else False := by
  unfold cTup; rw [wr0_bind]; congr; funext d m1; rw [wr0_ite]; rfl
theorem wr0_call {G : List D → Mu → R D} {cs : Gam → Mu → R (List D)} : WR0 (cCall G cs Γ m) Q = WR0 (cs Γ m) fun ds m1 => WR0 (G ds m1) Q := by unfold cCall; rw [wr0_bind]
theorem wr0_call0 {G : List D → Mu → R D} : WR0 (cCall0 G Γ m) Q = WR0 (G [] m) Q := (rfl)
theorem wr0_callK {is : List Nat} {G : List D → Mu → R D} {cs : Gam → Mu → R (List D)} : WR0 (cCallK is G cs Γ m) Q = WR0 (cs Γ m) fun ds m1 => WR0 (G (permL is ds) m1) Q := by unfold cCallK; rw [wr0_bind]
theorem wr0_sl {g : Mu → D → Option Int → Option Int → Option D} {ca : EC} {cl ch : Gam → Mu → R (Option Int)} : WR0 (cSl g ca cl ch Γ m) Q = WR0 (ca Γ m) fun d m1 => WR0 (cl Γ m1) fun lo m2 => WR0 (ch Γ m2) fun hi m3 => WO0 (g m3 d lo hi) fun z => Q z m3 := by
  unfold cSl; rw [wr0_bind]; congr; funext d m1; rw [wr0_bind]; congr; funext d m1; rw [wr0_bind]; congr; funext e m2; rw [wr0_of]
theorem wr0_onone {Q : Option Int → Mu → Prop} : WR0 (oNone Γ m) Q = Q none m := (rfl)
theorem wr0_osome {c : EC} {Q : Option Int → Mu → Prop} : WR0 (oSome c Γ m) Q = WR0 (c Γ m) fun d m1 => WO0 (asInt d) fun i => Q (some i) m1 := by
  unfold oSome; rw [wr0_bind]; congr; funext d m1; rw [wr0_bind, wr0_of]; rfl
theorem wr0_if {t : TC} {ca cb : EC} : WR0 (cIf t ca cb Γ m) Q = WR0 (t Γ m) fun k m1 => if k = true then WR0 (ca Γ m1) Q else WR0 (cb Γ m1) Q := by
  unfold cIf; rw [wr0_bind]; congr; funext d m1; rw [wr0_ite]
theorem wr0_cAnd {ca cb : EC} : WR0 (cAnd ca cb Γ m) Q = WR0 (ca Γ m) fun d m1 => WO0 (truD m1 d) fun k => if k = true then WR0 (cb Γ m1) Q else Q d m1 := by
  unfold cAnd; rw [wr0_bind]; congr; funext d m1; rw [wr0_bind, wr0_of]; congr; funext k; rw [wr0_ite]; rfl
theorem wr0_cOr {ca cb : EC} : WR0 (cOr ca cb Γ m) Q = WR0 (ca Γ m) fun d m1 => WO0 (truD m1 d) fun k => if k = true then Q d m1 else WR0 (cb Γ m1) Q := by
  unfold cOr; rw [wr0_bind]; congr; funext d m1; rw [wr0_bind, wr0_of]; congr; funext k; rw [wr0_ite]; rfl
theorem wr0_tru {c : EC} : WR0 (tTru c Γ m) QB = WR0 (c Γ m) fun d m1 => WO0 (truD m1 d) fun k => QB k m1 := by
  unfold tTru; rw [wr0_bind]; congr; funext d m1; rw [wr0_of]
theorem wr0_tcmp {g : Mu → D → D → Option D} {ca cb : EC} : WR0 (tCmp g ca cb Γ m) QB = WR0 (c2 g ca cb Γ m) fun d m1 => WO0 (asBl d) fun k => QB k m1 := by
  unfold tCmp; rw [wr0_bind]; congr; funext d m1; rw [wr0_of]
theorem wr0_tand {ta tb : TC} : WR0 (tAnd' ta tb Γ m) QB = WR0 (ta Γ m) fun k m1 => if k = true then WR0 (tb Γ m1) QB else QB false m1 := by
  unfold tAnd'; rw [wr0_bind]; congr; funext d m1; rw [wr0_ite]; rfl
theorem wr0_tor {ta tb : TC} : WR0 (tOr' ta tb Γ m) QB = WR0 (ta Γ m) fun k m1 => if k = true then QB true m1 else WR0 (tb Γ m1) QB := by
  unfold tOr'; rw [wr0_bind]; congr; funext d m1; rw [wr0_ite]; rfl
theorem wr0_tnot {ta : TC} : WR0 (tNot' ta Γ m) QB = WR0 (ta Γ m) fun k m1 => QB (!k) m1 := by unfold tNot'; rw [wr0_bind]; rfl
theorem wr0_iseq {c : EC} : WR0 (iSeq c Γ m) QL = WR0 (c Γ m) fun d m1 => WO0 (itemsD m1 d) fun xs => QL xs m1 := by unfold iSeq; rw [wr0_bind]; congr; funext d m1; rw [wr0_of]
theorem wr0_irg {c : Gam → Mu → R (List D)} : WR0 (iRg c Γ m) QL = WR0 (c Γ m) fun ds m1 => WO0 (rg2 ds) fun xs => QL xs m1 := by unfold iRg; rw [wr0_bind]; congr; funext d m1; rw [wr0_of]
theorem wr0_ien {c : EC} : WR0 (iEn c Γ m) QL = WR0 (c Γ m) fun d m1 => WO0 (enD d) fun xs => QL xs m1 := by unfold iEn; rw [wr0_bind]; congr; funext d m1; rw [wr0_of]
theorem wr0_izp {c : Gam → Mu → R (List D)} : WR0 (iZp c Γ m) QL = WR0 (c Γ m) fun ds m1 => WO0 (zipD ds) fun xs => QL xs m1 := by unfold iZp; rw [wr0_bind]; congr; funext d m1; rw [wr0_of]
theorem wr0_box {c : EC} : WR0 (cBox c Γ m) Q = WR0 (c Γ m) fun d m1 => match d with
  | .lst xs => Q (.box m1.length) (m1 ++ [xs])
  | _ => False := by unfold cBox; rw [wr0_bind]; congr; funext d m1; cases d <;> rfl
theorem wr0_lc {ci : IC} {ct : GC} {tt : TC} {ce : EC} : WR0 (cLc ci ct tt ce Γ m) Q = WR0 (ci Γ m) fun ds m1 => if szOk ds.length = true then WR0 (lcGo ct tt ce Γ ds m1) fun ys m2 => Q (.lst ys) m2 else False := by
  unfold cLc; rw [wr0_bind]; congr; funext d m1; rw [wr0_ite, wr0_bind]; rfl
theorem wr0_noX {r : R α} {Q : α → Mu → Prop} : WR0 (noX r) Q = WR0 r Q := by cases r <;> rfl
theorem ws0_toS {r : R D} {k : D → Mu → SR} : WS0 (toS r Γ k) Qn Qr = WR0 r fun d m1 => WS0 (k d m1) Qn Qr := by cases r <;> rfl
theorem ws0_toSB {r : R Bool} {k : Bool → Mu → SR} : WS0 (toSB r Γ k) Qn Qr = WR0 r fun d m1 => WS0 (k d m1) Qn Qr := by cases r <;> rfl
theorem ws0_toSL {r : R (List D)} {k : List D → Mu → SR} : WS0 (toSL r Γ k) Qn Qr = WR0 r fun d m1 => WS0 (k d m1) Qn Qr := by cases r <;> rfl
theorem ws0_nx : WS0 (.nx Γ m) Qn Qr = Qn Γ m := (rfl)
theorem ws0_rt {d : D} : WS0 (.rt d m) Qn Qr = Qr d m := (rfl)
theorem ws0_bad : WS0 .bad Qn Qr = False := (rfl)
theorem ws0_seq {a b : SC} : WS0 (sSeq a b Γ m) Qn Qr = WS0 (a Γ m) (fun Γ' m' => WS0 (b Γ' m') Qn Qr) Qr := by unfold sSeq; cases a Γ m <;> rfl
theorem ws0_nil : WS0 (sNil Γ m) Qn Qr = Qn Γ m := (rfl)
theorem ws0_set {i : Nat} {c : EC} : WS0 (sSet i c Γ m) Qn Qr = WR0 (c Γ m) fun d m1 => Qn (Γ.set i d) m1 := by unfold sSet; rw [ws0_toS]; rfl
theorem ws0_ret {c : EC} : WS0 (sRet c Γ m) Qn Qr = WR0 (c Γ m) Qr := by unfold sRet; rw [ws0_toS]; rfl
theorem ws0_drop {c : EC} : WS0 (sDrop c Γ m) Qn Qr = WR0 (c Γ m) fun _ m1 => Qn Γ m1 := by unfold sDrop; rw [ws0_toS]; rfl
theorem ws0_if {t : TC} {a b : SC} : WS0 (sIf t a b Γ m) Qn Qr = WR0 (t Γ m) fun k m1 => if k = true then WS0 (a Γ m1) Qn Qr else WS0 (b Γ m1) Qn Qr := by
  unfold sIf; rw [ws0_toSB]; congr; funext k m1; rw [ws0_ite]
theorem ws0_par {i j : Nat} {c1 c2 : EC} : WS0 (sPar i j c1 c2 Γ m) Qn Qr = WR0 (c1 Γ m) fun d m1 => WR0 (c2 Γ m1) fun e m2 => Qn ((Γ.set i d).set j e) m2 := by
  unfold sPar; rw [ws0_toS]; congr; funext d m1; rw [ws0_toS]; rfl
theorem ws0_app {i : Nat} {c : EC} {xs : List D} (h : Γ.getD i .non = .lst xs) : WS0 (sApp i c Γ m) Qn Qr = WR0 (c Γ m) fun d m1 => if szOk (xs.length + 1) = true then Qn (Γ.set i (.lst (xs ++ [d]))) m1 else False := by
  unfold sApp; rw [h]; show WS0 (toS _ _ _) _ _ = _; rw [ws0_toS]; congr; funext d m1; rw [ws0_ite]; rfl
theorem ws0_put {i : Nat} {c ck : EC} : WS0 (sPut i c ck Γ m) Qn Qr = WR0 (c Γ m) fun d m1 => WR0 (ck Γ m1) fun k m2 => match Γ.getD i .non, k with
  | .lst xs, .int j => WO0 (L2.ixN xs.length j) fun n => Qn (Γ.set i (.lst (xs.set n d))) m2
  | _, _ => False := by
  unfold sPut; rw [ws0_toS]; congr; funext d m1; rw [ws0_toS]; congr; funext k m2
  cases Γ.getD i .non <;> try rfl
  cases k <;> try rfl
  rename_i xs j
  show WS0 (match L2.ixN xs.length j with
    | some n => .nx (Γ.set i (.lst (xs.set n d))) m2
    | none => .bad) Qn Qr = WO0 (L2.ixN xs.length j) _
  cases L2.ixN xs.length j <;> rfl
theorem ws0_putB {i : Nat} {c ck : EC} : WS0 (sPutB i c ck Γ m) Qn Qr = WR0 (c Γ m) fun d m1 => WR0 (ck Γ m1) fun k m2 => match Γ.getD i .non, k with
  | .box n, .int j => WO0 m2[n]? fun xs => WO0 (L2.ixN xs.length j) fun l => Qn Γ (m2.set n (xs.set l d))
  | _, _ => False := by
  unfold sPutB; rw [ws0_toS]; congr; funext d m1; rw [ws0_toS]; congr; funext k m2
  cases Γ.getD i .non <;> try rfl
  cases k <;> try rfl
  rename_i n j
  show WS0 (match m2[n]? with
    | some xs => match L2.ixN xs.length j with
      | some l => .nx Γ (m2.set n (xs.set l d))
      | none => .bad
    | none => .bad) Qn Qr = WO0 m2[n]? _
  cases m2[n]? with
  | none => rfl
  | some xs =>
    show WS0 (match L2.ixN xs.length j with
      | some l => .nx Γ (m2.set n (xs.set l d))
      | none => .bad) Qn Qr = WO0 (L2.ixN xs.length j) _
    cases L2.ixN xs.length j <;> rfl
theorem ws0_for {ci : IC} {ct : GC} {cb : SC} : WS0 (sFor ci ct cb Γ m) Qn Qr = WR0 (ci Γ m) fun ds m1 => WS0 (loopS ct cb ds Γ m1) Qn Qr := by unfold sFor; rw [ws0_toSL]
theorem wr0_fnC {n : Nat} {c : SC} {ds : List D} : WR0 (fnC n c ds m) Q = WS0 (c (ds ++ List.replicate n .non) m) (fun _ m' => Q .non m') Q := by unfold fnC; cases c (ds ++ List.replicate n .non) m <;> rfl
theorem wr0_fnF {n : Nat} {c : SC} {ds : List D} : WR0 (fnF n c ds m) Q = WS0 (c (ds ++ List.replicate n .non) m) (fun _ _ => False) Q := by unfold fnF; cases c (ds ++ List.replicate n .non) m <;> rfl
/-- a loop by an invariant over the items that are left -/
theorem ws0_loop {ct : GC} {cb : SC} (I : List D → Gam → Mu → Prop) (hs : ∀ d ds Γ m, I (d :: ds) Γ m → WO0 (ct d Γ) fun Γ1 => WS0 (cb Γ1 m) (fun Γ2 m2 => I ds Γ2 m2) Qr) (he : ∀ Γ m, I [] Γ m → Qn Γ m) : ∀ (ds : List D) (Γ : Gam) (m : Mu), I ds Γ m → WS0 (loopS ct cb ds Γ m) Qn Qr
  | [], Γ, m, h => he Γ m h
  | d :: ds, Γ, m, h => by
    have q := hs d ds Γ m h
    unfold loopS
    cases hc : ct d Γ with
    | none => rw [hc] at q; exact q.elim
    | some Γ1 =>
      rw [hc] at q
      have q : WS0 (cb Γ1 m) (fun Γ2 m2 => I ds Γ2 m2) Qr := q
      show WS0 (match cb Γ1 m with
        | .nx Γ2 m2 => loopS ct cb ds Γ2 m2
        | r => r) Qn Qr
      cases hb : cb Γ1 m with
      | nx Γ2 m2 => rw [hb] at q; exact ws0_loop I hs he ds Γ2 m2 q
      | rt d m' => rw [hb] at q; exact q
      | exc c fs Γ' m' => rw [hb] at q; exact q.elim
      | bad => rw [hb] at q; exact q.elim
/-- a comprehension by an invariant over the items that are left and those that were made -/
theorem wr0_lcGo {ct : GC} {tt : TC} {ce : EC} {Γ : Gam} {QL : List D → Mu → Prop} (I : List D → List D → Mu → Prop) (hs : ∀ d ds acc m, I (d :: ds) acc m → WO0 (ct d Γ) fun Γ1 => WR0 (tt Γ1 m) fun k m1 => if k = true then WR0 (ce Γ1 m1) fun y m2 => I ds (acc ++ [y]) m2 else I ds acc m1) :
    ∀ (ds acc : List D) (m : Mu), I ds acc m → (∀ ys m, I [] (acc ++ ys) m → QL ys m) → WR0 (lcGo ct tt ce Γ ds m) QL
  | [], acc, m, h, q => q [] m (by rw [List.append_nil]; exact h)
  | d :: ds, acc, m, h, q => by
    have z := hs d ds acc m h
    unfold lcGo
    cases hc : ct d Γ with
    | none => rw [hc] at z; exact z.elim
    | some Γ1 =>
      rw [hc] at z
      have z : WR0 (tt Γ1 m) fun k m1 => if k = true then WR0 (ce Γ1 m1) fun y m2 => I ds (acc ++ [y]) m2 else I ds acc m1 := z
      show WR0 ((noX (tt Γ1 m)).bind _) QL
      rw [wr0_bind, wr0_noX]
      refine z.mono fun k m1 hk => ?_
      cases k with
      | false => exact wr0_lcGo I hs ds acc m1 hk q
      | true =>
        show WR0 ((noX (ce Γ1 m1)).bind _) QL
        rw [wr0_bind, wr0_noX]
        refine WR0.mono (show WR0 (ce Γ1 m1) fun y m2 => I ds (acc ++ [y]) m2 from hk) fun y m2 hy => ?_
        rw [wr0_bind]
        exact wr0_lcGo I hs ds (acc ++ [y]) m2 hy fun ys m3 h3 => q (y :: ys) m3 (by rw [List.append_assoc] at h3; exact h3)
end
/-! the same as structures, so that nothing runs the mirrors by unfolding -/
structure WR {α : Type} (r : R α) (Q : α → Mu → Prop) : Prop where go : WR0 r Q
structure WO {α : Type} (o : Option α) (Q : α → Prop) : Prop where go : WO0 o Q
structure WS (r : SR) (Qn : Gam → Mu → Prop) (Qr : D → Mu → Prop) : Prop where go : WS0 r Qn Qr
theorem wr_eq {α : Type} {r : R α} {Q : α → Mu → Prop} : WR r Q = WR0 r Q := propext ⟨fun h => h.go, fun h => ⟨h⟩⟩
theorem wo_eq {α : Type} {o : Option α} {Q : α → Prop} : WO o Q = WO0 o Q := propext ⟨fun h => h.go, fun h => ⟨h⟩⟩
theorem ws_eq {r : SR} {Qn : Gam → Mu → Prop} {Qr : D → Mu → Prop} : WS r Qn Qr = WS0 r Qn Qr := propext ⟨fun h => h.go, fun h => ⟨h⟩⟩
theorem WR.mono {α : Type} {r : R α} {Q Q' : α → Mu → Prop} (h : WR r Q) (q : ∀ a m, Q a m → Q' a m) : WR r Q' := ⟨h.go.mono q⟩
theorem WO.mono {α : Type} {r : Option α} {Q Q' : α → Prop} (h : WO r Q) (q : ∀ a, Q a → Q' a) : WO r Q' := ⟨h.go.mono q⟩
theorem WS.mono {r : SR} {Qn Qn' : Gam → Mu → Prop} {Qr Qr' : D → Mu → Prop} (h : WS r Qn Qr) (q : ∀ a m, Qn a m → Qn' a m) (q' : ∀ a m, Qr a m → Qr' a m) : WS r Qn' Qr' := ⟨h.go.mono q q'⟩
theorem WR.get {α : Type} {r : R α} {Q : α → Mu → Prop} (h : WR r Q) : ∃ a m, r = .ok a m ∧ Q a m := h.go.get
theorem WR.of {α : Type} {r : R α} {a : α} {m : Mu} {Q : α → Mu → Prop} (e : r = .ok a m) (h : Q a m) : WR r Q := ⟨WR0.of e h⟩
section
variable {α β : Type} {Γ : Gam} {m : Mu} {Q : D → Mu → Prop} {QL : List D → Mu → Prop} {QB : Bool → Mu → Prop} {Qn : Gam → Mu → Prop} {Qr : D → Mu → Prop}
@[simp ↓, simp] theorem wr_ok {a : α} {Q : α → Mu → Prop} : WR (.ok a m) Q = Q a m := by simp only [wr_eq, wo_eq, ws_eq]; exact wr0_ok
@[simp ↓, simp] theorem wr_bad {Q : α → Mu → Prop} : WR (.bad : R α) Q = False := by simp only [wr_eq, wo_eq, ws_eq]; exact wr0_bad
@[simp ↓, simp] theorem wo_some {a : α} {Q : α → Prop} : WO (some a) Q = Q a := by simp only [wr_eq, wo_eq, ws_eq]; exact wo0_some
@[simp ↓, simp] theorem wo_none {Q : α → Prop} : WO (none : Option α) Q = False := by simp only [wr_eq, wo_eq, ws_eq]; exact wo0_none
@[simp ↓, simp] theorem wr_bind {r : R α} {f : α → Mu → R β} {Q : β → Mu → Prop} : WR (r.bind f) Q = WR r fun a m => WR (f a m) Q := by simp only [wr_eq, wo_eq, ws_eq]; exact wr0_bind
@[simp ↓, simp] theorem wr_of {o : Option α} {Q : α → Mu → Prop} : WR (R.of o m) Q = WO o fun a => Q a m := by simp only [wr_eq, wo_eq, ws_eq]; exact wr0_of
@[simp ↓, simp] theorem wr_ite {k : Bool} {a b : R α} {Q : α → Mu → Prop} : WR (if k = true then a else b) Q = if k = true then WR a Q else WR b Q := by simp only [wr_eq, wo_eq, ws_eq]; exact wr0_ite
@[simp ↓, simp] theorem ws_ite {k : Bool} {a b : SR} : WS (if k = true then a else b) Qn Qr = if k = true then WS a Qn Qr else WS b Qn Qr := by simp only [wr_eq, wo_eq, ws_eq]; exact ws0_ite
@[simp ↓, simp] theorem wo_ite {k : Bool} {a b : Option α} {Q : α → Prop} : WO (if k = true then a else b) Q = if k = true then WO a Q else WO b Q := by simp only [wr_eq, wo_eq, ws_eq]; exact wo0_ite
@[simp ↓, simp] theorem wr_var {i : Nat} : WR (cVar i Γ m) Q = Q (Γ.getD i .non) m := by simp only [wr_eq, wo_eq, ws_eq]; exact wr0_var
@[simp ↓, simp] theorem wr_c {d : D} : WR (cC d Γ m) Q = Q d m := by simp only [wr_eq, wo_eq, ws_eq]; exact wr0_c
@[simp ↓, simp] theorem wr_c2 {g : Mu → D → D → Option D} {ca cb : EC} : WR (c2 g ca cb Γ m) Q = WR (ca Γ m) fun d m1 => WR (cb Γ m1) fun e m2 => WO (g m2 d e) fun z => Q z m2 := by simp only [wr_eq, wo_eq, ws_eq]; exact wr0_c2
@[simp ↓, simp] theorem wr_c1 {g : Mu → D → Option D} {ca : EC} : WR (c1 g ca Γ m) Q = WR (ca Γ m) fun d m1 => WO (g m1 d) fun z => Q z m1 := by simp only [wr_eq, wo_eq, ws_eq]; exact wr0_c1
@[simp ↓, simp] theorem wr_anil : WR (aNil Γ m) QL = QL [] m := by simp only [wr_eq, wo_eq, ws_eq]; exact wr0_anil
@[simp ↓, simp] theorem wr_acons {ca : EC} {cs : Gam → Mu → R (List D)} : WR (aCons ca cs Γ m) QL = WR (ca Γ m) fun d m1 => WR (cs Γ m1) fun ds m2 => QL (d :: ds) m2 := by simp only [wr_eq, wo_eq, ws_eq]; exact wr0_acons
@[simp ↓, simp] theorem wr_astar {ca : EC} {cs : Gam → Mu → R (List D)} : WR (aStar ca cs Γ m) QL = WR (ca Γ m) fun d m1 => WO (itemsD m1 d) fun xs => WR (cs Γ m1) fun ds m2 => QL (xs ++ ds) m2 := by simp only [wr_eq, wo_eq, ws_eq]; exact wr0_astar
@[simp ↓, simp] theorem wr_lst {cs : Gam → Mu → R (List D)} : WR (cLst cs Γ m) Q = WR (cs Γ m) fun ds m1 => if szOk ds.length = true then Q (.lst ds) m1 else False := by simp only [wr_eq, wo_eq, ws_eq]; exact wr0_lst
@[simp ↓, simp] theorem wr_tup {cs : Gam → Mu → R (List D)} : WR (cTup cs Γ m) Q = WR (cs Γ m) fun ds m1 => if szOk ds.length = true then Q (.tup ds) m1 else False := by simp only [wr_eq, wo_eq, ws_eq]; exact wr0_tup
@[simp ↓, simp] theorem wr_call {G : List D → Mu → R D} {cs : Gam → Mu → R (List D)} : WR (cCall G cs Γ m) Q = WR (cs Γ m) fun ds m1 => WR (G ds m1) Q := by simp only [wr_eq, wo_eq, ws_eq]; exact wr0_call
@[simp ↓, simp] theorem wr_call0 {G : List D → Mu → R D} : WR (cCall0 G Γ m) Q = WR (G [] m) Q := by simp only [wr_eq, wo_eq, ws_eq]; exact wr0_call0
@[simp ↓, simp] theorem wr_callK {is : List Nat} {G : List D → Mu → R D} {cs : Gam → Mu → R (List D)} : WR (cCallK is G cs Γ m) Q = WR (cs Γ m) fun ds m1 => WR (G (permL is ds) m1) Q := by simp only [wr_eq, wo_eq, ws_eq]; exact wr0_callK
@[simp ↓, simp] theorem wr_sl {g : Mu → D → Option Int → Option Int → Option D} {ca : EC} {cl ch : Gam → Mu → R (Option Int)} : WR (cSl g ca cl ch Γ m) Q = WR (ca Γ m) fun d m1 => WR (cl Γ m1) fun lo m2 => WR (ch Γ m2) fun hi m3 => WO (g m3 d lo hi) fun z => Q z m3 := by simp only [wr_eq, wo_eq, ws_eq]; exact wr0_sl
@[simp ↓, simp] theorem wr_onone {Q : Option Int → Mu → Prop} : WR (oNone Γ m) Q = Q none m := by simp only [wr_eq, wo_eq, ws_eq]; exact wr0_onone
@[simp ↓, simp] theorem wr_osome {c : EC} {Q : Option Int → Mu → Prop} : WR (oSome c Γ m) Q = WR (c Γ m) fun d m1 => WO (asInt d) fun i => Q (some i) m1 := by simp only [wr_eq, wo_eq, ws_eq]; exact wr0_osome
@[simp ↓, simp] theorem wr_if {t : TC} {ca cb : EC} : WR (cIf t ca cb Γ m) Q = WR (t Γ m) fun k m1 => if k = true then WR (ca Γ m1) Q else WR (cb Γ m1) Q := by simp only [wr_eq, wo_eq, ws_eq]; exact wr0_if
@[simp ↓, simp] theorem wr_cAnd {ca cb : EC} : WR (cAnd ca cb Γ m) Q = WR (ca Γ m) fun d m1 => WO (truD m1 d) fun k => if k = true then WR (cb Γ m1) Q else Q d m1 := by simp only [wr_eq, wo_eq, ws_eq]; exact wr0_cAnd
@[simp ↓, simp] theorem wr_cOr {ca cb : EC} : WR (cOr ca cb Γ m) Q = WR (ca Γ m) fun d m1 => WO (truD m1 d) fun k => if k = true then Q d m1 else WR (cb Γ m1) Q := by simp only [wr_eq, wo_eq, ws_eq]; exact wr0_cOr
@[simp ↓, simp] theorem wr_tru {c : EC} : WR (tTru c Γ m) QB = WR (c Γ m) fun d m1 => WO (truD m1 d) fun k => QB k m1 := by simp only [wr_eq, wo_eq, ws_eq]; exact wr0_tru
@[simp ↓, simp] theorem wr_tcmp {g : Mu → D → D → Option D} {ca cb : EC} : WR (tCmp g ca cb Γ m) QB = WR (c2 g ca cb Γ m) fun d m1 => WO (asBl d) fun k => QB k m1 := by simp only [wr_eq, wo_eq, ws_eq]; exact wr0_tcmp
@[simp ↓, simp] theorem wr_tand {ta tb : TC} : WR (tAnd' ta tb Γ m) QB = WR (ta Γ m) fun k m1 => if k = true then WR (tb Γ m1) QB else QB false m1 := by simp only [wr_eq, wo_eq, ws_eq]; exact wr0_tand
@[simp ↓, simp] theorem wr_tor {ta tb : TC} : WR (tOr' ta tb Γ m) QB = WR (ta Γ m) fun k m1 => if k = true then QB true m1 else WR (tb Γ m1) QB := by simp only [wr_eq, wo_eq, ws_eq]; exact wr0_tor
@[simp ↓, simp] theorem wr_tnot {ta : TC} : WR (tNot' ta Γ m) QB = WR (ta Γ m) fun k m1 => QB (!k) m1 := by simp only [wr_eq, wo_eq, ws_eq]; exact wr0_tnot
@[simp ↓, simp] theorem wr_iseq {c : EC} : WR (iSeq c Γ m) QL = WR (c Γ m) fun d m1 => WO (itemsD m1 d) fun xs => QL xs m1 := by simp only [wr_eq, wo_eq, ws_eq]; exact wr0_iseq
@[simp ↓, simp] theorem wr_irg {c : Gam → Mu → R (List D)} : WR (iRg c Γ m) QL = WR (c Γ m) fun ds m1 => WO (rg2 ds) fun xs => QL xs m1 := by simp only [wr_eq, wo_eq, ws_eq]; exact wr0_irg
@[simp ↓, simp] theorem wr_ien {c : EC} : WR (iEn c Γ m) QL = WR (c Γ m) fun d m1 => WO (enD d) fun xs => QL xs m1 := by simp only [wr_eq, wo_eq, ws_eq]; exact wr0_ien
@[simp ↓, simp] theorem wr_izp {c : Gam → Mu → R (List D)} : WR (iZp c Γ m) QL = WR (c Γ m) fun ds m1 => WO (zipD ds) fun xs => QL xs m1 := by simp only [wr_eq, wo_eq, ws_eq]; exact wr0_izp
@[simp ↓, simp] theorem wr_box {c : EC} : WR (cBox c Γ m) Q = WR (c Γ m) fun d m1 => match d with
  | .lst xs => Q (.box m1.length) (m1 ++ [xs])
  | _ => False := by simp only [wr_eq, wo_eq, ws_eq]; exact wr0_box
@[simp ↓, simp] theorem wr_lc {ci : IC} {ct : GC} {tt : TC} {ce : EC} : WR (cLc ci ct tt ce Γ m) Q = WR (ci Γ m) fun ds m1 => if szOk ds.length = true then WR (lcGo ct tt ce Γ ds m1) fun ys m2 => Q (.lst ys) m2 else False := by simp only [wr_eq, wo_eq, ws_eq]; exact wr0_lc
@[simp ↓, simp] theorem wr_noX {r : R α} {Q : α → Mu → Prop} : WR (noX r) Q = WR r Q := by simp only [wr_eq, wo_eq, ws_eq]; exact wr0_noX
@[simp ↓, simp] theorem ws_toS {r : R D} {k : D → Mu → SR} : WS (toS r Γ k) Qn Qr = WR r fun d m1 => WS (k d m1) Qn Qr := by simp only [wr_eq, wo_eq, ws_eq]; exact ws0_toS
@[simp ↓, simp] theorem ws_toSB {r : R Bool} {k : Bool → Mu → SR} : WS (toSB r Γ k) Qn Qr = WR r fun d m1 => WS (k d m1) Qn Qr := by simp only [wr_eq, wo_eq, ws_eq]; exact ws0_toSB
@[simp ↓, simp] theorem ws_toSL {r : R (List D)} {k : List D → Mu → SR} : WS (toSL r Γ k) Qn Qr = WR r fun d m1 => WS (k d m1) Qn Qr := by simp only [wr_eq, wo_eq, ws_eq]; exact ws0_toSL
@[simp ↓, simp] theorem ws_nx : WS (.nx Γ m) Qn Qr = Qn Γ m := by simp only [wr_eq, wo_eq, ws_eq]; exact ws0_nx
@[simp ↓, simp] theorem ws_rt {d : D} : WS (.rt d m) Qn Qr = Qr d m := by simp only [wr_eq, wo_eq, ws_eq]; exact ws0_rt
@[simp ↓, simp] theorem ws_bad : WS .bad Qn Qr = False := by simp only [wr_eq, wo_eq, ws_eq]; exact ws0_bad
@[simp ↓, simp] theorem ws_seq {a b : SC} : WS (sSeq a b Γ m) Qn Qr = WS (a Γ m) (fun Γ' m' => WS (b Γ' m') Qn Qr) Qr := by simp only [wr_eq, wo_eq, ws_eq]; exact ws0_seq
@[simp ↓, simp] theorem ws_nil : WS (sNil Γ m) Qn Qr = Qn Γ m := by simp only [wr_eq, wo_eq, ws_eq]; exact ws0_nil
@[simp ↓, simp] theorem ws_set {i : Nat} {c : EC} : WS (sSet i c Γ m) Qn Qr = WR (c Γ m) fun d m1 => Qn (Γ.set i d) m1 := by simp only [wr_eq, wo_eq, ws_eq]; exact ws0_set
@[simp ↓, simp] theorem ws_ret {c : EC} : WS (sRet c Γ m) Qn Qr = WR (c Γ m) Qr := by simp only [wr_eq, wo_eq, ws_eq]; exact ws0_ret
@[simp ↓, simp] theorem ws_drop {c : EC} : WS (sDrop c Γ m) Qn Qr = WR (c Γ m) fun _ m1 => Qn Γ m1 := by simp only [wr_eq, wo_eq, ws_eq]; exact ws0_drop
@[simp ↓, simp] theorem ws_if {t : TC} {a b : SC} : WS (sIf t a b Γ m) Qn Qr = WR (t Γ m) fun k m1 => if k = true then WS (a Γ m1) Qn Qr else WS (b Γ m1) Qn Qr := by simp only [wr_eq, wo_eq, ws_eq]; exact ws0_if
@[simp ↓, simp] theorem ws_par {i j : Nat} {c1 c2 : EC} : WS (sPar i j c1 c2 Γ m) Qn Qr = WR (c1 Γ m) fun d m1 => WR (c2 Γ m1) fun e m2 => Qn ((Γ.set i d).set j e) m2 := by simp only [wr_eq, wo_eq, ws_eq]; exact ws0_par
@[simp ↓, simp] theorem ws_app {i : Nat} {c : EC} {xs : List D} (h : Γ.getD i .non = .lst xs) : WS (sApp i c Γ m) Qn Qr = WR (c Γ m) fun d m1 => if szOk (xs.length + 1) = true then Qn (Γ.set i (.lst (xs ++ [d]))) m1 else False := by simp only [wr_eq, wo_eq, ws_eq]; exact ws0_app h
@[simp ↓, simp] theorem ws_put {i : Nat} {c ck : EC} : WS (sPut i c ck Γ m) Qn Qr = WR (c Γ m) fun d m1 => WR (ck Γ m1) fun k m2 => match Γ.getD i .non, k with
  | .lst xs, .int j => WO (L2.ixN xs.length j) fun n => Qn (Γ.set i (.lst (xs.set n d))) m2
  | _, _ => False := by simp only [wr_eq, wo_eq, ws_eq]; exact ws0_put
@[simp ↓, simp] theorem ws_putB {i : Nat} {c ck : EC} : WS (sPutB i c ck Γ m) Qn Qr = WR (c Γ m) fun d m1 => WR (ck Γ m1) fun k m2 => match Γ.getD i .non, k with
  | .box n, .int j => WO m2[n]? fun xs => WO (L2.ixN xs.length j) fun l => Qn Γ (m2.set n (xs.set l d))
  | _, _ => False := by simp only [wr_eq, wo_eq, ws_eq]; exact ws0_putB
@[simp ↓, simp] theorem ws_for {ci : IC} {ct : GC} {cb : SC} : WS (sFor ci ct cb Γ m) Qn Qr = WR (ci Γ m) fun ds m1 => WS (loopS ct cb ds Γ m1) Qn Qr := by simp only [wr_eq, wo_eq, ws_eq]; exact ws0_for
@[simp ↓, simp] theorem wr_fnC {n : Nat} {c : SC} {ds : List D} : WR (fnC n c ds m) Q = WS (c (ds ++ List.replicate n .non) m) (fun _ m' => Q .non m') Q := by simp only [wr_eq, wo_eq, ws_eq]; exact wr0_fnC
@[simp ↓, simp] theorem wr_fnF {n : Nat} {c : SC} {ds : List D} : WR (fnF n c ds m) Q = WS (c (ds ++ List.replicate n .non) m) (fun _ _ => False) Q := by simp only [wr_eq, wo_eq, ws_eq]; exact wr0_fnF
theorem ws_loop {ct : GC} {cb : SC} (I : List D → Gam → Mu → Prop) (hs : ∀ d ds Γ m, I (d :: ds) Γ m → WO (ct d Γ) fun Γ1 => WS (cb Γ1 m) (fun Γ2 m2 => I ds Γ2 m2) Qr) (he : ∀ Γ m, I [] Γ m → Qn Γ m) : ∀ (ds : List D) (Γ : Gam) (m : Mu), I ds Γ m → WS (loopS ct cb ds Γ m) Qn Qr := by
  simp only [wo_eq, ws_eq] at hs ⊢
  exact ws0_loop I hs he
theorem wr_lcGo {ct : GC} {tt : TC} {ce : EC} {Γ : Gam} {QL : List D → Mu → Prop} (I : List D → List D → Mu → Prop) (hs : ∀ d ds acc m, I (d :: ds) acc m → WO (ct d Γ) fun Γ1 => WR (tt Γ1 m) fun k m1 => if k = true then WR (ce Γ1 m1) fun y m2 => I ds (acc ++ [y]) m2 else I ds acc m1) :
    ∀ (ds acc : List D) (m : Mu), I ds acc m → (∀ ys m, I [] (acc ++ ys) m → QL ys m) → WR (lcGo ct tt ce Γ ds m) QL := by
  simp only [wo_eq, wr_eq] at hs ⊢
  exact wr0_lcGo I hs
end
end Pv
end
section
set_option linter.all false
set_option maxRecDepth 100000
/-! Pn: the operators' values at data whose kind is known. -/
namespace Pv
open PySem L2
variable {m : Mu} {Q : D → Prop} {i j : Int} {n : Nat} {xs ys : List D} {QB : Bool → Prop} {QL : List D → Prop}
@[simp ↓, simp] theorem wo_add : WO (addD m (.int i) (.int j)) Q = Q (.int (i + j)) := wo_eq.trans (rfl)
@[simp ↓, simp] theorem wo_sub : WO (subD m (.int i) (.int j)) Q = Q (.int (i - j)) := wo_eq.trans (rfl)
theorem wo_if {α : Type} {c : Bool} {a : α} {Q : α → Prop} : WO (if c = true then some a else none) Q = (c = true ∧ Q a) := by rw [wo_eq]; cases c <;> simp [WO0]
@[simp ↓, simp] theorem wo_mul : WO (mulD m (.int i) (.int j)) Q = (mulOk i j = true ∧ Q (.int (i * j))) := wo_if
@[simp ↓, simp] theorem wo_mod : WO (modD m (.int i) (.int j)) Q = (0 < j ∧ Q (.int (i % j))) := by unfold modD; rw [wo_if, decide_eq_true_eq]
@[simp ↓, simp] theorem wo_fdiv : WO (fdivD m (.int i) (.int j)) Q = ((0 < j ∧ j.natAbs.log2 < 9000) ∧ Q (.int (i / j))) := by
  unfold fdivD; rw [wo_if, Bool.and_eq_true, decide_eq_true_eq]
  have : Nat.blt j.natAbs.log2 9000 = true ↔ j.natAbs.log2 < 9000 := by rw [Nat.blt_eq]
  rw [this]
@[simp ↓, simp] theorem wo_pow : WO (powD m (.int i) (.int j)) Q = ((0 ≤ j ∧ (i.natAbs.log2 + 1) * j.toNat ≤ 134217728) ∧ Q (.int (i ^ j.toNat))) := by
  unfold powD; rw [wo_if, Bool.and_eq_true, decide_eq_true_eq, Nat.ble_eq]
@[simp ↓, simp] theorem wo_lt : WO (ltD m (.int i) (.int j)) Q = Q (.bl (decide (i < j))) := wo_eq.trans (rfl)
@[simp ↓, simp] theorem wo_gt : WO (gtD m (.int i) (.int j)) Q = Q (.bl (decide (j < i))) := wo_eq.trans (rfl)
@[simp ↓, simp] theorem wo_le : WO (leD m (.int i) (.int j)) Q = Q (.bl (!decide (j < i))) := wo_eq.trans (rfl)
@[simp ↓, simp] theorem wo_ge : WO (geD m (.int i) (.int j)) Q = Q (.bl (!decide (i < j))) := wo_eq.trans (rfl)
@[simp ↓, simp] theorem wo_eqi : WO (eqD m (.int i) (.int j)) Q = Q (.bl (i == j)) := wo_eq.trans (rfl)
@[simp ↓, simp] theorem wo_nei : WO (neD m (.int i) (.int j)) Q = Q (.bl (!(i == j))) := wo_eq.trans (rfl)
@[simp ↓, simp] theorem wo_eqb {a b : Bool} : WO (eqD m (.bl a) (.bl b)) Q = Q (.bl (a == b)) := wo_eq.trans (rfl)
@[simp ↓, simp] theorem wo_neb {a b : Bool} : WO (neD m (.bl a) (.bl b)) Q = Q (.bl (!(a == b))) := wo_eq.trans (rfl)
@[simp ↓, simp] theorem wo_isn {d : D} : WO (isD m d .non) Q = Q (.bl (isNone d)) := wo_eq.trans (rfl)
@[simp ↓, simp] theorem wo_isnn {d : D} : WO (isnD m d .non) Q = Q (.bl (!isNone d)) := wo_eq.trans (rfl)
@[simp ↓, simp] theorem wo_bl {k : Bool} : WO (asBl (.bl k)) QB = QB k := wo_eq.trans (rfl)
@[simp ↓, simp] theorem wo_asint {Q : Int → Prop} : WO (asInt (.int i)) Q = Q i := wo_eq.trans (rfl)
@[simp ↓, simp] theorem wo_len_l : WO (lenD m (.lst xs)) Q = Q (.int xs.length) := wo_eq.trans (rfl)
@[simp ↓, simp] theorem wo_len_t : WO (lenD m (.tup xs)) Q = Q (.int xs.length) := wo_eq.trans (rfl)
@[simp ↓, simp] theorem wo_len_s {ns : List Int} : WO (lenD m (.scr ns)) Q = Q (.int ns.length) := wo_eq.trans (rfl)
@[simp ↓, simp] theorem wo_abs : WO (absD m (.int i)) Q = Q (.int (if i < 0 then -i else i)) := wo_eq.trans (rfl)
@[simp ↓, simp] theorem wo_int : WO (intD m (.int i)) Q = Q (.int i) := wo_eq.trans (rfl)
@[simp ↓, simp] theorem wo_intb {k : Bool} : WO (intD m (.bl k)) Q = Q (.int (if k then 1 else 0)) := wo_eq.trans (rfl)
@[simp ↓, simp] theorem wo_tru_b {k : Bool} : WO (truD m (.bl k)) QB = QB k := wo_eq.trans (rfl)
@[simp ↓, simp] theorem wo_tru_i : WO (truD m (.int i)) QB = QB (i != 0) := wo_eq.trans (rfl)
@[simp ↓, simp] theorem wo_tru_l : WO (truD m (.lst xs)) QB = QB (!xs.isEmpty) := wo_eq.trans (rfl)
@[simp ↓, simp] theorem wo_tru_t : WO (truD m (.tup xs)) QB = QB (!xs.isEmpty) := wo_eq.trans (rfl)
@[simp ↓, simp] theorem wo_tru_n : WO (truD m .non) QB = QB false := wo_eq.trans (rfl)
@[simp ↓, simp] theorem wo_not_b {k : Bool} : WO (notD m (.bl k)) Q = Q (.bl (!k)) := wo_eq.trans (rfl)
@[simp ↓, simp] theorem wo_list_l : WO (listD m (.lst xs)) Q = Q (.lst xs) := wo_eq.trans (rfl)
@[simp ↓, simp] theorem wo_list_t : WO (listD m (.tup xs)) Q = Q (.lst xs) := wo_eq.trans (rfl)
@[simp ↓, simp] theorem wo_tuple_l : WO (tupleD m (.lst xs)) Q = Q (.tup xs) := wo_eq.trans (rfl)
@[simp ↓, simp] theorem wo_tuple_t : WO (tupleD m (.tup xs)) Q = Q (.tup xs) := wo_eq.trans (rfl)
@[simp ↓, simp] theorem wo_items_l : WO (itemsD m (.lst xs)) QL = QL xs := wo_eq.trans (rfl)
@[simp ↓, simp] theorem wo_items_t : WO (itemsD m (.tup xs)) QL = QL xs := wo_eq.trans (rfl)
@[simp ↓, simp] theorem wo_en : WO (enD (.lst xs)) QL = QL (enumI 0 xs) := wo_eq.trans (rfl)
@[simp ↓, simp] theorem wo_zip_l : WO (zipD [.lst xs, .lst ys]) QL = QL (zipI xs ys) := wo_eq.trans (rfl)
@[simp ↓, simp] theorem wo_zip_t : WO (zipD [.tup xs, .tup ys]) QL = QL (zipI xs ys) := wo_eq.trans (rfl)
@[simp ↓, simp] theorem wo_add_l : WO (addD m (.lst xs) (.lst ys)) Q = (szOk (xs.length + ys.length) = true ∧ Q (.lst (xs ++ ys))) := wo_if
@[simp ↓, simp] theorem wo_add_t : WO (addD m (.tup xs) (.tup ys)) Q = (szOk (xs.length + ys.length) = true ∧ Q (.tup (xs ++ ys))) := wo_if
@[simp ↓, simp] theorem wo_ix_l : WO (ixD m (.lst xs) (.int i)) Q = WO (atI xs i) Q := by simp only [wo_eq]; exact (rfl)
@[simp ↓, simp] theorem wo_ix_t : WO (ixD m (.tup xs) (.int i)) Q = WO (atI xs i) Q := by simp only [wo_eq]; exact (rfl)
@[simp ↓, simp] theorem wo_ix_b : WO (ixD m (.box n) (.int i)) Q = WO m[n]? fun xs => WO (atI xs i) Q := by
  simp only [wo_eq]; show WO0 ((m[n]?).bind _) Q = _
  cases m[n]? <;> rfl
@[simp ↓, simp] theorem wo_sl_l {a b : Option Int} : WO (slD m (.lst xs) a b) Q = Q (.lst (cutG xs a b)) := wo_eq.trans (rfl)
@[simp ↓, simp] theorem wo_sl_t {a b : Option Int} : WO (slD m (.tup xs) a b) Q = Q (.tup (cutG xs a b)) := wo_eq.trans (rfl)
@[simp ↓, simp] theorem wo_sl_s {a b : Option Int} {ns : List Int} : WO (slD m (.scr ns) a b) Q = Q (.lst ((cutG ns a b).map .int)) := wo_eq.trans (rfl)
@[simp ↓, simp] theorem wo_gn {Γ : Gam} {d : D} {a : Nat} {Q : Gam → Prop} : WO (gN a d Γ) Q = Q (Γ.set a d) := wo_eq.trans (rfl)
theorem mulOk_l (h : -18446744073709551616 < i) (h' : i < 18446744073709551616) : mulOk i j = true := by unfold mulOk; rw [decide_eq_true (show _ ∧ _ from ⟨h, h'⟩)]; rfl
theorem mulOk_r (h : -18446744073709551616 < j) (h' : j < 18446744073709551616) : mulOk i j = true := by unfold mulOk; rw [decide_eq_true (p := -(18446744073709551616) < j ∧ j < 18446744073709551616) ⟨h, h'⟩, Bool.or_true]; rfl
theorem szOk_of {n : Nat} (h : n ≤ 16777216) : szOk n = true := Nat.ble_eq_true_of_le h
theorem atI_nat {α : Type} {xs : List α} {i : Int} (h : 0 ≤ i) (h' : i < xs.length) : ∃ a, atI xs i = some a ∧ a ∈ xs ∧ xs[i.toNat]? = some a := by
  have hl : i.toNat < xs.length := by omega
  refine ⟨xs[i.toNat], ?_, List.getElem_mem hl, List.getElem?_eq_getElem hl⟩
  unfold atI ixN; rw [if_pos h, if_pos h']; exact List.getElem?_eq_getElem hl
theorem log2_lt {k : Int} (h : 0 ≤ k) (h' : k ≤ 1000000000000000000000000000000000000000000000000000000000000) : k.natAbs.log2 < 9000 := by
  by_cases hz : k.natAbs = 0
  · rw [hz]; decide
  · rw [Nat.log2_lt hz]
    have : k.natAbs ≤ 1000000000000000000000000000000000000000000000000000000000000 := by omega
    exact Nat.lt_of_le_of_lt this (by decide +kernel)
/-- the box of draws: n is its name, t the draws that are left -/
def Bx (t n : Nat) (m : Mu) : Prop := ∃ a b c : Int, m[n]? = some [.int a, .int b, .int c] ∧ 0 ≤ a ∧ 0 ≤ b ∧ 0 ≤ c ∧ c + t ≤ 9223372036854775808
theorem Bx.mono {t u n : Nat} {m : Mu} (h : Bx t n m) (hu : u ≤ t) : Bx u n m := by
  obtain ⟨a, b, c, h1, h2, h3, h4, h5⟩ := h
  exact ⟨a, b, c, h1, h2, h3, h4, by omega⟩
end Pv
end
section
set_option linter.all false
set_option maxRecDepth 100000
/-! Pq: more equations, and rules for comprehensions and loops over rows of things. -/
namespace Pv
open PySem L2
section
variable {α β : Type} {Γ : Gam} {m : Mu} {Q : D → Mu → Prop} {QL : List D → Mu → Prop} {QB : Bool → Mu → Prop} {Qn : Gam → Mu → Prop} {Qr : D → Mu → Prop} {QO : D → Prop}
@[simp ↓, simp] theorem wr_all_nil : WR (cAll [] Γ m) QL = QL [] m := wr_anil
@[simp ↓, simp] theorem wr_all_cons {b : Bool} {c : EC} {r : List (Bool × EC)} : WR (cAll ((b, c) :: r) Γ m) QL = WR (c Γ m) fun d m1 => WR (cAll r Γ m1) fun ds m2 => QL (d :: ds) m2 := wr_acons
@[simp ↓, simp] theorem ws_parN {is : List Nat} {cs : Gam → Mu → R (List D)} : WS (sParN is cs Γ m) Qn Qr = WR (cs Γ m) fun ds m1 => Qn (setAll Γ is ds) m1 := by unfold sParN; rw [ws_toSL]; simp only [ws_nx]
@[simp ↓, simp] theorem setAll_cons {i : Nat} {is : List Nat} {d : D} {ds : List D} : setAll Γ (i :: is) (d :: ds) = setAll (Γ.set i d) is ds := (rfl)
@[simp ↓, simp] theorem setAll_nil : setAll Γ [] [] = Γ := (rfl)
@[simp ↓, simp] theorem ws_asg {c : EC} {ct : GC} : WS (sAsg c ct Γ m) Qn Qr = WR (c Γ m) fun d m1 => WO (ct d Γ) fun Γ1 => Qn Γ1 m1 := by
  unfold sAsg; rw [ws_toS]; congr; funext d m1; cases ct d Γ <;> simp
@[simp ↓, simp] theorem wr_rgL {cs : Gam → Mu → R (List D)} : WR (cRg false cs Γ m) Q = WR (cs Γ m) fun ds m1 => WO (rg2 ds) fun xs => if szOk xs.length = true then Q (.lst xs) m1 else False := by
  unfold cRg; rw [wr_bind, wr_irg]; congr; funext d m1; congr; funext xs; rw [wr_ite]; simp
@[simp ↓, simp] theorem wr_rgT {cs : Gam → Mu → R (List D)} : WR (cRg true cs Γ m) Q = WR (cs Γ m) fun ds m1 => WO (rg2 ds) fun xs => if szOk xs.length = true then Q (.tup xs) m1 else False := by
  unfold cRg; rw [wr_bind, wr_irg]; congr; funext d m1; congr; funext xs; rw [wr_ite]; simp
@[simp ↓, simp] theorem wo_sort {xs : List D} : WO (sortD m (.lst xs)) QO = (sortOk xs = true ∧ QO (.lst (isort xs))) := wo_if
@[simp ↓, simp] theorem wo_gT {ds : List D} {n : Nat} {u : GCs} {Q : Gam → Prop} : WO (gT n u (.tup ds) Γ) Q = (ds.length = n ∧ WO (u ds Γ) Q) := by
  unfold gT; by_cases h : ds.length = n <;> simp [h]
@[simp ↓, simp] theorem wo_gTl {ds : List D} {n : Nat} {u : GCs} {Q : Gam → Prop} : WO (gT n u (.lst ds) Γ) Q = (ds.length = n ∧ WO (u ds Γ) Q) := by
  unfold gT; by_cases h : ds.length = n <;> simp [h]
@[simp ↓, simp] theorem wo_gsNil {Q : Gam → Prop} : WO (gsNil [] Γ) Q = Q Γ := wo_some
@[simp ↓, simp] theorem wo_gsCons {t : GC} {u : GCs} {d : D} {r : List D} {Q : Gam → Prop} : WO (gsCons t u (d :: r) Γ) Q = WO (t d Γ) fun Γ1 => WO (u r Γ1) Q := by
  show WO ((t d Γ).bind fun Γ' => u r Γ') Q = _
  cases t d Γ <;> simp
theorem WR.eq {r : R α} {a : α} (h : WR r fun d m' => d = a ∧ m' = m) : r = .ok a m := by
  obtain ⟨d, m', e, rfl, rfl⟩ := h.get; exact e
/-- two rows of the same length, place by place -/
inductive All2 (P : α → β → Prop) : List α → List β → Prop
  | nil : All2 P [] []
  | cons {a : α} {b : β} {as : List α} {bs : List β} : P a b → All2 P as bs → All2 P (a :: as) (b :: bs)
theorem All2.len {P : α → β → Prop} : ∀ {as : List α} {bs : List β}, All2 P as bs → as.length = bs.length
  | _, _, .nil => rfl
  | _, _, .cons _ h => by simp [h.len]
theorem All2.map {P : α → β → Prop} {f : β → α} (h : ∀ b, P (f b) b) : ∀ bs : List β, All2 P (bs.map f) bs
  | [] => .nil
  | b :: bs => .cons (h b) (All2.map h bs)
theorem All2.mapM {P : α → β → Prop} {f : β → α} : ∀ {bs : List β}, (∀ b ∈ bs, P (f b) b) → All2 P (bs.map f) bs
  | [], _ => .nil
  | b :: bs, h => .cons (h b List.mem_cons_self) (All2.mapM fun c hc => h c (List.mem_cons_of_mem _ hc))
theorem All2.imp {P P' : α → β → Prop} (h : ∀ a b, P a b → P' a b) : ∀ {as : List α} {bs : List β}, All2 P as bs → All2 P' as bs
  | _, _, .nil => .nil
  | _, _, .cons a r => .cons (h _ _ a) (r.imp h)
theorem All2.app {P : α → β → Prop} : ∀ {as cs : List α} {bs ds : List β}, All2 P as bs → All2 P cs ds → All2 P (as ++ cs) (bs ++ ds)
  | _, _, _, _, .nil, h => h
  | _, _, _, _, .cons a r, h => .cons a (r.app h)
/-- a comprehension over a row that stands for xs: those with p, each by f; nothing is drawn -/
theorem wr_lcR {P : D → α → Prop} {ct : GC} {tt : TC} {ce : EC} (p : α → Bool) (f : α → D) : ∀ {ds : List D} {xs : List α} (h : All2 P ds xs)
    (hs : ∀ d, ∀ x ∈ xs, P d x → WO (ct d Γ) fun Γ1 => WR (tt Γ1 m) fun k m1 => (m1 = m ∧ k = p x) ∧ (p x = true → WR (ce Γ1 m) fun y m2 => m2 = m ∧ y = f x)), lcGo ct tt ce Γ ds m = .ok ((xs.filter p).map f) m
  | _, _, .nil, _ => rfl
  | d :: ds, x :: xs, .cons hp r, hs => by
    have z := hs d x List.mem_cons_self hp
    have ih := wr_lcR p f r fun d' x' hx => hs d' x' (List.mem_cons_of_mem _ hx)
    cases hc : ct d Γ with
    | none => rw [hc, wo_none] at z; exact z.elim
    | some Γ1 =>
      rw [hc, wo_some] at z
      obtain ⟨k, m1, ek, ⟨rfl, rfl⟩, hz⟩ := z.get
      unfold lcGo
      rw [hc]
      simp only [ek]
      show R.bind (R.ok (p x) m1) _ = _
      show (if p x = true then _ else _) = _
      cases hpx : p x
      · rw [if_neg (by decide), List.filter_cons_of_neg (by rw [hpx]; decide)]; exact ih
      · obtain ⟨y, m2, ey, rfl, rfl⟩ := (hz hpx).get
        rw [if_pos rfl, List.filter_cons_of_pos hpx, ey]
        show R.bind (lcGo ct tt ce Γ ds m2) _ = _
        rw [ih]; rfl
/-- the same without a test -/
theorem wr_lcM {P : D → α → Prop} {ct : GC} {ce : EC} (f : α → D) {ds : List D} {xs : List α} (h : All2 P ds xs)
    (hs : ∀ d, ∀ x ∈ xs, P d x → WO (ct d Γ) fun Γ1 => WR (ce Γ1 m) fun y m2 => m2 = m ∧ y = f x) : lcGo ct (fun _ m => .ok true m) ce Γ ds m = .ok (xs.map f) m := by
  have := wr_lcR (m := m) (Γ := Γ) (ct := ct) (tt := fun _ m => .ok true m) (ce := ce) (fun _ => true) f h fun d x hx hp => (hs d x hx hp).mono fun Γ1 h => by rw [wr_ok]; exact ⟨⟨rfl, rfl⟩, fun _ => h⟩
  rwa [List.filter_eq_self.mpr fun _ _ => rfl] at this
/-- a loop over a row that stands for xs, by an invariant over what is done -/
theorem ws_loopR {P : D → α → Prop} {ct : GC} {cb : SC} (I : List α → Gam → Mu → Prop) {ds : List D} {xs : List α} (h : All2 P ds xs)
    (hs : ∀ l x r d, xs = l ++ x :: r → P d x → ∀ Γ m, I l Γ m → WO (ct d Γ) fun Γ1 => WS (cb Γ1 m) (fun Γ2 m2 => I (l ++ [x]) Γ2 m2) Qr) (he : ∀ Γ m, I xs Γ m → Qn Γ m) (h0 : I [] Γ m) : WS (loopS ct cb ds Γ m) Qn Qr := by
  refine ws_loop (fun ds Γ m => ∃ l r, xs = l ++ r ∧ All2 P ds r ∧ I l Γ m) ?_ ?_ ds Γ m ⟨[], xs, rfl, h, h0⟩
  · rintro d ds Γ m ⟨l, r, hx, ha, hi⟩
    cases ha with
    | cons hp ha =>
      refine (hs l _ _ d hx hp Γ m hi).mono fun Γ1 h1 => h1.mono (fun Γ2 m2 h2 => ⟨_, _, ?_, ha, h2⟩) fun _ _ h => h
      rw [hx]; simp
  · rintro Γ m ⟨l, r, hx, ha, hi⟩
    cases ha
    rw [List.append_nil] at hx
    rw [hx] at he
    exact he Γ m hi
end
end Pv
end
section
set_option linter.all false
set_option maxRecDepth 100000
/-! Pr: equations for dicts, sets, pop, extend, while, two clauses. -/
namespace Pv
open PySem
section
variable {α β : Type} {Γ : Gam} {m : Mu} {Q : D → Mu → Prop} {QL : List D → Mu → Prop} {QB : Bool → Mu → Prop} {Qn : Gam → Mu → Prop} {Qr : D → Mu → Prop} {QO : D → Prop}
@[simp ↓, simp] theorem ws_pop {i j : Nat} {xs : List D} (h : Γ.getD i .non = .lst xs) : WS (sPop i j Γ m) Qn Qr = WO (xs[xs.length - 1]?) fun d => Qn ((Γ.set i (.lst xs.dropLast)).set j d) m := by
  unfold sPop; rw [h]; show WS (match xs[xs.length - 1]? with | some d => .nx ((Γ.set i (.lst xs.dropLast)).set j d) m | none => .bad) Qn Qr = _
  cases xs[xs.length - 1]? <;> simp
@[simp ↓, simp] theorem ws_popAt {i j k : Nat} {xs : List D} (h : Γ.getD i .non = .lst xs) : WS (sPopAt i j k Γ m) Qn Qr = WO (xs[k]?) fun d => Qn ((Γ.set i (.lst (xs.eraseIdx k))).set j d) m := by
  unfold sPopAt; rw [h]; show WS (match xs[k]? with | some d => .nx ((Γ.set i (.lst (xs.eraseIdx k))).set j d) m | none => .bad) Qn Qr = _
  cases xs[k]? <;> simp
@[simp ↓, simp] theorem ws_ext {i : Nat} {c : EC} {xs : List D} (h : Γ.getD i .non = .lst xs) : WS (sExt i c Γ m) Qn Qr = WR (c Γ m) fun d m1 => match d with
  | .lst ys => szOk (xs.length + ys.length) = true ∧ Qn (Γ.set i (.lst (xs ++ ys))) m1
  | _ => False := by
  unfold sExt; rw [h]; show WS (toS _ _ _) _ _ = _
  rw [ws_toS]; congr; funext d m1
  cases d <;> simp
@[simp ↓, simp] theorem ws_putD {i : Nat} {c ck : EC} {t : Bool} {kvs : List (D × D)} (h : Γ.getD i .non = .dct t kvs) : WS (sPutD i c ck Γ m) Qn Qr = WR (c Γ m) fun d m1 => WR (ck Γ m1) fun k m2 => (keyOk t k = true ∧ szOk (kvs.length + 1) = true) ∧ Qn (Γ.set i (.dct t (putD kvs k d))) m2 := by
  unfold sPutD; rw [h]; rw [ws_toS]; congr; funext d m1; rw [ws_toS]; congr; funext k m2
  show WS (if keyOk t k && szOk (kvs.length + 1) then _ else _) _ _ = _
  rw [ws_ite, ws_nx, ws_bad]
  by_cases z : (keyOk t k && szOk (kvs.length + 1)) = true
  · rw [if_pos z, eq_iff_iff]; rw [Bool.and_eq_true] at z; exact ⟨fun q => ⟨z, q⟩, fun q => q.2⟩
  · rw [if_neg z, eq_iff_iff]; rw [Bool.and_eq_true] at z; exact ⟨False.elim, fun q => z q.1⟩
@[simp ↓, simp] theorem wr_dnew {t : Bool} : WR (cDNew t Γ m) Q = Q (.dct t []) m := by unfold cDNew; rw [wr_ok]
@[simp ↓, simp] theorem wo_dix {t : Bool} {kvs : List (D × D)} {k : D} : WO (dixD m (.dct t kvs) k) QO = (keyOk t k = true ∧ WO (dfind kvs k) QO) := by
  unfold dixD; rw [wo_ite, wo_none]
  by_cases z : keyOk t k = true
  · rw [if_pos z, eq_iff_iff]; exact ⟨fun q => ⟨z, q⟩, fun q => q.2⟩
  · rw [if_neg z, eq_iff_iff]; exact ⟨False.elim, fun q => z q.1⟩
@[simp ↓, simp] theorem wo_din {t : Bool} {kvs : List (D × D)} {k : D} : WO (dinD m k (.dct t kvs)) QO = (keyOk t k = true ∧ QO (.bl (dfind kvs k).isSome)) := wo_if
@[simp ↓, simp] theorem wo_dnin {t : Bool} {kvs : List (D × D)} {k : D} : WO (dninD m k (.dct t kvs)) QO = (keyOk t k = true ∧ QO (.bl (!(dfind kvs k).isSome))) := wo_if
@[simp ↓, simp] theorem wo_dget {t : Bool} {kvs : List (D × D)} {k : D} : WO (dgetD m (.dct t kvs) k) QO = (keyOk t k = true ∧ QO ((dfind kvs k).getD .non)) := wo_if
@[simp ↓, simp] theorem wr_get {ca cb : EC} : WR (cGet ca cb Γ m) Q = WR (ca Γ m) fun d m1 => match d with
  | .dct t kvs => WR (cb Γ m1) fun e m2 => keyOk t e = true ∧ Q ((dfind kvs e).getD .non) m2
  | _ => False := by
  unfold cGet; rw [wr_bind]; congr; funext d m1
  cases d <;> simp only [wr_bad]
  rename_i t kvs
  rw [wr_bind]; congr; funext e m2; rw [wr_of, wo_dget]
@[simp ↓, simp] theorem wr_get2 {ca cb cc : EC} : WR (cGet2 ca cb cc Γ m) Q = WR (ca Γ m) fun d m1 => match d with
  | .dct t kvs => WR (cb Γ m1) fun e m2 => WR (cc Γ m2) fun z m3 => keyOk t e = true ∧ Q ((dfind kvs e).getD z) m3
  | _ => False := by
  unfold cGet2; rw [wr_bind]; congr; funext d m1
  cases d <;> simp only [wr_bad]
  rename_i t kvs
  rw [wr_bind]; congr; funext e m2; rw [wr_bind]; congr; funext z m3; rw [wr_ite, wr_ok, wr_bad]
  by_cases z : keyOk t e = true
  · rw [if_pos z, eq_iff_iff]; exact ⟨fun q => ⟨z, q⟩, fun q => q.2⟩
  · rw [if_neg z, eq_iff_iff]; exact ⟨False.elim, fun q => z q.1⟩
@[simp ↓, simp] theorem wr_tchain {g g' : Mu → D → D → Option D} {ca cb cc : EC} : WR (tChainC g g' ca cb cc Γ m) QB = WR (cChain g g' ca cb cc Γ m) fun d m1 => WO (asBl d) fun k => QB k m1 := by
  unfold tChainC; rw [wr_bind]; congr; funext d m1; rw [wr_of]
theorem ite_false_and {p : Bool} {q : Prop} : (if p = true then q else False) = (p = true ∧ q) := by cases p <;> simp
@[simp ↓, simp] theorem wr_mrg {ca cb : EC} : WR (cMrg ca cb Γ m) Q = WR (ca Γ m) fun d m1 => match d with
  | .dct false xs => Nat.ble xs.length 100000 = true ∧ WR (cb Γ m1) fun e m2 => match e with
    | .dct false ys => Nat.ble ys.length 100000 = true ∧ Q (.dct false (mergeD (mergeD [] xs) ys)) m2
    | _ => False
  | _ => False := by
  unfold cMrg; rw [wr_bind]; congr; funext d m1
  cases d <;> try simp only [wr_bad]
  rename_i t xs
  cases t <;> try simp only [wr_bad]
  rw [wr_ite, wr_bad, ite_false_and, wr_bind]; congr; funext e m2
  cases e <;> try simp only [wr_bad]
  rename_i t ys
  cases t <;> try simp only [wr_bad]
  rw [wr_ite, wr_bad, ite_false_and, wr_ok]
@[simp ↓, simp] theorem wr_disp1 {ca cb : EC} : WR (cDisp1 ca cb Γ m) Q = WR (ca Γ m) fun d m1 => WR (cb Γ m1) fun e m2 => (keyD d).isSome = true ∧ Q (.dct false [(d, e)]) m2 := by
  unfold cDisp1; rw [wr_bind]; congr; funext d m1; rw [wr_bind]; congr; funext e m2; rw [wr_ite, wr_bad, ite_false_and, wr_ok]
@[simp ↓, simp] theorem wo_listd {kvs : List (D × D)} : WO (listdD m (.dct false kvs)) QO = (szOk kvs.length = true ∧ QO (.lst (kvs.map (·.1)))) := wo_if
@[simp ↓, simp] theorem wo_sset {xs : List D} : WO (ssetD m (.lst xs)) QO = (setOk xs = true ∧ QO (.lst (isort (nubD xs)))) := wo_if
@[simp ↓, simp] theorem wo_lset {xs : List D} : WO (lsetD m (.lst xs)) QO = (setOk xs = true ∧ QO (.int (nubD xs).length)) := wo_if
@[simp ↓, simp] theorem wo_lsetT {xs : List D} : WO (lsetD m (.tup xs)) QO = (setOk xs = true ∧ QO (.int (nubD xs).length)) := wo_if
@[simp ↓, simp] theorem wo_min2 {d e : D} : WO (min2D m d e) QO = ((ltOk d e && ltOk e d) = true ∧ QO (if e.lt d then e else d)) := wo_if
@[simp ↓, simp] theorem wr_zpN {c : Gam → Mu → R (List D)} : WR (iZpN c Γ m) QL = WR (c Γ m) fun ds m1 => WO (zipND ds) fun xs => QL xs m1 := by unfold iZpN; rw [wr_bind]; congr; funext d m1; rw [wr_of]
@[simp ↓, simp] theorem wo_zipN {xs ys : List D} {QX : List D → Prop} : WO (zipND [.tup xs, .tup ys]) QX = QX (zipI xs ys) := wo_some
@[simp ↓, simp] theorem wr_chain {g g' : Mu → D → D → Option D} {ca cb cc : EC} : WR (cChain g g' ca cb cc Γ m) Q = WR (ca Γ m) fun d m1 => WR (cb Γ m1) fun e m2 => WO (g m2 d e) fun z => match z with
  | .bl true => WR (cc Γ m2) fun e' m3 => WO (g' m3 e e') fun z => Q z m3
  | .bl false => Q (.bl false) m2
  | _ => False := by
  unfold cChain; rw [wr_bind]; congr; funext d m1; rw [wr_bind]; congr; funext e m2; rw [wr_bind, wr_of]; congr; funext z
  cases z <;> try simp only [wr_bad]
  rename_i k
  cases k
  · exact wr_ok
  · show WR (R.bind _ _) _ = _; rw [wr_bind]; congr; funext e' m3; rw [wr_of]
@[simp ↓, simp] theorem wr_lc2 {ci ci1 : IC} {ct ct1 : GC} {tt tt1 : TC} {ce : EC} : WR (cLc2 ci ct tt ci1 ct1 tt1 ce Γ m) Q = WR (ci Γ m) fun ds m1 => WR (lc2Go ct tt ci1 ct1 tt1 ce Γ ds m1) fun ys m2 => szOk ys.length = true ∧ Q (.lst ys) m2 := by
  unfold cLc2; rw [wr_bind]; congr; funext ds m1
  show WR (match lc2Go ct tt ci1 ct1 tt1 ce Γ ds m1 with | .ok ys m2 => if szOk ys.length then .ok (.lst ys) m2 else .bad | _ => .bad) Q = _
  cases lc2Go ct tt ci1 ct1 tt1 ce Γ ds m1 with
  | bad => simp
  | exc c fs m' => simp [wr_eq, WR0]
  | ok ys m2 => simp only [wr_ite, wr_ok, wr_bad, ite_false_and]
/-- a while by a measure -/
theorem ws_while {t : TC} {cb : SC} (I : Nat → Gam → Mu → Prop) (hs : ∀ k Γ m, I k Γ m → WR (t Γ m) fun b m1 => if b = true then WS (cb Γ m1) (fun Γ2 m2 => ∃ k', k' < k ∧ I k' Γ2 m2) Qr else Qn Γ m1) : ∀ (n k : Nat) (Γ : Gam) (m : Mu), k < n → I k Γ m → WS (sWhile n t cb Γ m) Qn Qr
  | 0, k, Γ, m, h, _ => absurd h (Nat.not_lt_zero _)
  | n + 1, k, Γ, m, h, hi => by
    show WS (toSB (t Γ m) Γ fun k m1 => if k then (match cb Γ m1 with
      | .nx Γ2 m2 => whileS t cb n Γ2 m2
      | r => r) else .nx Γ m1) Qn Qr
    rw [ws_toSB]
    refine (hs k Γ m hi).mono fun b m1 hb => ?_
    cases b with
    | false => simpa using hb
    | true =>
      simp only [if_true] at hb ⊢
      have hb := hb.go
      cases hc : cb Γ m1 with
      | nx Γ2 m2 =>
        rw [hc] at hb
        obtain ⟨k', hk, hi'⟩ := (show ∃ k', k' < k ∧ I k' Γ2 m2 from hb)
        exact ws_while I hs n k' Γ2 m2 (by omega) hi'
      | rt d m' => rw [hc] at hb; exact ⟨hb⟩
      | exc c fs Γ' m' => rw [hc] at hb; exact hb.elim
      | bad => rw [hc] at hb; exact hb.elim
end
end Pv
end
section
set_option linter.all false
set_option maxRecDepth 100000
/-! Rt: nets and routes, in plain lists. -/
namespace Rt
open Pv
abbrev Ln := Int × Int
/-- s goes on from row: line by line, to houses that are new and not in b -/
def Val (ls : List Ln) (b : List Int) : List Int → List Int → Prop
  | _, [] => True
  | row, h :: s => (∃ l, row.getLast? = some l ∧ (l, h) ∈ ls) ∧ h ∉ row ∧ h ∉ b ∧ Val ls b (row ++ [h]) s
structure Good (n : Int) (ls : List Ln) : Prop where
  two : 2 ≤ n
  nd : ls.Nodup
  rg : ∀ p ∈ ls, 0 ≤ p.1 ∧ p.1 < n ∧ 0 ≤ p.2 ∧ p.2 < n ∧ p.1 ≠ p.2
section
variable {ls : List Ln} {b : List Int} {n e : Int}
theorem Val.nodup : ∀ {row s : List Int}, row.Nodup → Val ls b row s → (row ++ s).Nodup
  | row, [], h, _ => by simpa using h
  | row, x :: s, h, v => by
    have := Val.nodup (row := row ++ [x]) (List.nodup_append.mpr ⟨h, by simp, fun a ha c hc e => by simp at hc; subst hc; exact v.2.1 (e ▸ ha)⟩) v.2.2.2
    simpa using this
theorem Val.rg (g : Good n ls) : ∀ {row s : List Int}, Val ls b row s → ∀ h ∈ s, 0 ≤ h ∧ h < n
  | row, [], _, h, hh => by cases hh
  | row, x :: s, v, h, hh => by
    rcases List.mem_cons.mp hh with rfl | hh
    · obtain ⟨l, _, hl⟩ := v.1
      exact ⟨(g.rg _ hl).2.2.1, (g.rg _ hl).2.2.2.1⟩
    · exact Val.rg g v.2.2.2 h hh
theorem Val.app : ∀ {row s t : List Int}, Val ls b row (s ++ t) ↔ Val ls b row s ∧ Val ls b (row ++ s) t
  | row, [], t => by simp [Val]
  | row, x :: s, t => by
    simp only [List.cons_append, Val]
    rw [Val.app]
    simp [and_assoc]
/-- numbers of 0 .. n - 1, each once, are at most n -/
theorem len_one (a : Int) : ∀ {xs : List Int}, xs.Nodup → (xs.filter fun x => decide (x = a)).length ≤ 1
  | [], _ => Nat.zero_le _
  | x :: xs, nd => by
    obtain ⟨h1, h2⟩ := List.nodup_cons.mp nd
    by_cases h : x = a
    · subst h
      have : xs.filter (fun y => decide (y = x)) = [] := List.filter_eq_nil_iff.mpr fun y hy q => h1 (by simp at q; exact q ▸ hy)
      rw [List.filter_cons_of_pos (by simp), this]; simp
    · rw [List.filter_cons_of_neg (by simpa using h)]; exact len_one a h2
theorem len_split {α : Type} (p : α → Bool) : ∀ xs : List α, xs.length = (xs.filter p).length + (xs.filter fun x => !p x).length
  | [] => rfl
  | x :: xs => by
    have := len_split p xs
    cases h : p x <;> simp [List.filter_cons, h] <;> omega
theorem len_le : ∀ {n : Nat} {xs : List Int}, xs.Nodup → (∀ x ∈ xs, 0 ≤ x ∧ x < n) → xs.length ≤ n
  | 0, xs, nd, h => by
    cases xs with
    | nil => exact Nat.le_refl _
    | cons x xs => have := h x List.mem_cons_self; omega
  | n + 1, xs, nd, h => by
    have h1 := len_one n nd
    have h2 := len_le (n := n) (xs := xs.filter fun x => !decide (x = n)) (nd.filter _) (fun x hx => by
      simp at hx
      have := h x hx.1
      omega)
    have h3 := len_split (fun x => decide (x = (n : Int))) xs
    omega
/-- the houses to which one may go on -/
def ext (ls : List Ln) (b row : List Int) : List Int := (ls.filter fun p => decide (row.getLast? = some p.1) && !row.contains p.2 && !b.contains p.2).map (·.2)
theorem mem_ext {row : List Int} {h : Int} : h ∈ ext ls b row ↔ (∃ l, row.getLast? = some l ∧ (l, h) ∈ ls) ∧ h ∉ row ∧ h ∉ b := by
  unfold ext
  simp only [List.mem_map, List.mem_filter, Bool.and_eq_true, decide_eq_true_eq, Bool.not_eq_true', List.contains_eq_mem, decide_eq_false_iff_not]
  constructor
  · rintro ⟨p, ⟨hp, ⟨h1, h2⟩, h3⟩, rfl⟩
    exact ⟨⟨p.1, h1, hp⟩, h2, h3⟩
  · rintro ⟨⟨l, h1, h2⟩, h3, h4⟩
    exact ⟨(l, h), ⟨h2, ⟨h1, h3⟩, h4⟩, rfl⟩
theorem nodup_ext (nd : ls.Nodup) (row : List Int) : (ext ls b row).Nodup := by
  unfold ext
  refine List.pairwise_map.mpr ?_
  refine List.Pairwise.imp_of_mem ?_ (List.Pairwise.filter _ nd)
  intro p q hp hq hne e
  simp only [List.mem_filter, Bool.and_eq_true, decide_eq_true_eq] at hp hq
  have : p.1 = q.1 := by
    have := hp.2.1.1.symm.trans hq.2.1.1
    exact Option.some.inj this
  exact hne (Prod.ext this e)
/-- all ways on to e -/
def dfs (ls : List Ln) (b : List Int) (e : Int) : Nat → List Int → List (List Int)
  | 0, row => if row.getLast? = some e then [row] else []
  | k + 1, row => if row.getLast? = some e then [row] else (ext ls b row).flatMap fun h => dfs ls b e k (row ++ [h])
theorem mem_dfs : ∀ {k : Nat} {row r : List Int}, r ∈ dfs ls b e k row ↔ ∃ s, s.length ≤ k ∧ r = row ++ s ∧ Val ls b row s ∧ r.getLast? = some e
  | 0, row, r => by
    unfold dfs
    split
    · rename_i h
      simp only [List.mem_singleton]
      constructor
      · rintro rfl; exact ⟨[], Nat.le_refl _, by simp, trivial, h⟩
      · rintro ⟨s, h1, h2, _, _⟩
        have : s = [] := List.length_eq_zero_iff.mp (Nat.le_zero.mp h1)
        subst this; simpa using h2
    · rename_i h
      simp only [List.not_mem_nil, false_iff]
      rintro ⟨s, h1, h2, _, h4⟩
      have : s = [] := List.length_eq_zero_iff.mp (Nat.le_zero.mp h1)
      subst this
      rw [h2, List.append_nil] at h4; exact h h4
  | k + 1, row, r => by
    unfold dfs
    split
    · rename_i h
      simp only [List.mem_singleton]
      constructor
      · rintro rfl; exact ⟨[], Nat.zero_le _, by simp, trivial, h⟩
      · rintro ⟨s, h1, h2, h3, h4⟩
        cases s with
        | nil => simpa using h2
        | cons x s =>
          exfalso
          -- e stands in row, and again at the end
          have he : e ∈ row := List.mem_of_getLast? h
          have : e ∈ x :: s := by
            rw [h2, List.getLast?_append] at h4
            cases hq : (x :: s).getLast? with
            | none => simp at hq
            | some z => rw [hq] at h4; simp at h4; subst h4; exact List.mem_of_getLast? hq
          have fresh : ∀ {row s : List Int}, Val ls b row s → ∀ z ∈ s, z ∉ row := by
            intro row s
            induction s generalizing row with
            | nil => intro _ z hz; cases hz
            | cons y s ih =>
              intro v z hz
              rcases List.mem_cons.mp hz with rfl | hz
              · exact v.2.1
              · exact fun q => ih v.2.2.2 z hz (List.mem_append_left _ q)
          exact fresh h3 e this he
    · rename_i h
      simp only [List.mem_flatMap]
      constructor
      · rintro ⟨x, hx, hr⟩
        obtain ⟨s, h1, h2, h3, h4⟩ := mem_dfs.mp hr
        obtain ⟨q1, q2, q3⟩ := mem_ext.mp hx
        exact ⟨x :: s, by simp; omega, by simpa using h2, ⟨q1, q2, q3, h3⟩, h4⟩
      · rintro ⟨s, h1, h2, h3, h4⟩
        cases s with
        | nil => rw [h2, List.append_nil] at h4; exact absurd h4 h
        | cons x s =>
          refine ⟨x, mem_ext.mpr ⟨h3.1, h3.2.1, h3.2.2.1⟩, mem_dfs.mpr ⟨s, by simp at h1; omega, by simpa using h2, h3.2.2.2, h4⟩⟩
theorem dfs_pre : ∀ {k : Nat} {row r : List Int}, r ∈ dfs ls b e k row → row <+: r := fun h => by
  obtain ⟨s, _, h2, _⟩ := mem_dfs.mp h
  exact ⟨s, h2.symm⟩
theorem nodup_dfs (nd : ls.Nodup) : ∀ (k : Nat) (row : List Int), (dfs ls b e k row).Nodup
  | 0, row => by unfold dfs; split <;> simp
  | k + 1, row => by
    unfold dfs
    split
    · simp
    · unfold List.Nodup
      rw [List.pairwise_flatMap]
      refine ⟨fun x _ => nodup_dfs nd k _, ?_⟩
      refine List.Pairwise.imp ?_ (nodup_ext (b := b) nd row)
      intro x y hne r hx r' hy er
      subst er
      obtain ⟨s, e1⟩ := dfs_pre hx
      obtain ⟨t, e2⟩ := dfs_pre hy
      have := e1.trans e2.symm
      rw [List.append_assoc, List.append_assoc] at this
      have := List.append_cancel_left this
      simp at this
      exact hne this.1
/-- a route past b: 0, then line by line new houses, to the last one -/
def Rte (ls : List Ln) (b : List Int) (e : Int) (r : List Int) : Prop := ∃ s, r = [0] ++ s ∧ Val ls b [0] s ∧ r.getLast? = some e
theorem Rte.len (g : Good n ls) {s : List Int} (v : Val ls b [0] s) : (s.length : Int) + 1 ≤ n := by
  have nd := Val.nodup (by simp) v
  have := len_le (n := n.toNat) nd (fun x hx => by
    have := g.two
    rcases List.mem_append.mp hx with h | h
    · simp at h; subst h; omega
    · have := Val.rg g v x h; omega)
  have := g.two
  simp only [List.length_append, List.length_cons, List.length_nil] at *
  omega
theorem mem_rts (g : Good n ls) {r : List Int} : r ∈ dfs ls b e n.toNat [0] ↔ Rte ls b e r := by
  rw [mem_dfs]
  constructor
  · rintro ⟨s, _, h2, h3, h4⟩; exact ⟨s, h2, h3, h4⟩
  · rintro ⟨s, h2, h3, h4⟩
    have := Rte.len g h3
    exact ⟨s, by omega, h2, h3, h4⟩
end
/-! ### order of rows -/
def ltL : List Int → List Int → Bool
  | [], [] => false
  | [], _ :: _ => true
  | _ :: _, [] => false
  | x :: xs, y :: ys => if x = y then ltL xs ys else decide (x < y)
def eT (r : List Int) : D := .tup (r.map .int)
theorem ltAll_ints : ∀ xs ys : List Int, ltAll (xs.map D.int) (ys.map D.int) = ltL xs ys
  | [], [] => by simp [ltAll, ltL]
  | [], _ :: _ => by simp [ltAll, ltL]
  | _ :: _, [] => by simp [ltAll, ltL]
  | x :: xs, y :: ys => by
    simp only [List.map_cons, ltAll, ltL, D.eqv, D.lt, ltAll_ints xs ys]
    by_cases h : x = y <;> simp [h]
theorem eT_lt (x y : List Int) : (eT x).lt (eT y) = ltL x y := by unfold eT; simp only [D.lt]; exact ltAll_ints x y
def insL (x : List Int) : List (List Int) → List (List Int)
  | [] => [x]
  | y :: ys => if ltL y x then y :: insL x ys else x :: y :: ys
def sortL : List (List Int) → List (List Int)
  | [] => []
  | x :: xs => insL x (sortL xs)
theorem insD_eT (x : List Int) : ∀ ys : List (List Int), insD (eT x) (ys.map eT) = (insL x ys).map eT
  | [] => rfl
  | y :: ys => by
    simp only [List.map_cons, insD, insL, eT_lt]
    split
    · rw [List.map_cons, insD_eT x ys]
    · rfl
theorem isort_eT : ∀ xs : List (List Int), isort (xs.map eT) = (sortL xs).map eT
  | [] => rfl
  | x :: xs => by
    simp only [List.map_cons, isort, sortL, isort_eT xs, insD_eT]
theorem eT_inj {x y : List Int} (h : eT x = eT y) : x = y := by
  unfold eT at h
  injection h with h
  exact (List.map_inj_right (fun a b h => by injection h)).mp h
theorem isIT_eT (x : List Int) : isIT (eT x) = true := by
  simp only [eT, isIT, List.all_eq_true]
  intro d hd
  obtain ⟨i, _, rfl⟩ := List.mem_map.mp hd
  rfl
theorem sortOk_IT {xs : List D} (h : xs.all isIT = true) : sortOk xs = true := by
  unfold sortOk alkP
  simp only [Bool.and_eq_true, Bool.not_eq_true', List.any_eq_false]
  refine ⟨⟨plAll_IT h, List.all_eq_true.mpr fun x hx => List.all_eq_true.mpr fun y hy => ?_⟩, fun x hx => ?_⟩
  · have a := List.all_eq_true.mp h x hx
    have b := List.all_eq_true.mp h y hy
    cases x <;> simp only [isIT] at a <;> try (cases a; done)
    cases y <;> simp only [isIT] at b <;> try (cases b; done)
    simp only [D.alk]; exact alkAll_I a b
  · have a := List.all_eq_true.mp h x hx
    cases x <;> simp only [isIT] at a <;> try (cases a; done)
    simp [isNone]
theorem sortOk_eT (xs : List (List Int)) : sortOk (xs.map eT) = true := sortOk_IT (List.all_eq_true.mpr fun d hd => by
  obtain ⟨x, _, rfl⟩ := List.mem_map.mp hd
  exact isIT_eT x)
theorem insL_perm (x : List Int) : ∀ ys : List (List Int), (insL x ys).Perm (x :: ys)
  | [] => .refl _
  | y :: ys => by
    unfold insL
    split
    · exact ((insL_perm x ys).cons y).trans (.swap ..)
    · exact .refl _
theorem sortL_perm : ∀ xs : List (List Int), (sortL xs).Perm xs
  | [] => .refl _
  | x :: xs => (insL_perm x _).trans ((sortL_perm xs).cons x)
theorem sortL_eq {xs ys : List (List Int)} (h : xs.Perm ys) : sortL xs = sortL ys := by
  have := isort_perm_eq (h.map eT) (sortOk_eT ys)
  rw [isort_eT, isort_eT] at this
  exact (List.map_inj_right (fun a b h => eT_inj h)).mp this
theorem sortL_ext {xs ys : List (List Int)} (h1 : xs.Nodup) (h2 : ys.Nodup) (h : ∀ r, r ∈ xs ↔ r ∈ ys) : sortL xs = sortL ys := sortL_eq ((List.perm_ext_iff_of_nodup h1 h2).mpr h)
/-- all routes past b, in order -/
def rts (n : Int) (ls : List Ln) (b : List Int) : List (List Int) := sortL (dfs ls b (n - 1) n.toNat [0])
theorem mem_rts' {n : Int} {ls : List Ln} {b r : List Int} (g : Good n ls) : r ∈ rts n ls b ↔ Rte ls b (n - 1) r := by
  unfold rts
  rw [(sortL_perm _).mem_iff, mem_rts g]
theorem rts_nodup {n : Int} {ls : List Ln} {b : List Int} (g : Good n ls) : (rts n ls b).Nodup := (sortL_perm _).nodup_iff.mpr (nodup_dfs g.nd _ _)
theorem rts_of {n : Int} {ls : List Ln} {b : List Int} (g : Good n ls) {xs : List (List Int)} (nd : xs.Nodup) (h : ∀ r, r ∈ xs ↔ Rte ls b (n - 1) r) : isort (xs.map eT) = (rts n ls b).map eT := by
  rw [isort_eT]
  congr 1
  exact sortL_ext nd (nodup_dfs g.nd _ _) fun r => by rw [h, mem_rts g]
end Rt
end
section
set_option linter.all false
set_option maxRecDepth 100000
/-! Rt2: how many rows there are. -/
namespace Rt
open Pv
def IsRow (ls : List Ln) (b row : List Int) : Prop := ∃ s, row = [0] ++ s ∧ Val ls b [0] s
section
variable {ls : List Ln} {b : List Int} {n e : Int}
theorem IsRow.one : IsRow ls b [0] := ⟨[], rfl, trivial⟩
theorem IsRow.ext {row : List Int} (h : IsRow ls b row) {x : Int} (hx : x ∈ Rt.ext ls b row) : IsRow ls b (row ++ [x]) := by
  obtain ⟨s, rfl, v⟩ := h
  obtain ⟨h1, h2, h3⟩ := mem_ext.mp hx
  exact ⟨s ++ [x], by simp, Val.app.mpr ⟨v, h1, h2, h3, trivial⟩⟩
theorem IsRow.nodup {row : List Int} (h : IsRow ls b row) : row.Nodup := by
  obtain ⟨s, rfl, v⟩ := h
  exact Val.nodup (by simp) v
theorem IsRow.rg (g : Good n ls) {row : List Int} (h : IsRow ls b row) : ∀ x ∈ row, 0 ≤ x ∧ x < n := by
  obtain ⟨s, rfl, v⟩ := h
  intro x hx
  have := g.two
  rcases List.mem_append.mp hx with q | q
  · simp at q; omega
  · exact Val.rg g v x q
theorem IsRow.len (g : Good n ls) {row : List Int} (h : IsRow ls b row) : row.length ≤ n.toNat := by
  have := g.two
  exact len_le h.nodup fun x hx => by have := h.rg g x hx; omega
theorem IsRow.ne {row : List Int} (h : IsRow ls b row) : ∃ l, row.getLast? = some l := by
  obtain ⟨s, rfl, v⟩ := h
  cases hl : ([0] ++ s).getLast? with
  | none => simp at hl
  | some l => exact ⟨l, rfl⟩
theorem IsRow.last (g : Good n ls) {row : List Int} (h : IsRow ls b row) {l : Int} (hl : row.getLast? = some l) : 0 ≤ l ∧ l < n := h.rg g l (List.mem_of_getLast? hl)
theorem ext_len (g : Good n ls) {row : List Int} (h : IsRow ls b row) : (ext ls b row).length + row.length ≤ n.toNat := by
  have hn := g.two
  have : (Rt.ext ls b row ++ row).Nodup := by
    refine List.nodup_append.mpr ⟨nodup_ext g.nd _, h.nodup, fun x hx y hy e => ?_⟩
    subst e
    exact (mem_ext.mp hx).2.1 hy
  have := len_le (n := n.toNat) this fun x hx => by
    rcases List.mem_append.mp hx with q | q
    · obtain ⟨⟨l, _, hl⟩, _⟩ := mem_ext.mp q
      have := g.rg _ hl
      simp only [] at this
      omega
    · have := h.rg g x q; omega
  simpa using this
def sz (ls : List Ln) (b : List Int) (e : Int) : Nat → List Int → Nat
  | 0, _ => 1
  | k + 1, row => if row.getLast? = some e then 1 else 1 + ((ext ls b row).map fun h => sz ls b e k (row ++ [h])).sum
def tb : Nat → Nat
  | 0 => 1
  | k + 1 => 1 + (k + 1) * tb k
theorem sz_pos : ∀ (k : Nat) (row : List Int), 1 ≤ sz ls b e k row
  | 0, _ => Nat.le_refl _
  | k + 1, row => by unfold sz; split <;> omega
theorem sum_le {α : Type} {f : α → Nat} {c : Nat} : ∀ {xs : List α}, (∀ x ∈ xs, f x ≤ c) → (xs.map f).sum ≤ xs.length * c
  | [], _ => by simp
  | x :: xs, h => by
    have := sum_le (xs := xs) fun y hy => h y (List.mem_cons_of_mem _ hy)
    have := h x List.mem_cons_self
    simp only [List.map_cons, List.sum_cons, List.length_cons, Nat.add_mul, Nat.one_mul]
    omega
theorem sz_le (g : Good n ls) : ∀ (k : Nat) (row : List Int), IsRow ls b row → row.length + k = n.toNat → sz ls b e k row ≤ tb k
  | 0, _, _, _ => Nat.le_refl _
  | k + 1, row, h, hk => by
    unfold sz tb
    split
    · exact Nat.le_add_right _ _
    · have hl := ext_len g h
      have := sum_le (f := fun h => sz ls b e k (row ++ [h])) (c := tb k) (xs := Rt.ext ls b row) fun x hx => sz_le g k _ (h.ext hx) (by simp; omega)
      have : (Rt.ext ls b row).length * tb k ≤ (k + 1) * tb k := Nat.mul_le_mul_right _ (by omega)
      omega
theorem tb_mono : ∀ {i j : Nat}, i ≤ j → tb i ≤ tb j
  | 0, 0, _ => Nat.le_refl _
  | 0, j + 1, _ => by unfold tb; omega
  | i + 1, 0, h => by omega
  | i + 1, j + 1, h => by
    unfold tb
    have h1 := tb_mono (i := i) (j := j) (by omega)
    have := Nat.mul_le_mul (show i + 1 ≤ j + 1 by omega) h1
    omega
theorem tb_10 {k : Nat} (h : k ≤ 9) : tb k ≤ 986410 := Nat.le_trans (tb_mono h) (by decide)
/-- the size of a row on the pile -/
def szr (n : Int) (ls : List Ln) (b : List Int) (row : List Int) : Nat := sz ls b (n - 1) (n.toNat - row.length) row
def ways (n : Int) (ls : List Ln) (b : List Int) (row : List Int) : List (List Int) := dfs ls b (n - 1) (n.toNat - row.length) row
theorem ways_end {row : List Int} (h : row.getLast? = some (n - 1)) : ways n ls b row = [row] := by
  unfold ways; cases n.toNat - row.length <;> simp [dfs, h]
theorem szr_end {row : List Int} (h : row.getLast? = some (n - 1)) : szr n ls b row = 1 := by
  unfold szr; cases n.toNat - row.length <;> simp [sz, h]
theorem ext_nil (g : Good n ls) {row : List Int} (h : IsRow ls b row) (hk : n.toNat - row.length = 0) : ext ls b row = [] := by
  have := ext_len g h
  exact List.length_eq_zero_iff.mp (by omega)
theorem ways_go (g : Good n ls) {row : List Int} (h : IsRow ls b row) (he : row.getLast? ≠ some (n - 1)) : ways n ls b row = (ext ls b row).flatMap fun x => ways n ls b (row ++ [x]) := by
  unfold ways
  cases hk : n.toNat - row.length with
  | zero => rw [ext_nil g h hk]; simp [dfs, he]
  | succ k =>
    have : ∀ x, n.toNat - (row ++ [x]).length = k := fun x => by simp; omega
    simp only [this]
    rw [dfs, if_neg he]
theorem szr_go (g : Good n ls) {row : List Int} (h : IsRow ls b row) (he : row.getLast? ≠ some (n - 1)) : szr n ls b row = 1 + ((ext ls b row).map fun x => szr n ls b (row ++ [x])).sum := by
  unfold szr
  cases hk : n.toNat - row.length with
  | zero => rw [ext_nil g h hk]; simp [sz]
  | succ k =>
    have : ∀ x, n.toNat - (row ++ [x]).length = k := fun x => by simp; omega
    simp only [this]
    rw [sz, if_neg he]
theorem szr_le (g : Good n ls) (hn : n ≤ 10) {row : List Int} (h : IsRow ls b row) (hl : 1 ≤ row.length) : szr n ls b row ≤ 986410 := by
  have hle := h.len g
  exact Nat.le_trans (sz_le g _ _ h (by omega)) (tb_10 (by have := g.two; omega))
theorem sum_pos {α : Type} {f : α → Nat} : ∀ {xs : List α}, (∀ x ∈ xs, 1 ≤ f x) → xs.length ≤ (xs.map f).sum
  | [], _ => by simp
  | x :: xs, h => by
    have := sum_pos (xs := xs) fun y hy => h y (List.mem_cons_of_mem _ hy)
    have := h x List.mem_cons_self
    simp only [List.map_cons, List.sum_cons, List.length_cons]
    omega
theorem ways_rte (g : Good n ls) : ∀ r, r ∈ ways n ls b [0] ↔ Rte ls b (n - 1) r := fun r => by
  unfold ways
  rw [mem_dfs]
  constructor
  · rintro ⟨s, _, h2, h3, h4⟩; exact ⟨s, h2, h3, h4⟩
  · rintro ⟨s, h2, h3, h4⟩
    have := Rte.len g h3
    have := g.two
    exact ⟨s, by simp; omega, h2, h3, h4⟩
theorem ways_nodup (g : Good n ls) (row : List Int) : (ways n ls b row).Nodup := nodup_dfs g.nd _ _
theorem dfs_len : ∀ (k : Nat) (row : List Int), (dfs ls b e k row).length ≤ sz ls b e k row
  | 0, row => by unfold dfs sz; split <;> simp
  | k + 1, row => by
    unfold dfs sz
    split
    · simp
    · rw [List.length_flatMap]
      have : ∀ l : List Int, (l.map fun h => (dfs ls b e k (row ++ [h])).length).sum ≤ (l.map fun h => sz ls b e k (row ++ [h])).sum := by
        intro l
        induction l with
        | nil => simp
        | cons x l ih => have := dfs_len k (row ++ [x]); simp only [List.map_cons, List.sum_cons]; omega
      have := this (ext ls b row)
      omega
theorem rte_len (g : Good n ls) {r : List Int} (h : Rte ls b (n - 1) r) : r.length ≤ n.toNat := by
  obtain ⟨s, rfl, v, _⟩ := h
  exact IsRow.len (b := b) g ⟨s, rfl, v⟩
end
end Rt
end
section
set_option linter.all false
set_option maxRecDepth 100000
/-! Rt3: other ways to say the same routes. -/
namespace Rt
open Pv
/-- each two neighbours are a line -/
def Ch (ls : List Ln) : List Int → Prop
  | x :: y :: r => (x, y) ∈ ls ∧ Ch ls (y :: r)
  | _ => True
theorem Ch.tail {ls : List Ln} : ∀ {x : Int} {r : List Int}, Ch ls (x :: r) → Ch ls r
  | _, [], _ => trivial
  | _, _ :: _, h => h.2
theorem ch_zip {ls : List Ln} : ∀ {r : List Int}, Ch ls r ↔ ∀ p ∈ r.zip r.tail, p ∈ ls
  | [] => by simp [Ch]
  | [x] => by simp [Ch]
  | x :: y :: r => by
    have := ch_zip (ls := ls) (r := y :: r)
    simp only [Ch, this, List.tail_cons, List.zip_cons_cons, List.mem_cons, forall_eq_or_imp]
theorem val_iff {ls : List Ln} {b : List Int} : ∀ {s row : List Int} {l : Int}, row.getLast? = some l → (Val ls b row s ↔ Ch ls (l :: s) ∧ s.Nodup ∧ ∀ h ∈ s, h ∉ row ∧ h ∉ b)
  | [], row, l, _ => by simp [Val, Ch]
  | x :: s, row, l, hl => by
    have ih := val_iff (ls := ls) (b := b) (s := s) (row := row ++ [x]) (l := x) (by simp)
    unfold Val
    rw [ih]
    simp only [hl, Option.some.injEq, exists_eq_left', Ch, List.nodup_cons, List.mem_cons, forall_eq_or_imp, List.mem_append, List.mem_singleton, not_or]
    constructor
    · rintro ⟨h1, h2, h3, h4, h5, h6⟩
      exact ⟨⟨h1, h4⟩, ⟨fun q => (h6 x q).1.2.1 rfl, h5⟩, ⟨h2, h3⟩, fun z hz => ⟨(h6 z hz).1.1, (h6 z hz).2⟩⟩
    · rintro ⟨⟨h1, h4⟩, ⟨h7, h5⟩, ⟨h2, h3⟩, h6⟩
      exact ⟨h1, h2, h3, h4, h5, fun z hz => ⟨⟨(h6 z hz).1, fun q => h7 (q ▸ hz), by simp⟩, (h6 z hz).2⟩⟩
theorem rte_iff {ls : List Ln} {b : List Int} {e : Int} (he : e ≠ 0) {r : List Int} : Rte ls b e r ↔ ∃ own, r = 0 :: (own ++ [e]) ∧ r.Nodup ∧ Ch ls r ∧ ∀ h ∈ own ++ [e], h ∉ b := by
  unfold Rte
  constructor
  · rintro ⟨s, rfl, v, hl⟩
    have v' := (val_iff (l := 0) (by simp)).mp v
    have hs : s ≠ [] := fun z => by subst z; simp at hl; exact he hl.symm
    have hls : s.getLast? = some e := by
      rw [List.getLast?_append] at hl
      cases hq : s.getLast? with
      | none => rw [List.getLast?_eq_none_iff] at hq; exact absurd hq hs
      | some z => rw [hq] at hl; simpa using hl
    obtain ⟨own, rfl⟩ : ∃ own, s = own ++ [e] := by
      rcases List.eq_nil_or_concat s with q | ⟨o, z, q⟩
      · exact absurd q hs
      · rw [List.concat_eq_append] at q; subst q; simp at hls; exact ⟨o, by rw [hls]⟩
    refine ⟨own, rfl, ?_, v'.1, fun h hh => (v'.2.2 h hh).2⟩
    exact List.nodup_cons.mpr ⟨fun q => (v'.2.2 0 q).1 (by simp), v'.2.1⟩
  · rintro ⟨own, rfl, nd, ch, hb⟩
    obtain ⟨n1, n2⟩ := List.nodup_cons.mp nd
    refine ⟨own ++ [e], rfl, (val_iff (l := 0) (by simp)).mpr ⟨ch, n2, fun h hh => ⟨fun q => n1 (by simp at q; subst q; exact hh), hb h hh⟩⟩, ?_⟩
    rw [← List.cons_append, List.getLast?_append]; rfl
/-! ### a part of an ordered row is ordered -/
theorem pw_sortL (xs : List (List Int)) : ((sortL xs).map eT).Pairwise leD' := by
  rw [← isort_eT]
  obtain ⟨hp, ha, _⟩ := sortOk_pl (sortOk_eT xs)
  exact isort_sorted hp ha fun y hy => hy
theorem sortL_unique {xs ys : List (List Int)} (pm : ys.Perm xs) (h : (ys.map eT).Pairwise leD') : ys = sortL xs := by
  obtain ⟨hp, ha, _⟩ := sortOk_pl (sortOk_eT xs)
  have := isort_unique hp ha (fun y hy => hy) (pm.map eT) h
  rw [isort_eT] at this
  exact (List.map_inj_right (fun a b h => eT_inj h)).mp this
def pastB (b r : List Int) : Bool := !r.any fun h => b.contains h
theorem pastB_iff {b r : List Int} : pastB b r = true ↔ ∀ h ∈ r, h ∉ b := by
  unfold pastB
  simp
theorem rte_past {ls : List Ln} {b c : List Int} {e : Int} (he : e ≠ 0) {r : List Int} (h0 : 0 ∉ c) : Rte ls b e r ∧ pastB c r = true ↔ Rte ls (b ++ c) e r := by
  rw [rte_iff he, rte_iff he, pastB_iff]
  constructor
  · rintro ⟨⟨own, rfl, nd, ch, hb⟩, hc⟩
    exact ⟨own, rfl, nd, ch, fun h hh => by simp only [List.mem_append, not_or]; exact ⟨hb h hh, hc h (List.mem_cons_of_mem _ hh)⟩⟩
  · rintro ⟨own, rfl, nd, ch, hb⟩
    refine ⟨⟨own, rfl, nd, ch, fun h hh q => hb h hh (List.mem_append_left _ q)⟩, fun h hh => ?_⟩
    rcases List.mem_cons.mp hh with rfl | hh
    · exact h0
    · exact fun q => hb h hh (List.mem_append_right _ q)
theorem rts_filter {n : Int} {ls : List Ln} {b c : List Int} (g : Good n ls) (h0 : 0 ∉ c) : (rts n ls b).filter (pastB c) = rts n ls (b ++ c) := by
  have he : n - 1 ≠ 0 := by have := g.two; omega
  have hnd : ((rts n ls b).filter (pastB c)).Nodup := (rts_nodup g).filter _
  refine sortL_unique ((List.perm_ext_iff_of_nodup hnd (nodup_dfs g.nd _ _)).mpr fun r => ?_) ?_
  · rw [List.mem_filter, mem_rts' g, mem_rts g, rte_past he h0]
  · exact List.Pairwise.sublist (List.Sublist.map _ List.filter_sublist) (pw_sortL _)
/-! ### all rows of some houses -/
def stp (hs own : List Int) : List (List Int) := (hs.filter fun x => !own.contains x).map fun x => own ++ [x]
def fr (hs : List Int) : Nat → List (List Int)
  | 0 => [[]]
  | k + 1 => (fr hs k).flatMap (stp hs)
def rows (hs : List Int) : Nat → List (List Int)
  | 0 => [[]]
  | k + 1 => rows hs k ++ fr hs (k + 1)
/-! ### the inner houses -/
def inner (n : Int) : List Int := (List.range (n - 2).toNat).map fun (i : Nat) => 1 + (i : Int)
theorem mem_inner {n h : Int} : h ∈ inner n ↔ 1 ≤ h ∧ h ≤ n - 2 := by
  unfold inner
  simp only [List.mem_map, List.mem_range]
  constructor
  · rintro ⟨i, hi, rfl⟩; omega
  · rintro ⟨h1, h2⟩; exact ⟨(h - 1).toNat, by omega, by omega⟩
theorem nodup_inner (n : Int) : (inner n).Nodup := List.pairwise_map.mpr (List.nodup_range.imp fun h e => h (by omega))
theorem len_inner (n : Int) : (inner n).length = (n - 2).toNat := by unfold inner; simp
end Rt
end
section
set_option linter.all false
set_option maxRecDepth 100000
/-! Ps: nets as data. -/
namespace Pv
open PySem
section
variable {α : Type} {Γ : Gam} {m : Mu} {ct : GC} {tt : TC} {ce : EC} {cb : SC} {Qn : Gam → Mu → Prop} {Qr : D → Mu → Prop}
/-- a comprehension over encoded items: those with p, each by f -/
theorem wr_lcE (g : α → D) (p : α → Bool) (f : α → D) {xs : List α} (hs : ∀ x ∈ xs, WO (ct (g x) Γ) fun Γ1 => WR (tt Γ1 m) fun k m1 => (m1 = m ∧ k = p x) ∧ (p x = true → WR (ce Γ1 m) fun y m2 => m2 = m ∧ y = f x)) : lcGo ct tt ce Γ (xs.map g) m = .ok ((xs.filter p).map f) m :=
  wr_lcR (P := fun d x => d = g x) p f (All2.map (P := fun d x => d = g x) (f := g) (fun _ => rfl) xs) fun d x hx e => by subst e; exact hs x hx
theorem wr_lcEM (g : α → D) (f : α → D) {xs : List α} (hs : ∀ x ∈ xs, WO (ct (g x) Γ) fun Γ1 => WR (ce Γ1 m) fun y m2 => m2 = m ∧ y = f x) : lcGo ct (fun _ m => .ok true m) ce Γ (xs.map g) m = .ok (xs.map f) m :=
  wr_lcM (P := fun d x => d = g x) f (All2.map (P := fun d x => d = g x) (f := g) (fun _ => rfl) xs) fun d x hx e => by subst e; exact hs x hx
theorem ws_loopE (g : α → D) (I : List α → Gam → Mu → Prop) {xs : List α} (hs : ∀ l x r, xs = l ++ x :: r → ∀ Γ m, I l Γ m → WO (ct (g x) Γ) fun Γ1 => WS (cb Γ1 m) (fun Γ2 m2 => I (l ++ [x]) Γ2 m2) Qr) (he : ∀ Γ m, I xs Γ m → Qn Γ m) (h0 : I [] Γ m) : WS (loopS ct cb (xs.map g) Γ m) Qn Qr :=
  ws_loopR (P := fun d x => d = g x) I (All2.map (P := fun d x => d = g x) (f := g) (fun _ => rfl) xs) (fun l x r d e hd Γ m hi => by subst hd; exact hs l x r e Γ m hi) he h0
@[simp ↓, simp] theorem wo_neg {i : Int} {QO : D → Prop} : WO (negD m (.int i)) QO = QO (.int (-i)) := wo_some
theorem blsOf_map' : ∀ bs : List Bool, blsOf (bs.map D.bl) = some bs
  | [] => rfl
  | b :: bs => by rw [List.map_cons, blsOf, blsOf_map' bs]; rfl
theorem wo_all {bs : List Bool} {QO : D → Prop} : WO (allD m (.lst (bs.map .bl))) QO = QO (.bl (bs.all id)) := by
  show WO (Option.map (fun bs => D.bl (bs.all id)) (blsOf (bs.map .bl))) _ = _
  rw [blsOf_map', Option.map_some, wo_some]
theorem wo_any {bs : List Bool} {QO : D → Prop} : WO (anyD m (.lst (bs.map .bl))) QO = QO (.bl (bs.any id)) := by
  show WO (Option.map (fun bs => D.bl (bs.any id)) (blsOf (bs.map .bl))) _ = _
  rw [blsOf_map', Option.map_some, wo_some]
theorem WR.ok {r : R α} {a : α} {Q : α → Mu → Prop} (e : r = .ok a m) (h : Q a m) : WR r Q := by rw [e, wr_ok]; exact h
end
end Pv
namespace Rt
open Pv PySem L2
def eP (p : Ln) : D := .tup [.int p.1, .int p.2]
def eQ (p : Ln) : D := .lst [.int p.1, .int p.2]
inductive NetD : D → Int → List Ln → Prop
  | t (n : Int) (ls : List Ln) : NetD (.tup [.int n, .tup (ls.map eP)]) n ls
  | l (n : Int) (ls : List Ln) : NetD (.lst [.int n, .lst (ls.map eQ)]) n ls
inductive BandD : D → List Int → Prop
  | t (bs : List Int) : BandD (.tup (bs.map .int)) bs
  | l (bs : List Int) : BandD (.lst (bs.map .int)) bs
theorem rangeI_map : ∀ (n : Nat) (lo : Int), rangeI lo n = (List.range n).map fun (i : Nat) => D.int (lo + i)
  | 0, _ => rfl
  | n + 1, lo => by
    rw [rangeI, rangeI_map n (lo + 1), List.range_succ_eq_map, List.map_cons, List.map_map]
    simp only [Function.comp_def]
    congr 1
    · simp
    · refine List.map_congr_left fun i _ => ?_
      congr 1; simp only [Nat.succ_eq_add_one]; omega
theorem rangeI_zero (n : Nat) : rangeI 0 n = (List.range n).map fun (i : Nat) => D.int i := by
  rw [rangeI_map]; simp
theorem rangeI_ints (n : Nat) (lo : Int) : rangeI lo n = ((List.range n).map fun (i : Nat) => lo + (i : Int)).map D.int := by
  rw [rangeI_map, List.map_map]; rfl
/-- the houses behind h -/
def beh (ls : List Ln) (h : Int) : List Int := (ls.filter fun p => decide (p.1 = h)).map (·.2)
def behD (n : Int) (ls : List Ln) : List (D × D) := (List.range n.toNat).map fun (i : Nat) => (.int i, .lst ((beh ls i).map .int))
theorem behGo_ok (enc : Ln → D) (he : ∀ p, pairOf (enc p) = some (.int p.1, .int p.2)) : ∀ (ls : List Ln) (rows : List (Int × List D)), (∀ p ∈ ls, p.1 ∈ rows.map (·.1)) → behGo rows (ls.map enc) = some (rows.map fun r => (r.1, r.2 ++ (beh ls r.1).map .int))
  | [], rows, _ => by simp [behGo, beh]
  | p :: ls, rows, h => by
    have hp := h p List.mem_cons_self
    unfold behGo
    rw [List.map_cons]
    simp only [he]
    have hany : rows.any (fun r => decide (r.1 = p.1)) = true := by
      obtain ⟨r, hr, e⟩ := List.mem_map.mp hp
      exact List.any_eq_true.mpr ⟨r, hr, by simp [e]⟩
    rw [if_pos hany]
    have hk : (rows.map fun r => if r.1 = p.1 then (r.1, r.2 ++ [D.int p.2]) else r).map (·.1) = rows.map (·.1) := by
      rw [List.map_map]; exact List.map_congr_left fun r _ => by simp only [Function.comp_def]; split <;> rfl
    rw [behGo_ok enc he ls _ (fun q hq => by rw [hk]; exact h q (List.mem_cons_of_mem _ hq)), List.map_map]
    congr 1
    refine List.map_congr_left fun r _ => ?_
    simp only [Function.comp_def]
    by_cases z : r.1 = p.1
    · rw [if_pos z]
      simp [beh, List.filter_cons, z]
    · rw [if_neg z]
      have : ¬ p.1 = r.1 := fun e => z e.symm
      simp [beh, List.filter_cons, this]
theorem dfind_beh {n : Int} {ls : List Ln} {h : Int} (h0 : 0 ≤ h) (h1 : h < n) : dfind (behD n ls) (.int h) = some (.lst ((beh ls h).map .int)) := by
  unfold dfind behD
  have : ∀ (l : List Nat), h.toNat ∈ l → ((l.map fun (i : Nat) => ((D.int i : D), D.lst ((beh ls i).map .int))).find? fun kv => kv.1.eqv (.int h)).map (·.2) = some (.lst ((beh ls h).map .int)) := by
    intro l
    induction l with
    | nil => intro z; cases z
    | cons x l ih =>
      intro z
      rw [List.map_cons, List.find?_cons]
      by_cases e : x = h.toNat
      · have : (x : Int) = h := by omega
        simp [D.eqv, this]
      · have : ((x : Int) == h) = false := by simp; omega
        simp only [D.eqv, this]
        exact ih ((List.mem_cons.mp z).resolve_left fun q => e q.symm)
  exact this _ (List.mem_range.mpr (by omega))
theorem any_ints (xs : List Int) (h : Int) : (xs.map D.int).any (fun y => y.eqv (.int h)) = xs.contains h := by
  induction xs with
  | nil => rfl
  | cons x xs ih =>
    rw [List.map_cons, List.any_cons, ih, List.contains_cons]
    congr 1
    simp only [D.eqv]
    exact Bool.beq_comm
theorem plAll_ints (n : Nat) (xs : List Int) : plAll n (xs.map D.int) = true := plAll_I (List.all_eq_true.mpr fun d hd => by
  obtain ⟨x, _, rfl⟩ := List.mem_map.mp hd; rfl)
@[simp] theorem keyOk_int {i : Int} : keyOk false (.int i) = true := rfl
@[simp] theorem keyOk_str {x : Str} : keyOk false (.str x) = true := rfl
theorem keysD_ints : ∀ xs : List Int, (keysD (xs.map D.int)).isSome = true
  | [] => rfl
  | x :: xs => by
    obtain ⟨ks, h⟩ := Option.isSome_iff_exists.mp (keysD_ints xs)
    simp [keysD, keyD, h]
theorem keyOk_eT {r : List Int} (h : r ≠ []) : keyOk true (eT r) = true := by
  cases r with
  | nil => exact absurd rfl h
  | cons x r => exact keysD_ints (x :: r)
@[simp] theorem keyOk_eTc {x : Int} {r : List Int} : keyOk true (eT (x :: r)) = true := keyOk_eT (by simp)
theorem pl_int {n : Nat} {i : Int} : (D.int i).pl n = true := by cases n <;> rfl
theorem pl_eT {n : Nat} {r : List Int} : (eT r).pl (n + 1) = true := by simp only [eT, D.pl]; exact plAll_ints n r
theorem wo_nin_i {m : Mu} {h : Int} {xs : List Int} {QO : D → Prop} : WO (ninD m (.int h) (.tup (xs.map .int))) QO = QO (.bl (!xs.contains h)) := by
  show WO (if ((D.int h).pl PLN && plAll PLN (xs.map D.int)) = true then some (D.bl (!(xs.map D.int).any fun y => y.eqv (.int h))) else none) QO = _
  rw [pl_int, plAll_ints, Bool.and_self, if_pos rfl, wo_some, any_ints]
theorem wo_nin_l {m : Mu} {h : Int} {xs : List Int} {QO : D → Prop} : WO (ninD m (.int h) (.lst (xs.map .int))) QO = QO (.bl (!xs.contains h)) := by
  show WO (if ((D.int h).pl PLN && plAll PLN (xs.map D.int)) = true then some (D.bl (!(xs.map D.int).any fun y => y.eqv (.int h))) else none) QO = _
  rw [pl_int, plAll_ints, Bool.and_self, if_pos rfl, wo_some, any_ints]
theorem wo_in_i {m : Mu} {h : Int} {xs : List Int} {QO : D → Prop} : WO (inD m (.int h) (.tup (xs.map .int))) QO = QO (.bl (xs.contains h)) := by
  show WO (if ((D.int h).pl PLN && plAll PLN (xs.map D.int)) = true then some (D.bl ((xs.map D.int).any fun y => y.eqv (.int h))) else none) QO = _
  rw [pl_int, plAll_ints, Bool.and_self, if_pos rfl, wo_some, any_ints]
theorem wo_in_l {m : Mu} {h : Int} {xs : List Int} {QO : D → Prop} : WO (inD m (.int h) (.lst (xs.map .int))) QO = QO (.bl (xs.contains h)) := by
  show WO (if ((D.int h).pl PLN && plAll PLN (xs.map D.int)) = true then some (D.bl ((xs.map D.int).any fun y => y.eqv (.int h))) else none) QO = _
  rw [pl_int, plAll_ints, Bool.and_self, if_pos rfl, wo_some, any_ints]
theorem BandD.nin {bd : D} {bs : List Int} (hb : BandD bd bs) {m : Mu} {h : Int} {QO : D → Prop} : WO (ninD m (.int h) bd) QO = QO (.bl (!bs.contains h)) := by
  cases hb
  · exact wo_nin_i
  · exact wo_nin_l
theorem BandD.inn {bd : D} {bs : List Int} (hb : BandD bd bs) {m : Mu} {h : Int} {QO : D → Prop} : WO (inD m (.int h) bd) QO = QO (.bl (bs.contains h)) := by
  cases hb
  · exact wo_in_i
  · exact wo_in_l
/-- the last item -/
theorem atI_end {α : Type} {xs : List α} {x : α} (h : xs.getLast? = some x) : atI xs (-1) = some x := by
  cases xs with
  | nil => cases h
  | cons y ys =>
    rw [List.getLast?_eq_getElem?] at h
    have e : ixN (y :: ys).length (-1) = some ((y :: ys).length - 1) := by
      unfold ixN
      rw [if_neg (by omega), if_pos (by simp only [List.length_cons]; omega)]
      congr 1
      simp only [List.length_cons]; omega
    unfold atI
    rw [e]
    exact h
theorem ext_beh {ls : List Ln} {b row : List Int} {l : Int} (h : row.getLast? = some l) : ext ls b row = (beh ls l).filter fun x => !row.contains x && !b.contains x := by
  unfold ext beh
  rw [List.filter_map, List.filter_filter]
  congr 1
  refine List.filter_congr fun p _ => ?_
  rw [h]
  simp only [Function.comp_def, Option.some.injEq]
  have : decide (l = p.1) = decide (p.1 = l) := by by_cases z : l = p.1 <;> simp [z, eq_comm]
  rw [this]
  cases decide (p.1 = l) <;> simp
theorem NetD.ix0 {d : D} {n : Int} {ls : List Ln} (h : NetD d n ls) {m : Mu} {Q : D → Prop} : WO (ixD m d (.int 0)) Q = Q (.int n) := by
  cases h
  · rw [wo_ix_t]; exact wo_some
  · rw [wo_ix_l]; exact wo_some
theorem eT_last {row : List Int} {l : Int} (h : row.getLast? = some l) : atI (row.map D.int) (-1) = some (.int l) := atI_end (by rw [List.getLast?_map, h]; rfl)
theorem plAll_map {α : Type} {n : Nat} {g : α → D} (h : ∀ x, (g x).pl n = true) (xs : List α) : plAll n (xs.map g) = true := plAll_of fun d hd => by
  obtain ⟨x, _, rfl⟩ := List.mem_map.mp hd; exact h x
theorem pl_eP {n : Nat} (p : Ln) : (eP p).pl (n + 1) = true := by simp only [eP, D.pl, plAll, pl_int, Bool.and_self]
theorem eP_eqv (p q : Ln) : (eP p).eqv (eP q) = (p == q) := by
  simp only [eP, D.eqv, eqvAll, Bool.and_true]
  cases p; cases q; rfl
theorem any_eP (ls : List Ln) (p : Ln) : (ls.map eP).any (fun y => y.eqv (eP p)) = ls.contains p := by
  induction ls with
  | nil => rfl
  | cons x ls ih =>
    rw [List.map_cons, List.any_cons, ih, List.contains_cons, eP_eqv]
    congr 1
    exact Bool.beq_comm
theorem wo_nin_PL {m : Mu} {p : Ln} {ls : List Ln} {QO : D → Prop} : WO (ninD m (eP p) (.lst (ls.map eP))) QO = QO (.bl (!ls.contains p)) := by
  show WO (if ((eP p).pl (39 + 1) && plAll (39 + 1) (ls.map eP)) = true then some (D.bl (!(ls.map eP).any fun y => y.eqv (eP p))) else none) QO = _
  rw [pl_eP, plAll_map pl_eP, Bool.and_self, if_pos rfl, wo_some, any_eP]
/-- xs == [] -/
theorem wo_eqnil {m : Mu} {xs : List D} {QO : D → Prop} (h : plAll 39 xs = true) : WO (eqD m (.lst xs) (.lst [])) QO = QO (.bl xs.isEmpty) := by
  show WO (if ((D.lst xs).pl 40 && (D.lst []).pl 40) = true then some (D.bl ((D.lst xs).eqv (.lst []))) else none) QO = _
  have e1 : (D.lst xs).pl 40 = true := by simp only [D.pl]; exact h
  have e2 : (D.lst []).pl 40 = true := by simp [D.pl, plAll]
  have e3 : (D.lst xs).eqv (.lst []) = xs.isEmpty := by cases xs <;> simp [D.eqv, eqvAll]
  rw [e1, e2, e3, Bool.and_self, if_pos rfl, wo_some]
theorem wo_nenil {m : Mu} {xs : List D} {QO : D → Prop} (h : plAll 39 xs = true) : WO (neD m (.lst xs) (.lst [])) QO = QO (.bl (!xs.isEmpty)) := by
  show WO (if ((D.lst xs).pl 40 && (D.lst []).pl 40) = true then some (D.bl (!(D.lst xs).eqv (.lst []))) else none) QO = _
  have e1 : (D.lst xs).pl 40 = true := by simp only [D.pl]; exact h
  have e2 : (D.lst []).pl 40 = true := by simp [D.pl, plAll]
  have e3 : (D.lst xs).eqv (.lst []) = xs.isEmpty := by cases xs <;> simp [D.eqv, eqvAll]
  rw [e1, e2, e3, Bool.and_self, if_pos rfl, wo_some]
theorem zipI_ints : ∀ xs ys : List Int, zipI (xs.map .int) (ys.map .int) = (xs.zip ys).map eP
  | [], _ => by simp [zipI]
  | _ :: _, [] => by simp [zipI]
  | x :: xs, y :: ys => by simp [zipI, zipI_ints xs ys, eP]
theorem rg_inner {n : Int} (h2 : 2 ≤ n) (hn : n ≤ 1000) : rg2 [.int 1, .int (n - 1)] = some ((inner n).map .int) := by
  show (if rgOk 1 (n - 1) = true then some (rangeI 1 (n - 1 - 1).toNat) else none) = _
  rw [if_pos (by simp only [rgOk, Bool.and_eq_true, decide_eq_true_eq]; omega), rangeI_ints]
  have : (n - 1 - 1).toNat = (n - 2).toNat := by omega
  rw [this]; rfl
def p2l (p : Ln) : List Int := [p.1, p.2]
theorem map_eP (ls : List Ln) : ls.map eP = (ls.map p2l).map eT := by rw [List.map_map]; rfl
theorem sort_eP (ls : List Ln) : ∃ ls' : List Ln, isort (ls.map eP) = ls'.map eP ∧ ls'.Perm ls ∧ (ls'.map eP).Pairwise leD' := by
  have hp := sortL_perm (ls.map p2l)
  have hb : ∀ xs : List (List Int), (∀ x ∈ xs, ∃ p, x = p2l p) → ∃ qs : List Ln, xs = qs.map p2l := by
    intro xs
    induction xs with
    | nil => intro _; exact ⟨[], rfl⟩
    | cons x xs ih =>
      intro h
      obtain ⟨p, rfl⟩ := h x List.mem_cons_self
      obtain ⟨qs, rfl⟩ := ih fun y hy => h y (List.mem_cons_of_mem _ hy)
      exact ⟨p :: qs, rfl⟩
  obtain ⟨qs, hq⟩ := hb (sortL (ls.map p2l)) fun x hx => by
    obtain ⟨p, _, rfl⟩ := List.mem_map.mp (hp.mem_iff.mp hx)
    exact ⟨p, rfl⟩
  refine ⟨qs, by rw [map_eP, isort_eT, hq, ← map_eP], ?_, ?_⟩
  · have bk : ∀ l : List Ln, (l.map p2l).map (fun r => ((r.getD 0 0, r.getD 1 0) : Ln)) = l := fun l => by
      rw [List.map_map]; conv => rhs; rw [← List.map_id l]
      exact List.map_congr_left fun p _ => rfl
    rw [hq] at hp
    have := hp.map (fun r => ((r.getD 0 0, r.getD 1 0) : Ln))
    rwa [bk, bk] at this
  · rw [map_eP, ← hq]; exact pw_sortL _
end Rt
end
section
set_option linter.all false
set_option maxRecDepth 100000
/-! Rt4: the least of the shortest routes. -/
namespace Rt
open Pv
theorem ltL_irrefl : ∀ x : List Int, ltL x x = false
  | [] => rfl
  | x :: xs => by simp [ltL, ltL_irrefl xs]
theorem ltL_trans : ∀ {x y z : List Int}, ltL x y = true → ltL y z = true → ltL x z = true
  | [], [], _, h, _ => by simp [ltL] at h
  | [], _ :: _, [], _, h => by simp [ltL] at h
  | [], _ :: _, _ :: _, _, _ => by simp [ltL]
  | _ :: _, [], _, h, _ => by simp [ltL] at h
  | _ :: _, _ :: _, [], _, h => by simp [ltL] at h
  | x :: xs, y :: ys, z :: zs, h, k => by
    simp only [ltL] at h k ⊢
    by_cases a : x = y
    · subst a
      rw [if_pos rfl] at h
      by_cases b : x = z
      · subst b; rw [if_pos rfl] at k ⊢; exact ltL_trans h k
      · rw [if_neg b] at k ⊢; exact k
    · rw [if_neg a] at h
      simp at h
      by_cases b : y = z
      · subst b; rw [if_neg a]; simpa using h
      · rw [if_neg b] at k
        simp at k
        rw [if_neg (by omega)]; simp; omega
theorem ltL_tri : ∀ {x y : List Int}, ltL x y = false → ltL y x = false → x = y
  | [], [], _, _ => rfl
  | [], _ :: _, h, _ => by simp [ltL] at h
  | _ :: _, [], _, h => by simp [ltL] at h
  | x :: xs, y :: ys, h, k => by
    simp only [ltL] at h k
    by_cases a : x = y
    · subst a; rw [if_pos rfl] at h k; rw [ltL_tri h k]
    · rw [if_neg a] at h; rw [if_neg (fun e => a e.symm)] at k
      simp at h k; omega
theorem ltL_app : ∀ {x y : List Int}, x.length = y.length → ∀ u v : List Int, ltL (x ++ u) (y ++ v) = if x = y then ltL u v else ltL x y
  | [], [], _, u, v => by simp
  | [], _ :: _, h, _, _ => by simp at h
  | _ :: _, [], h, _, _ => by simp at h
  | x :: xs, y :: ys, h, u, v => by
    simp only [List.cons_append, ltL]
    by_cases a : x = y
    · subst a
      rw [if_pos rfl, ltL_app (by simpa using h) u v]
      by_cases b : xs = ys <;> simp [b, ltL]
    · simp [a, ltL]
/-- fewer houses, or as many and less -/
def btr (y r : List Int) : Prop := y.length < r.length ∨ (y.length = r.length ∧ ltL y r = true)
instance (y r : List Int) : Decidable (btr y r) := by unfold btr; infer_instance
theorem btr_irrefl (x : List Int) : ¬ btr x x := fun h => by
  rcases h with h | h
  · omega
  · rw [ltL_irrefl] at h; cases h.2
theorem btr_trans {x y z : List Int} (h : btr x y) (k : btr y z) : btr x z := by
  rcases h with h | h <;> rcases k with k | k
  · exact .inl (by omega)
  · exact .inl (by omega)
  · exact .inl (by omega)
  · exact .inr ⟨by omega, ltL_trans h.2 k.2⟩
theorem btr_tri {x y : List Int} (h : ¬ btr x y) (k : ¬ btr y x) : x = y := by
  unfold btr at h k
  have hl : x.length = y.length := by omega
  refine ltL_tri ?_ ?_
  · cases q : ltL x y with
    | false => rfl
    | true => exact absurd (.inr ⟨hl, q⟩) h
  · cases q : ltL y x with
    | false => rfl
    | true => exact absurd (.inr ⟨hl.symm, q⟩) k
/-- r is the best of those with P -/
def Best (P : List Int → Prop) (r : List Int) : Prop := P r ∧ ∀ y, P y → ¬ btr y r
theorem Best.uniq {P : List Int → Prop} {r s : List Int} (h : Best P r) (k : Best P s) : r = s := btr_tri (k.2 r h.1) (h.2 s k.1)
def bestOf : List (List Int) → Option (List Int)
  | [] => none
  | x :: xs => match bestOf xs with
    | none => some x
    | some r => some (if btr x r then x else r)
theorem bestOf_spec : ∀ (xs : List (List Int)), match bestOf xs with
    | none => xs = []
    | some r => Best (· ∈ xs) r
  | [] => rfl
  | x :: xs => by
    have ih := bestOf_spec xs
    unfold bestOf
    cases h : bestOf xs with
    | none =>
      rw [h] at ih
      have ih : xs = [] := ih
      subst ih
      show Best (· ∈ [x]) x
      exact ⟨by simp, fun y hy => by simp at hy; subst hy; exact btr_irrefl _⟩
    | some r =>
      rw [h] at ih
      have ih : Best (· ∈ xs) r := ih
      show Best (· ∈ x :: xs) (if btr x r then x else r)
      split
      · rename_i q
        refine ⟨by simp, fun y hy z => ?_⟩
        rcases List.mem_cons.mp hy with rfl | hy
        · exact btr_irrefl _ z
        · exact ih.2 y hy (btr_trans z q)
      · rename_i q
        refine ⟨List.mem_cons_of_mem _ ih.1, fun y hy z => ?_⟩
        rcases List.mem_cons.mp hy with rfl | hy
        · exact q z
        · exact ih.2 y hy z
/-- the least of the shortest routes past b -/
def arp (n : Int) (ls : List Ln) (b : List Int) : Option (List Int) := bestOf (rts n ls b)
theorem arp_some {n : Int} {ls : List Ln} {b r : List Int} (g : Good n ls) : arp n ls b = some r ↔ Best (Rte ls b (n - 1)) r := by
  have e : ∀ r, (fun r => r ∈ rts n ls b) r ↔ Rte ls b (n - 1) r := fun r => mem_rts' g
  have hB : ∀ r, Best (· ∈ rts n ls b) r ↔ Best (Rte ls b (n - 1)) r := fun r => by
    unfold Best; simp only [mem_rts' g]
  have := bestOf_spec (rts n ls b)
  unfold arp
  cases h : bestOf (rts n ls b) with
  | none =>
    rw [h] at this
    have this : rts n ls b = [] := this
    constructor
    · intro z; cases z
    · intro z; have := (mem_rts' g).mpr z.1; rw [‹rts n ls b = []›] at this; cases this
  | some s =>
    rw [h] at this
    have this : Best (Rte ls b (n - 1)) s := (hB s).mp this
    constructor
    · intro z; cases z; exact this
    · intro z; rw [this.uniq z]
theorem arp_none {n : Int} {ls : List Ln} {b : List Int} : arp n ls b = none ↔ rts n ls b = [] := by
  unfold arp
  have := bestOf_spec (rts n ls b)
  cases h : bestOf (rts n ls b) with
  | none => rw [h] at this; exact ⟨fun _ => this, fun _ => rfl⟩
  | some r =>
    rw [h] at this
    have this : Best (· ∈ rts n ls b) r := this
    exact ⟨fun z => (by cases z), fun z => by have := this.1; rw [z] at this; cases this⟩
/-! ### level by level -/
abbrev As := List (Int × List Int)
def lk (kvs : As) (h : Int) : Option (List Int) := (kvs.find? fun kv => decide (kv.1 = h)).map (·.2)
def put (kvs : As) (h : Int) (r : List Int) : As := if kvs.any (fun kv => decide (kv.1 = h)) then kvs.map (fun kv => if kv.1 = h then (kv.1, r) else kv) else kvs ++ [(h, r)]
theorem lk_mem {kvs : As} (nd : (kvs.map (·.1)).Nodup) {h : Int} {r : List Int} : lk kvs h = some r ↔ (h, r) ∈ kvs := by
  induction kvs with
  | nil => simp [lk]
  | cons x kvs ih =>
    rw [List.map_cons, List.nodup_cons] at nd
    unfold lk at ih ⊢
    rw [List.find?_cons]
    by_cases e : x.1 = h
    · simp only [e, decide_true, Option.map_some, Option.some.injEq, List.mem_cons]
      constructor
      · rintro rfl; exact .inl (by rw [← e])
      · rintro (q | q)
        · rw [← q]
        · exact absurd (List.mem_map.mpr ⟨_, q, rfl⟩) (e ▸ nd.1)
    · simp only [e, decide_false]
      rw [ih nd.2]
      simp only [List.mem_cons]
      exact ⟨.inr, fun q => q.resolve_left fun z => e (by rw [← z])⟩
theorem lk_none {kvs : As} {h : Int} : lk kvs h = none ↔ h ∉ kvs.map (·.1) := by
  unfold lk
  simp only [Option.map_eq_none_iff, List.find?_eq_none, decide_eq_true_eq, List.mem_map, not_exists, not_and]
theorem put_keys {kvs : As} {h : Int} {r : List Int} : (put kvs h r).map (·.1) = if h ∈ kvs.map (·.1) then kvs.map (·.1) else kvs.map (·.1) ++ [h] := by
  unfold put
  have : kvs.any (fun kv => decide (kv.1 = h)) = true ↔ h ∈ kvs.map (·.1) := by simp
  by_cases q : h ∈ kvs.map (·.1)
  · rw [if_pos (this.mpr q), if_pos q, List.map_map]
    exact List.map_congr_left fun kv _ => by simp only [Function.comp_def]; split <;> rfl
  · rw [if_neg fun z => q (this.mp z), if_neg q, List.map_append]; rfl
theorem put_nodup {kvs : As} {h : Int} {r : List Int} (nd : (kvs.map (·.1)).Nodup) : ((put kvs h r).map (·.1)).Nodup := by
  rw [put_keys]
  split
  · exact nd
  · rename_i q
    exact List.nodup_append.mpr ⟨nd, by simp, fun a ha c hc e => by simp at hc; subst hc; exact q (e ▸ ha)⟩
theorem mem_put {kvs : As} {h : Int} {r : List Int} {x : Int × List Int} : x ∈ put kvs h r ↔ (x = (h, r)) ∨ (x ∈ kvs ∧ x.1 ≠ h) := by
  unfold put
  split
  · rename_i q
    obtain ⟨y, hy, e⟩ := List.any_eq_true.mp q
    have e : y.1 = h := of_decide_eq_true e
    simp only [List.mem_map]
    constructor
    · rintro ⟨z, hz, rfl⟩
      split
      · rename_i w; exact .inl (by rw [w])
      · rename_i w; exact .inr ⟨hz, w⟩
    · rintro (rfl | ⟨h1, h2⟩)
      · exact ⟨y, hy, by rw [if_pos e, e]⟩
      · exact ⟨x, h1, by rw [if_neg h2]⟩
  · rename_i q
    simp only [List.mem_append, List.mem_singleton]
    constructor
    · rintro (h1 | h1)
      · refine .inr ⟨h1, fun e => q (List.any_eq_true.mpr ⟨x, h1, by simp [e]⟩)⟩
      · exact .inl h1
    · rintro (h1 | h1)
      · exact .inr h1
      · exact .inl h1.1
end Rt
end
section
set_option linter.all false
set_option maxRecDepth 100000
/-! Rt5: going level by level finds the best rows. -/
namespace Rt
open Pv
theorem mem_beh {ls : List Ln} {a h : Int} : h ∈ beh ls a ↔ (a, h) ∈ ls := by
  unfold beh
  simp only [List.mem_map, List.mem_filter, decide_eq_true_eq]
  constructor
  · rintro ⟨p, ⟨h1, rfl⟩, rfl⟩; exact h1
  · intro h1; exact ⟨(a, h), ⟨h1, rfl⟩, rfl⟩
def To (ls : List Ln) (b : List Int) (h : Int) (r : List Int) : Prop := IsRow ls b r ∧ r.getLast? = some h
section
variable {ls : List Ln} {b : List Int}
theorem IsRow.pre {p s : List Int} (hp : p ≠ []) (h : IsRow ls b (p ++ s)) : IsRow ls b p := by
  obtain ⟨t, e, v⟩ := h
  cases p with
  | nil => exact absurd rfl hp
  | cons x p =>
    rw [List.cons_append] at e
    simp only [List.cons_append, List.nil_append, List.cons.injEq] at e
    obtain ⟨rfl, rfl⟩ := e
    exact ⟨p, rfl, (Val.app.mp v).1⟩
theorem To.step {a h : Int} {q : List Int} (t : To ls b a q) (hl : (a, h) ∈ ls) (hq : h ∉ q) (hb : h ∉ b) : To ls b h (q ++ [h]) :=
  ⟨t.1.ext (mem_ext.mpr ⟨⟨a, t.2, hl⟩, hq, hb⟩), by simp⟩
/-- a row that ends later comes from a row -/
theorem To.back {h : Int} {r : List Int} (t : To ls b h r) : r = [0] ∨ ∃ a p, r = p ++ [h] ∧ To ls b a p ∧ (a, h) ∈ ls ∧ h ∉ p ∧ h ∉ b := by
  obtain ⟨⟨s, rfl, v⟩, hl⟩ := t
  rcases List.eq_nil_or_concat s with rfl | ⟨s', x, e⟩
  · exact .inl rfl
  · rw [List.concat_eq_append] at e
    subst e
    rw [← List.append_assoc] at hl ⊢
    rw [List.getLast?_append] at hl
    simp only [List.getLast?_singleton, Option.some_or, Option.some.injEq] at hl
    subst hl
    obtain ⟨v1, v2⟩ := Val.app.mp v
    obtain ⟨⟨l, h1, h2⟩, h3, h4, _⟩ := v2
    exact .inr ⟨l, [0] ++ s', rfl, ⟨⟨s', rfl, v1⟩, h1⟩, h2, h3, h4⟩
/-- where h stands in a row, a row to h ends -/
theorem To.at {a h : Int} {q : List Int} (t : To ls b a q) (hq : h ∈ q) : ∃ p, To ls b h p ∧ p.length ≤ q.length := by
  obtain ⟨s, u, e⟩ := List.append_of_mem hq
  refine ⟨s ++ [h], ⟨IsRow.pre (s := u) (by simp) ?_, by simp⟩, by rw [e]; simp⟩
  rw [List.append_assoc]
  rw [e] at t
  exact t.1
structure Bfs (ls : List Ln) (b : List Int) (k : Nat) (found : As) (edge : List Int) : Prop where
  nd : (found.map (·.1)).Nodup
  best : ∀ h r, (h, r) ∈ found → Best (To ls b h) r
  all : ∀ h r, To ls b h r → r.length ≤ k + 1 → h ∈ found.map (·.1)
  le : ∀ h r, (h, r) ∈ found → r.length ≤ k + 1
  edg : ∀ h, h ∈ edge ↔ ∃ r, (h, r) ∈ found ∧ r.length = k + 1
theorem To.zero {r : List Int} (t : To ls b 0 r) : r = [0] := by
  obtain ⟨⟨s, rfl, v⟩, hl⟩ := t
  have nd := Val.nodup (by simp) v
  cases s with
  | nil => rfl
  | cons x s =>
    exfalso
    have : (0 : Int) ∈ x :: s := by
      rw [List.getLast?_append] at hl
      cases hq : (x :: s).getLast? with
      | none => simp at hq
      | some z => rw [hq] at hl; simp at hl; subst hl; exact List.mem_of_getLast? hq
    simp at nd
    rcases List.mem_cons.mp this with q | q
    · exact nd.1.1 q
    · exact nd.1.2 q
theorem Bfs.start : Bfs ls b 0 [(0, [0])] [0] where
  nd := by simp
  best h r hm := by
    simp at hm
    obtain ⟨rfl, rfl⟩ := hm
    exact ⟨⟨.one, rfl⟩, fun y hy => by rw [To.zero hy]; exact btr_irrefl _⟩
  all h r t hl := by
    obtain ⟨⟨s, rfl, v⟩, hl2⟩ := t
    have : s = [] := List.length_eq_zero_iff.mp (by simp only [List.length_append, List.length_cons, List.length_nil] at hl; omega)
    subst this
    simp at hl2
    simp [hl2]
  le h r hm := by simp at hm; rw [hm.2]; simp
  edg h := by
    constructor
    · intro z; simp at z; subst z; exact ⟨[0], by simp, rfl⟩
    · rintro ⟨r, hm, _⟩; simp at hm; simp [hm.1]
structure Lat (b : List Int) (found : As) (ps : List Ln) (later : As) : Prop where
  nd : (later.map (·.1)).Nodup
  src : ∀ h r, (h, r) ∈ later → ∃ a q, (a, h) ∈ ps ∧ (a, q) ∈ found ∧ r = q ++ [h] ∧ h ∉ found.map (·.1) ∧ h ∉ b
  min : ∀ a h q, (a, h) ∈ ps → (a, q) ∈ found → h ∉ found.map (·.1) → h ∉ b → ∃ r, (h, r) ∈ later ∧ ltL (q ++ [h]) r = false
theorem Lat.nil {found : As} : Lat b found [] [] := ⟨by simp, fun h r z => (by cases z), fun a h q z => (by cases z)⟩
theorem Lat.skip {found : As} {ps : List Ln} {later : As} {a h : Int} (l : Lat b found ps later) (hn : h ∈ found.map (·.1) ∨ h ∈ b) : Lat b found (ps ++ [(a, h)]) later where
  nd := l.nd
  src x r hm := by
    obtain ⟨a', q, h1, h2⟩ := l.src x r hm
    exact ⟨a', q, List.mem_append_left _ h1, h2⟩
  min a' x q h1 h2 h3 h4 := by
    rcases List.mem_append.mp h1 with z | z
    · exact l.min a' x q z h2 h3 h4
    · simp at z
      obtain ⟨rfl, rfl⟩ := z
      rcases hn with z | z
      · exact absurd z h3
      · exact absurd z h4
theorem Lat.go {found : As} {ps : List Ln} {later : As} {a h : Int} {q : List Int} (l : Lat b found ps later) (nd : (found.map (·.1)).Nodup) (hq : (a, q) ∈ found) (hn : h ∉ found.map (·.1)) (hb : h ∉ b) : Lat b found (ps ++ [(a, h)]) (put later h (if ltL ((lk later h).getD (q ++ [h])) (q ++ [h]) then (lk later h).getD (q ++ [h]) else q ++ [h])) where
  nd := put_nodup l.nd
  src x r hm := by
    rcases mem_put.mp hm with e | ⟨h1, h2⟩
    · injection e with e1 e2
      subst e1
      cases hk : lk later x with
      | none =>
        rw [hk] at e2
        simp only [Option.getD_none, ltL_irrefl, Bool.false_eq_true, if_false] at e2
        exact ⟨a, q, by simp, hq, e2, hn, hb⟩
      | some s =>
        rw [hk] at e2
        simp only [Option.getD_some] at e2
        split at e2
        · subst e2
          obtain ⟨a', q', h1, h2⟩ := l.src x r ((lk_mem l.nd).mp hk)
          exact ⟨a', q', List.mem_append_left _ h1, h2⟩
        · exact ⟨a, q, by simp, hq, e2, hn, hb⟩
    · obtain ⟨a', q', h3, h4⟩ := l.src x r h1
      exact ⟨a', q', List.mem_append_left _ h3, h4⟩
  min a' x q' h1 h2 h3 h4 := by
    have old : (a', x) ∈ ps → ∃ r, (x, r) ∈ put later h (if ltL ((lk later h).getD (q ++ [h])) (q ++ [h]) then (lk later h).getD (q ++ [h]) else q ++ [h]) ∧ ltL (q' ++ [x]) r = false := fun z => by
      obtain ⟨r, hr, hl⟩ := l.min a' x q' z h2 h3 h4
      by_cases e : x = h
      · subst e
        refine ⟨_, mem_put.mpr (.inl rfl), ?_⟩
        rw [(lk_mem l.nd).mpr hr]
        simp only [Option.getD_some]
        split
        · exact hl
        · rename_i w
          cases hc : ltL (q' ++ [x]) (q ++ [x]) with
          | false => rfl
          | true =>
            exfalso
            cases hd : ltL r (q ++ [x]) with
            | true => exact w hd
            | false =>
              cases he : ltL (q ++ [x]) r with
              | true => rw [ltL_trans hc he] at hl; cases hl
              | false => rw [ltL_tri hd he] at hl; rw [hl] at hc; cases hc
      · exact ⟨r, mem_put.mpr (.inr ⟨hr, e⟩), hl⟩
    rcases List.mem_append.mp h1 with z | z
    · exact old z
    · simp at z
      obtain ⟨rfl, rfl⟩ := z
      have e : q' = q := by
        have u := (lk_mem nd).mpr h2
        have v := (lk_mem nd).mpr hq
        rw [u] at v; exact Option.some.inj v
      subst e
      refine ⟨_, mem_put.mpr (.inl rfl), ?_⟩
      split
      · rename_i w
        cases hc : ltL (q' ++ [x]) ((lk later x).getD (q' ++ [x])) with
        | false => rfl
        | true => have := ltL_trans w hc; rw [ltL_irrefl] at this; cases this
      · exact ltL_irrefl _
theorem Bfs.next {k : Nat} {found later : As} {edge : List Int} {ps : List Ln} (B : Bfs ls b k found edge) (L : Lat b found ps later) (hps : ∀ a h, (a, h) ∈ ps ↔ a ∈ edge ∧ (a, h) ∈ ls) : Bfs ls b (k + 1) (found ++ later) (later.map (·.1)) := by
  -- a house that is not found has no short row
  have far : ∀ h r, h ∉ found.map (·.1) → To ls b h r → k + 2 ≤ r.length := fun h r hn t => by
    rcases Nat.lt_or_ge (k + 1) r.length with z | z
    · omega
    · exact absurd (B.all h r t z) hn
  have hasrow : ∀ a q h, (a, q) ∈ found → h ∉ found.map (·.1) → h ∉ q := fun a q h hm hn hq => by
    obtain ⟨p, hp, hl⟩ := (B.best a q hm).1.at hq
    have := B.le a q hm
    exact hn (B.all h p hp (by omega))
  have lrow : ∀ h r, (h, r) ∈ later → To ls b h r ∧ r.length = k + 2 ∧ h ∉ found.map (·.1) := fun h r hm => by
    obtain ⟨a, q, h1, h2, rfl, h3, h4⟩ := L.src h r hm
    obtain ⟨h5, h6⟩ := (hps a h).mp h1
    refine ⟨(B.best a q h2).1.step h6 (hasrow a q h h2 h3) h4, ?_, h3⟩
    obtain ⟨q', hq', hl⟩ := (B.edg a).mp h5
    have : q' = q := by
      have u := (lk_mem B.nd).mpr h2
      have v := (lk_mem B.nd).mpr hq'
      rw [u] at v; exact (Option.some.inj v).symm
    subst this
    simp [hl]
  -- a row of k + 2 houses to a house that is not found is no better than the one that is kept
  have reach : ∀ h r, h ∉ found.map (·.1) → To ls b h r → r.length = k + 2 → ∃ s, (h, s) ∈ later ∧ ltL r s = false := fun h r hn t hl => by
    rcases t.back with rfl | ⟨a, p, rfl, tp, hal, hp, hb⟩
    · simp at hl
    · have hpl : p.length = k + 1 := by simpa using hl
      have ha : a ∈ found.map (·.1) := B.all a p tp (by omega)
      obtain ⟨⟨a', q⟩, hq, e⟩ := List.mem_map.mp ha
      simp only [] at e
      subst e
      have bq := B.best a' q hq
      have hh := hasrow a' q h hq hn
      have hql : q.length = k + 1 := by
        have := far h _ hn (bq.1.step hal hh hb)
        have := B.le a' q hq
        simp at *; omega
      obtain ⟨s, hs, hls⟩ := L.min a' h q ((hps a' h).mpr ⟨(B.edg a').mpr ⟨q, hq, hql⟩, hal⟩) hq hn hb
      refine ⟨s, hs, ?_⟩
      have hpq : ltL p q = false := by
        cases z : ltL p q with
        | false => rfl
        | true => exact absurd (.inr ⟨by omega, z⟩) (bq.2 p tp)
      -- p ++ [h] is not less than q ++ [h]
      cases z : ltL (p ++ [h]) s with
      | false => rfl
      | true =>
        exfalso
        have hle : ltL (p ++ [h]) (q ++ [h]) = false := by
          rw [ltL_app (by omega)]
          split
          · exact ltL_irrefl _
          · exact hpq
        cases y : ltL (q ++ [h]) (p ++ [h]) with
        | true => rw [ltL_trans y z] at hls; cases hls
        | false => rw [ltL_tri hle y] at z; rw [z] at hls; cases hls
  refine ⟨?_, fun h r hm => ?_, fun h r t hl => ?_, fun h r hm => ?_, fun h => ?_⟩
  · rw [List.map_append]
    refine List.nodup_append.mpr ⟨B.nd, L.nd, fun x hx y hy e => ?_⟩
    obtain ⟨⟨h, r⟩, hr, rfl⟩ := List.mem_map.mp hy
    subst e
    exact (lrow _ _ hr).2.2 hx
  · rcases List.mem_append.mp hm with z | z
    · exact B.best h r z
    · obtain ⟨t, hl, hn⟩ := lrow h r z
      refine ⟨t, fun y hy w => ?_⟩
      have fy := far h y hn hy
      rcases w with w | ⟨w1, w2⟩
      · omega
      · obtain ⟨s, hs, e⟩ := reach h y hn hy (by omega)
        have : s = r := by
          have u := (lk_mem L.nd).mpr hs
          have v := (lk_mem L.nd).mpr z
          rw [u] at v; exact Option.some.inj v
        subst this
        rw [w2] at e; cases e
  · rw [List.map_append, List.mem_append]
    by_cases hn : h ∈ found.map (·.1)
    · exact .inl hn
    · have := far h r hn t
      obtain ⟨s, hs, _⟩ := reach h r hn t (by omega)
      exact .inr (List.mem_map.mpr ⟨_, hs, rfl⟩)
  · rcases List.mem_append.mp hm with z | z
    · have := B.le h r z; omega
    · have := (lrow h r z).2.1; omega
  · constructor
    · intro hm
      obtain ⟨⟨h', r⟩, hr, rfl⟩ := List.mem_map.mp hm
      exact ⟨r, List.mem_append_right _ hr, (lrow _ _ hr).2.1⟩
    · rintro ⟨r, hm, hl⟩
      rcases List.mem_append.mp hm with z | z
      · have := B.le h r z; omega
      · exact List.mem_map.mpr ⟨_, z, rfl⟩
theorem Bfs.stuck {k : Nat} {found : As} (B : Bfs ls b k found []) : ∀ (l : Nat) (h : Int) (r : List Int), r.length = l → To ls b h r → h ∈ found.map (·.1) := by
  intro l
  induction l with
  | zero => intro h r hl t; have := t.2; rw [List.length_eq_zero_iff.mp hl] at this; cases this
  | succ l ih =>
    intro h r hl t
    rcases t.back with rfl | ⟨a, p, rfl, tp, hal, hp, hb⟩
    · have : h = 0 := by have := t.2; simp at this; exact this.symm
      exact B.all h [0] t (by simp)
    · have ha := ih a p (by simpa using hl) tp
      obtain ⟨⟨a', q⟩, hq, e⟩ := List.mem_map.mp ha
      simp only [] at e
      subst e
      have hql : q.length ≤ k := by
        have h1 := B.le a' q hq
        rcases Nat.lt_or_ge q.length (k + 1) with z | z
        · omega
        · exact absurd ((B.edg a').mpr ⟨q, hq, by omega⟩) (by simp)
      by_cases hh : h ∈ q
      · obtain ⟨p', hp', hl'⟩ := (B.best a' q hq).1.at hh
        exact B.all h p' hp' (by omega)
      · exact B.all h (q ++ [h]) ((B.best a' q hq).1.step hal hh hb) (by simp; omega)
theorem To.rte {n : Int} {r : List Int} : To ls b (n - 1) r ↔ Rte ls b (n - 1) r := by
  unfold To Rte IsRow
  constructor
  · rintro ⟨⟨s, h1, h2⟩, h3⟩; exact ⟨s, h1, h2, h3⟩
  · rintro ⟨s, h1, h2, h3⟩; exact ⟨⟨s, h1, h2⟩, h3⟩
theorem best_iff {n : Int} {r : List Int} : Best (To ls b (n - 1)) r ↔ Best (Rte ls b (n - 1)) r := by
  unfold Best; simp only [To.rte]
/-- how the search ends -/
theorem Bfs.fin {n : Int} (g : Good n ls) {k : Nat} {found : As} {edge : List Int} (B : Bfs ls b k found edge) (h : edge = [] ∨ n - 1 ∈ found.map (·.1)) : lk found (n - 1) = arp n ls b := by
  cases hk : lk found (n - 1) with
  | some r => exact ((arp_some g).mpr (best_iff.mp (B.best _ r ((lk_mem B.nd).mp hk)))).symm
  | none =>
    have hn := lk_none.mp hk
    rcases h with rfl | h
    · symm
      rw [arp_none]
      cases hr : rts n ls b with
      | nil => rfl
      | cons r rs =>
        exfalso
        have : r ∈ rts n ls b := by rw [hr]; simp
        exact hn (B.stuck _ _ r rfl (To.rte.mpr ((mem_rts' g).mp this)))
    · exact absurd h hn
end
end Rt
end
section
set_option linter.all false
set_option maxRecDepth 100000
/-! Pt: rows by houses, as dicts. -/
namespace Rt
open Pv PySem L2
def encA (kvs : As) : List (D × D) := kvs.map fun p => (.int p.1, eT p.2)
theorem dfind_enc (kvs : As) (h : Int) : dfind (encA kvs) (.int h) = (lk kvs h).map eT := by
  unfold dfind encA lk
  induction kvs with
  | nil => rfl
  | cons x kvs ih =>
    rw [List.map_cons, List.find?_cons, List.find?_cons]
    simp only [D.eqv]
    by_cases e : x.1 = h
    · simp [e]
    · have : (x.1 == h) = false := by simpa using e
      rw [this, decide_eq_false e]
      exact ih
theorem putD_enc (kvs : As) (h : Int) (r : List Int) : putD (encA kvs) (.int h) (eT r) = encA (put kvs h r) := by
  unfold putD put encA
  have e1 : (kvs.map fun p => ((D.int p.1 : D), eT p.2)).any (fun kv => kv.1.eqv (.int h)) = kvs.any fun kv => decide (kv.1 = h) := by
    rw [List.any_map]
    congr 1
  rw [e1]
  split
  · rw [List.map_map, List.map_map]
    refine List.map_congr_left fun x _ => ?_
    simp only [Function.comp_def, D.eqv]
    by_cases e : x.1 = h <;> simp [e]
  · simp
theorem put_fresh {kvs : As} {h : Int} {r : List Int} (hn : h ∉ kvs.map (·.1)) : put kvs h r = kvs ++ [(h, r)] := by
  unfold put
  rw [if_neg]
  intro z
  obtain ⟨x, hx, e⟩ := List.any_eq_true.mp z
  exact hn (List.mem_map.mpr ⟨x, hx, of_decide_eq_true e⟩)
theorem merge_enc : ∀ (ys xs : As), ((xs ++ ys).map (·.1)).Nodup → mergeD (encA xs) (encA ys) = encA (xs ++ ys)
  | [], xs, _ => by simp [mergeD, encA]
  | y :: ys, xs, nd => by
    have hy : y.1 ∉ xs.map (·.1) := fun z => by
      rw [List.map_append, List.nodup_append] at nd
      exact nd.2.2 _ z _ (by simp) rfl
    have := merge_enc ys (xs ++ [y]) (by simpa using nd)
    unfold mergeD at this ⊢
    have e : encA (y :: ys) = (.int y.1, eT y.2) :: encA ys := rfl
    rw [e, List.foldl_cons]
    show List.foldl _ (putD (encA xs) (.int y.1) (eT y.2)) (encA ys) = _
    rw [putD_enc, put_fresh hy, this]
    simp
theorem ltOk_eT (x y : List Int) : ltOk (eT x) (eT y) = true := by
  unfold ltOk
  have h1 : (eT x).alk (eT y) = true := by
    simp only [eT, D.alk]
    exact alkAll_I (List.all_eq_true.mpr fun d hd => by obtain ⟨i, _, rfl⟩ := List.mem_map.mp hd; rfl) (List.all_eq_true.mpr fun d hd => by obtain ⟨i, _, rfl⟩ := List.mem_map.mp hd; rfl)
  rw [show (eT x).pl PLN = true from pl_eT (n := 39), show (eT y).pl PLN = true from pl_eT (n := 39), h1]
  rfl
end Rt
end
section
set_option linter.all false
set_option maxRecDepth 100000
/-! Pu: bands as data; each once, ascending. -/
namespace Rt
open Pv PySem L2
def eL (r : List Int) : D := .lst (r.map .int)
inductive BandsD : D → List (List Int) → Prop
  | t (bss : List (List Int)) : BandsD (.tup (bss.map eT)) bss
  | l (bss : List (List Int)) : BandsD (.lst (bss.map eL)) bss
theorem setOk_ints {xs : List Int} (h : xs.length ≤ 4000) : setOk (xs.map D.int) = true := by
  unfold setOk
  have : (xs.map D.int).all isI = true := List.all_eq_true.mpr fun d hd => by obtain ⟨x, _, rfl⟩ := List.mem_map.mp hd; rfl
  rw [this, List.length_map, Nat.ble_eq_true_of_le h]; rfl
theorem setOk_eT {rs : List (List Int)} (h : rs.length ≤ 60) : setOk (rs.map eT) = true := by
  unfold setOk
  have : (rs.map eT).all isIT = true := List.all_eq_true.mpr fun d hd => by obtain ⟨x, _, rfl⟩ := List.mem_map.mp hd; exact isIT_eT x
  rw [this, List.length_map, Nat.ble_eq_true_of_le h, Bool.true_and, Bool.or_true]
theorem sortOk_int (xs : List Int) : sortOk (xs.map D.int) = true := by
  unfold sortOk alkP
  simp only [Bool.and_eq_true, Bool.not_eq_true', List.any_eq_false]
  refine ⟨⟨plAll_ints _ _, List.all_eq_true.mpr fun x hx => List.all_eq_true.mpr fun y hy => ?_⟩, fun x hx => ?_⟩
  · obtain ⟨a, _, rfl⟩ := List.mem_map.mp hx
    obtain ⟨b, _, rfl⟩ := List.mem_map.mp hy
    simp [D.alk]
  · obtain ⟨a, _, rfl⟩ := List.mem_map.mp hx
    simp [isNone]
/-- each once, ascending -/
def uni (xs : List Int) : List Int := (isort (nubD (xs.map .int))).map ival
def uniT (rs : List (List Int)) : List (List Int) := (isort (nubD (rs.map eT))).map itval
theorem mem_sset {xs : List D} (h : sortOk xs = true) (d : D) : d ∈ isort (nubD xs) ↔ d ∈ xs := by
  rw [(isort_perm _).mem_iff, mem_nubD h fun _ q => q]
theorem uni_eq (xs : List Int) : isort (nubD (xs.map .int)) = (uni xs).map .int := isI_map (List.all_eq_true.mpr fun d hd => by
  rw [mem_sset (sortOk_int xs)] at hd
  obtain ⟨x, _, rfl⟩ := List.mem_map.mp hd; rfl)
theorem map_isIT : ∀ {xs : List D}, xs.all isIT = true → xs = (xs.map itval).map eT
  | [], _ => rfl
  | x :: xs, h => by
    simp only [List.all_cons, Bool.and_eq_true] at h
    rw [List.map_cons, List.map_cons, ← map_isIT h.2]
    congr 1
    exact isIT_eq h.1
theorem uniT_eq (rs : List (List Int)) : isort (nubD (rs.map eT)) = (uniT rs).map eT := map_isIT (List.all_eq_true.mpr fun d hd => by
  rw [mem_sset (sortOk_eT rs)] at hd
  obtain ⟨x, _, rfl⟩ := List.mem_map.mp hd; exact isIT_eT x)
theorem mem_uni {xs : List Int} {x : Int} : x ∈ uni xs ↔ x ∈ xs := by
  have := mem_sset (sortOk_int xs) (.int x)
  rw [uni_eq] at this
  simpa using this
theorem mem_uniT {rs : List (List Int)} {r : List Int} : r ∈ uniT rs ↔ r ∈ rs := by
  have := mem_sset (sortOk_eT rs) (eT r)
  rw [uniT_eq] at this
  simp only [List.mem_map] at this
  constructor
  · intro h
    obtain ⟨s, hs, e⟩ := this.mp ⟨r, h, rfl⟩
    rw [← eT_inj e]; exact hs
  · intro h
    obtain ⟨s, hs, e⟩ := this.mpr ⟨r, h, rfl⟩
    rw [← eT_inj e]; exact hs
theorem nodup_of_map {α β : Type} (f : α → β) {xs : List α} (h : (xs.map f).Nodup) : xs.Nodup := (List.pairwise_map.mp h).imp fun h e => h (by rw [e])
theorem nodup_uni (xs : List Int) : (uni xs).Nodup := nodup_of_map D.int (by rw [← uni_eq]; exact (isort_perm _).nodup_iff.mpr (nodup_nubD (sortOk_int xs) fun _ q => q))
theorem nodup_uniT (rs : List (List Int)) : (uniT rs).Nodup := nodup_of_map eT (by rw [← uniT_eq]; exact (isort_perm _).nodup_iff.mpr (nodup_nubD (sortOk_eT rs) fun _ q => q))
theorem asc_uni (xs : List Int) : ((uni xs).map D.int).Pairwise leD' := by
  rw [← uni_eq]
  obtain ⟨hp, ha, _⟩ := sortOk_pl (sortOk_int xs)
  exact isort_sorted hp ha fun y hy => (mem_nubD (sortOk_int xs) (fun _ q => q) y).mp hy
theorem asc_uniT (rs : List (List Int)) : ((uniT rs).map eT).Pairwise leD' := by
  rw [← uniT_eq]
  obtain ⟨hp, ha, _⟩ := sortOk_pl (sortOk_eT rs)
  exact isort_sorted hp ha fun y hy => (mem_nubD (sortOk_eT rs) (fun _ q => q) y).mp hy
theorem len_nubD : ∀ xs : List D, (nubD xs).length ≤ xs.length
  | [] => Nat.le_refl _
  | x :: xs => by
    have := len_nubD xs
    unfold nubD
    split <;> simp <;> omega
theorem len_uniT (rs : List (List Int)) : (uniT rs).length ≤ rs.length := by
  unfold uniT; rw [List.length_map, (isort_perm _).length_eq]
  have := len_nubD (rs.map eT); simpa using this
theorem eT_eqv (x y : List Int) : (eT x).eqv (eT y) = (x == y) := by
  simp only [eT, D.eqv]
  induction x generalizing y with
  | nil => cases y <;> simp [eqvAll]
  | cons a x ih =>
    cases y with
    | nil => simp [eqvAll]
    | cons b y => simp only [List.map_cons, eqvAll, D.eqv, ih]; simp
theorem any_eT (rs : List (List Int)) (r : List Int) : (rs.map eT).any (fun y => y.eqv (eT r)) = rs.contains r := by
  induction rs with
  | nil => rfl
  | cons x rs ih =>
    rw [List.map_cons, List.any_cons, ih, List.contains_cons, eT_eqv]
    congr 1
    exact Bool.beq_comm
theorem wo_nin_TL {m : Mu} {r : List Int} {rs : List (List Int)} {QO : D → Prop} : WO (ninD m (eT r) (.lst (rs.map eT))) QO = QO (.bl (!rs.contains r)) := by
  show WO (if ((eT r).pl (39 + 1) && plAll (39 + 1) (rs.map eT)) = true then some (D.bl (!(rs.map eT).any fun y => y.eqv (eT r))) else none) QO = _
  rw [pl_eT, plAll_map (fun r => pl_eT), Bool.and_self, if_pos rfl, wo_some, any_eT]
end Rt
end
section
set_option Elab.async false
set_option linter.all false
set_option maxRecDepth 100000
/-! Pw: range downwards. -/
namespace Pv
open PySem L2 PySem.W PyProof.Rows PySem.SeqAt PySem.Calls
def downI (lo : Int) : Nat → List D
  | 0 => []
  | n + 1 => .int lo :: downI (lo - 1) n
def rg3 : List D → Option (List D)
  | [.int i, .int j, .int k] => if rgOk i j && decide (k = -1) then some (downI i (i - j).toNat) else none
  | _ => none
def iRg3 (c : Gam → Mu → R (List D)) : IC := fun Γ m => (c Γ m).bind fun ds m1 => R.of (rg3 ds) m1
end Pv
namespace Rt
open Pv PySem L2
@[simp ↓, simp] theorem wr_irg3 {cs : Gam → Mu → R (List D)} {Γ : Gam} {m : Mu} {Q : List D → Mu → Prop} : WR (iRg3 cs Γ m) Q = WR (cs Γ m) fun ds m1 => WO (rg3 ds) fun xs => Q xs m1 := by
  unfold iRg3; rw [wr_bind]; congr; funext ds m1; rw [wr_of]
end Rt
end
section
set_option linter.all false
set_option maxRecDepth 100000
/-! Rt6: all routes, lap by lap. -/
namespace Rt
open Pv
section
variable {n : Int} {ls : List Ln}
def isE (n : Int) (r : List Int) : Bool := decide (r.getLast? = some (n - 1))
def nxt1 (ls : List Ln) (r : List Int) : List (List Int) := (ext ls [] r).map fun x => r ++ [x]
def nxtOf (ls : List Ln) (rest : List (List Int)) : List (List Int) := rest.flatMap (nxt1 ls)
structure Lap (n : Int) (ls : List Ln) (j : Nat) (found rest : List (List Int)) : Prop where
  perm : (found ++ rest.flatMap (ways n ls [])).Perm (ways n ls [] [0])
  row : ∀ r ∈ rest, IsRow ls [] r ∧ r.getLast? ≠ some (n - 1) ∧ r.length = j + 1
  size : found.length + (rest.map (szr n ls [])).sum ≤ szr n ls [] [0]
theorem lap_split : ∀ N : List (List Int), (N.filter (isE n) ++ (N.filter fun r => !isE n r).flatMap (ways n ls [])).Perm (N.flatMap (ways n ls []))
  | [] => by simp
  | r :: N => by
    have ih := lap_split N
    cases h : isE n r
    · rw [List.filter_cons_of_neg (by simp [h]), List.filter_cons_of_pos (by simp [h]), List.flatMap_cons, List.flatMap_cons]
      refine (List.perm_append_comm_assoc _ _ _).trans ?_
      exact List.Perm.append_left _ ih
    · rw [List.filter_cons_of_pos h, List.filter_cons_of_neg (by simp [h]), List.flatMap_cons, ways_end (by simpa [isE] using h)]
      exact List.Perm.cons _ ih
theorem lap_sum : ∀ N : List (List Int), (N.filter (isE n)).length + ((N.filter fun r => !isE n r).map (szr n ls [])).sum = (N.map (szr n ls [])).sum
  | [] => by simp
  | r :: N => by
    have ih := lap_sum N
    cases h : isE n r
    · rw [List.filter_cons_of_neg (by simp [h]), List.filter_cons_of_pos (by simp [h]), List.map_cons, List.sum_cons, List.map_cons, List.sum_cons]
      omega
    · rw [List.filter_cons_of_pos h, List.filter_cons_of_neg (by simp [h]), List.length_cons, List.map_cons, List.sum_cons, szr_end (by simpa [isE] using h)]
      omega
theorem nxt_ways (g : Good n ls) {rest : List (List Int)} (h : ∀ r ∈ rest, IsRow ls [] r ∧ r.getLast? ≠ some (n - 1)) : (nxtOf ls rest).flatMap (ways n ls []) = rest.flatMap (ways n ls []) := by
  unfold nxtOf
  induction rest with
  | nil => rfl
  | cons r rest ih =>
    rw [List.flatMap_cons, List.flatMap_append, List.flatMap_cons, ih fun x hx => h x (List.mem_cons_of_mem _ hx)]
    congr 1
    obtain ⟨h1, h2⟩ := h r List.mem_cons_self
    rw [ways_go g h1 h2]
    unfold nxt1
    rw [List.flatMap_map]
theorem nxt_sum (g : Good n ls) {rest : List (List Int)} (h : ∀ r ∈ rest, IsRow ls [] r ∧ r.getLast? ≠ some (n - 1)) : ((nxtOf ls rest).map (szr n ls [])).sum ≤ (rest.map (szr n ls [])).sum := by
  unfold nxtOf
  induction rest with
  | nil => simp
  | cons r rest ih =>
    have ih := ih fun x hx => h x (List.mem_cons_of_mem _ hx)
    rw [List.flatMap_cons, List.map_append, List.sum_append, List.map_cons, List.sum_cons]
    obtain ⟨h1, h2⟩ := h r List.mem_cons_self
    rw [szr_go g h1 h2]
    have : ((nxt1 ls r).map (szr n ls [])).sum = ((ext ls [] r).map fun x => szr n ls [] (r ++ [x])).sum := by
      unfold nxt1; rw [List.map_map]; rfl
    omega
theorem nxt_row {j : Nat} {rest : List (List Int)} (h : ∀ r ∈ rest, IsRow ls [] r ∧ r.length = j + 1) : ∀ r ∈ nxtOf ls rest, IsRow ls [] r ∧ r.length = j + 2 := by
  intro r hr
  unfold nxtOf nxt1 at hr
  simp only [List.mem_flatMap, List.mem_map] at hr
  obtain ⟨q, hq, x, hx, rfl⟩ := hr
  obtain ⟨h1, h2⟩ := h q hq
  exact ⟨h1.ext hx, by simp [h2]⟩
theorem Lap.len {j : Nat} {found rest : List (List Int)} (g : Good n ls) (l : Lap n ls j found rest) : found.length + (nxtOf ls rest).length ≤ szr n ls [] [0] ∧ found.length + ((nxtOf ls rest).filter (isE n)).length ≤ szr n ls [] [0] := by
  have h1 := nxt_sum g fun r hr => ⟨(l.row r hr).1, (l.row r hr).2.1⟩
  have h2 := sum_pos (f := szr n ls []) (xs := nxtOf ls rest) fun x _ => sz_pos _ _
  have h3 := l.size
  have h4 := List.length_filter_le (isE n) (nxtOf ls rest)
  omega
theorem Lap.next {j : Nat} {found rest : List (List Int)} (g : Good n ls) (l : Lap n ls j found rest) : Lap n ls (j + 1) (found ++ (nxtOf ls rest).filter (isE n)) ((nxtOf ls rest).filter fun r => !isE n r) where
  perm := by
    have h := l.perm
    rw [← nxt_ways g fun r hr => ⟨(l.row r hr).1, (l.row r hr).2.1⟩] at h
    refine List.Perm.trans ?_ h
    rw [List.append_assoc]
    exact List.Perm.append_left _ (lap_split _)
  row := by
    intro r hr
    obtain ⟨h1, h2⟩ := List.mem_filter.mp hr
    obtain ⟨h3, h4⟩ := nxt_row (fun r hr => ⟨(l.row r hr).1, (l.row r hr).2.2⟩) r h1
    exact ⟨h3, by simpa [isE] using h2, h4⟩
  size := by
    have h1 := nxt_sum g fun r hr => ⟨(l.row r hr).1, (l.row r hr).2.1⟩
    have h2 := lap_sum (n := n) (ls := ls) (nxtOf ls rest)
    have h3 := l.size
    rw [List.length_append]; omega
theorem Lap.fin {found rest : List (List Int)} (g : Good n ls) (l : Lap n ls n.toNat found rest) : isort (found.map eT) = (rts n ls []).map eT := by
  have hr : rest = [] := List.eq_nil_iff_forall_not_mem.mpr fun r hr => by
    obtain ⟨h1, h2, h3⟩ := l.row r hr
    have := h1.len g
    omega
  subst hr
  have hp : found.Perm (ways n ls [] [0]) := by simpa using l.perm
  exact rts_of g (hp.nodup_iff.mpr (ways_nodup g _)) fun r => (hp.mem_iff).trans (ways_rte g r)
end
end Rt
end
section
set_option Elab.async false
set_option linter.all false
set_option maxRecDepth 100000
/-! Pw2: sorted(a tuple). -/
namespace Pv
open PySem L2 PySem.W PyProof.Rows PySem.SeqAt PySem.Calls
section
variable {prog : Program} {w : World} {A : Around} {E : Value → Shared → Prop} {s : Shared} {l : Addr} {vs : List Value}
theorem collect_tupX {R : List Value → Shared → Prop} (hl : IsTup s.heap l vs.toArray) (hn : vs.length ≤ sizeLine)
    (k : R vs { s with heap := (s.heap.push (seqObj "list" #[] 0)).update s.heap.objs.size (Obj.mapSeq (· ++ vs.toArray)) }) : wpAny (model prog w) A (collect (.ref l)) R E s := by
  obtain ⟨o, ho, hc, n, hd⟩ := id hl
  have ho' : (s.heap.push (seqObj "list" #[] 0)).get? l = some o := Heap.get?_push_of_some _ ho
  unfold collect; refine wpAny_bind (wpAny_runValue (codeAny_builtin entry_proto_collect' ?_)); show wpAny _ _ (do again (.builtin "list.__iadd__" ⟨[← newList [], .ref l], []⟩)) _ _ s
  refine wpAny_bind (wpAny_newList (wpAny_pure ⟨Code.quiet_builtin _ (by decide +kernel), codeAny_builtin entry_list_iadd' ?_⟩)); show wpAny _ _ (Builtin.List.listExtendWith (.ref s.heap.objs.size) (.ref l) (.ref s.heap.objs.size)) _ _ { s with heap := s.heap.push (seqObj "list" #[] 0) }
  unfold Builtin.List.listExtendWith; refine wpAny_bind (wpAny_typeOf (T := "tuple") ⟨o, ho', hc⟩ ?_)
  rw [if_pos (by simp)]
  refine wpAny_bind (listItems_at ho' hd ?_); refine wpAny_bind (listItems_at (xs := #[]) (n := 0) (Heap.get?_push_size _ rfl) rfl ?_)
  rw [if_neg (by simp)]
  refine wpAny_bind (listUpdate_at (xs := #[]) (n := 0) (Heap.get?_push_size _ rfl) rfl ?_ (Nat.zero_le _) (by show (#[] ++ vs.toArray).size ≤ sizeLine + 1; simp only [Array.size_append, List.size_toArray, List.length_nil]; omega)); refine wpAny_pure ?_
  show wpAny (model prog w) A (load s.heap.objs.size >>= fun o => match o.data with | .seq xs _ => pure xs.toList | _ => unsupported "internal:collect") R E { s with heap := (s.heap.push (seqObj "list" #[] 0)).update s.heap.objs.size (Obj.mapSeq (· ++ vs.toArray)) }
  refine wpAny_bind (wpAny_load (get?_update_seq (Heap.get?_push_size _ rfl) _) ?_); show wpAny _ _ (pure ((#[] : Array Value) ++ vs.toArray).toList) R E _
  have e : ((#[] : Array Value) ++ vs.toArray).toList = vs := by simp
  rw [e]; exact wpAny_pure k
theorem sortedX_vals {κ : KeyKind} {R : Value → Shared → Prop} (hl : IsTup s.heap l vs.toArray) (S : SortsAt prog w A.in1.in1 { s with heap := sortingHeap (copyHeap s.heap vs) (s.heap.objs.size + 1) vs } κ vs) (hn : vs.length ≤ sizeLine)
    (k : R (.ref (s.heap.objs.size + 1)) { s with heap := sortedAll s.heap vs (sortVals κ false vs vs).toArray }) : wpAny (model prog w) A (call (.builtin "sorted") [.ref l]) R E s := by
  refine call_function_entry_kw kind_sorted plain_sorted entry_sorted (args_sorted1 _) ?_
  unfold Builtin.«sorted»; refine wpAny_bind (m := checkCount "sorted" 1 1 _) (wpAny_pure ?_); refine wpAny_bind (collect_tupX hl hn ?_); refine wpAny_bind (wpAny_newList ?_ hn)
  have z : ((s.heap.push (seqObj "list" #[] 0)).update s.heap.objs.size (Obj.mapSeq (· ++ vs.toArray))).objs.size = s.heap.objs.size + 1 := by rw [Heap.size_update, size_push']
  show wpAny _ _ _ _ _ { s with heap := copyHeap s.heap vs }
  rw [z]
  refine wpAny_bind (wpAny_holding (wpAny_call_entry_kw slot_list_sort ⟨_, copyHeap_at s.heap vs, rfl⟩ entry_list_sort ?b (args_list_sort _)))
  case b =>
    show wpAny (model prog w) A.in1.in1 (Builtin.«list.sort» ⟨[.ref (s.heap.objs.size + 1)], []⟩) _ _ _
    refine list_sort_vals (s := { s with heap := copyHeap s.heap vs }) (copyHeap_at s.heap vs) S hn ?_
    exact ⟨_, rfl, wpAny_pure ⟨_, rfl, k⟩⟩
end
section
variable {f : Bool} {X : Cx}
def rSortX (K : PySem.W.Frag) : List V → Hp → VK → Prop := fun vs H Q => ∃ (p : Addr) (bs : List (V × D)) (ρ : List Addr), vs = [V.ref p] ∧ SqT K H p (bs.map (·.1)) ∧ (∀ b ∈ bs, Rep K ρ H b.1 b.2) ∧ sortOk (bs.map (·.2)) = true ∧
  ∀ (cs : List (V × D)) (l : Addr), cs.Perm bs → cs.map (·.2) = isort (bs.map (·.2)) → H l = none → Q (.ref l) (upd H l (.lst (cs.map (·.1))))
theorem cr_sortX (hu : X.A.units + 64 < cLine) : CallR X (.builtin "sorted") (rSortX X.K) := by
  intro pins s σ H vs us Q I r h
  obtain ⟨p, bs, ρ, rfl, hs, hr, hok, q⟩ := h
  obtain ⟨its, rv, hl, hz⟩ := I.tuple hs
  rw [Vals.ref1 r]
  obtain ⟨hp, ha, hn⟩ := sortOk_pl hok
  have e := each_vals rv
  have mem : ∀ b ∈ bs, b.2 ∈ bs.map (·.2) := fun b hb => List.mem_map.mpr ⟨b, hb, rfl⟩
  have er : EachIs (fun v (b : V × D) => ∃ as, Reads s.heap v (b.2.toPy) as) its bs := (each_mem e).mono fun v b ⟨rb, hb⟩ => Rep.reads I (plAll_mem hp _ (mem b hb)) (hr b hb) rb
  have er' : EachIs (fun v (b : V × D) => ∃ as, Reads (sortingHeap (copyHeap s.heap its) (s.heap.objs.size + 1) its) v (b.2.toPy) as) its bs := er.mono fun _ _ ⟨as, r⟩ => ⟨as, PyProof.Rows.Reads.keeps (fun _ _ => sorting_copy_old) r⟩
  have hal : AllAlike (bs.map fun b => b.2.toPy) := by
    intro d hd d' hd'
    obtain ⟨b, hb, rfl⟩ := List.mem_map.mp hd
    obtain ⟨b', hb', rfl⟩ := List.mem_map.mp hd'
    rw [alk_py (plAll_mem hp _ (mem b hb)) (plAll_mem hp _ (mem b' hb'))]
    exact alkP_get hp ha (mem b hb) (mem b' hb')
  have hnn : ∀ d ∈ bs.map (fun b => b.2.toPy), d ≠ .none := by
    intro d hd
    obtain ⟨b, hb, rfl⟩ := List.mem_map.mp hd
    exact py_none (plAll_mem hp _ (mem b hb)) (hn _ (mem b hb))
  have hd : ∀ d ∈ bs.map (fun b => b.2.toPy), X.A.in1.in1.units + d.depth < cLine := by
    intro d hd
    obtain ⟨b, hb, rfl⟩ := List.mem_map.mp hd
    have := depth_of (plAll_mem hp _ (mem b hb))
    have e1 : X.A.in1.in1.units = X.A.units + 2 := rfl
    rw [e1]
    unfold PLN at this
    omega
  have hlen : its.length = bs.length := by rw [e.length]
  refine sortedX_vals hl (sortsAt_any (s := { s with heap := sortingHeap (copyHeap s.heap its) (s.heap.objs.size + 1) its }) (each_map (R := fun v d => ∃ as, Reads (sortingHeap (copyHeap s.heap its) (s.heap.objs.size + 1) its) v d as) (fun b : V × D => b.2.toPy) er') hal hnn hd) (by rw [hlen]; simpa using hz) ?_
  have eo := sortVals_data (h' := sortingHeap (copyHeap s.heap its) (s.heap.objs.size + 1) its) false e er' hal
  obtain ⟨ep, he'⟩ := PyProof.Rows.sortedAll_at s.heap its (sortVals (dataKind (sortingHeap (copyHeap s.heap its) (s.heap.objs.size + 1) its) (bs.map fun b => b.2.toPy)) false its its).toArray
  refine ⟨.ref _, upd H (s.heap.objs.size + 1) (.lst ((bs.mergeSort (dataLe false fun b => b.2.toPy)).map (·.1))), I.laid (t' := s.toks) (fun _ _ => PyProof.Rows.sortedAll_old) (Nat.le_succ _) ⟨?_, _, ep, vals_each eo, he'⟩, rfl, q _ _ (List.mergeSort_perm ..) (isort_merge hp ha) (I.hok.fresh (Nat.le_succ _))⟩
  rw [List.length_map, List.length_mergeSort]
  simpa using hz
def sortTD : Mu → D → Option D
  | _, .tup xs => if sortOk xs then some (.lst (isort xs)) else none
  | _, _ => none
theorem rd_sortX : RdD f X (fun x H Q => rSortX X.K [x] H Q) sortTD := by
  intro x H Q W ρ m Hs d z b hx hg o
  cases d <;> simp only [sortTD] at hg <;> try (cases hg; done)
  case tup ds =>
    obtain ⟨hok, rfl⟩ := of_if hg
    obtain ⟨a, vs, rfl, h1, h2, _⟩ := hx.itemsT b
    obtain ⟨z1, z2, z3⟩ := h2.zip
    refine ⟨a, vs.zip ds, ρ, rfl, by rw [z1]; exact h1, fun c hc => (z3 c hc).mono (.refl _) b.sub, by rw [z2]; exact hok, fun cs l pm e hl => ?_⟩
    rw [z2] at e
    refine OutB.newL b ?_ o hl
    rw [← e]
    exact RepAll.unzip fun c hc => z3 c (pm.mem_iff.mp hc)
theorem ev_sortedT {H0 : Hp} {W : WX} {ω : List Md} {a : Expr} {ca : EC} {p pos : Pos} (B : Bn X.mg) (hu : X.A.units + 64 < cLine) (ha : BV X H0 W ω a ca) (hg : Gl X "sorted" := by rfl) (he : starEach [a] X.env = [(false, eval a X.env)] := by rfl) : EB f X H0 W ω (.Call (.Name "sorted" p) [a] [] pos) (c1 sortTD ca) :=
  ev_callB (cr_sortX hu) rd_sortX hg B.sorted (by decide +kernel) ha (he := he)
end
end Pv
namespace Rt
open Pv PySem L2
@[simp ↓, simp] theorem wo_sortT {m : Mu} {xs : List D} {Q : D → Prop} : WO (sortTD m (.tup xs)) Q = (sortOk xs = true ∧ Q (.lst (isort xs))) := by
  show WO (if sortOk xs = true then some (D.lst (isort xs)) else none) Q = _
  cases h : sortOk xs <;> simp
end Rt
end
section
set_option Elab.async false
set_option linter.all false
set_option maxRecDepth 100000
/-! Pw3: min of a list. -/
namespace Pv
open PySem L2 PySem.W PyProof.Rows PySem.SeqAt PySem.Calls
end Pv
end
section
set_option Elab.async false
set_option linter.all false
set_option maxRecDepth 100000
/-! Pw4: sorted(xs, key=len) of a list of tuples. -/
namespace Pv
open PySem L2 PySem.W PyProof.Rows PySem.SeqAt PySem.Calls
end Pv
end
section
set_option Elab.async false
set_option linter.all false
set_option maxRecDepth 100000
/-! Pw5: sum(lists, []). -/
namespace Pv
open PySem L2 PySem.W PyProof.Rows PySem.SeqAt PySem.Calls
end Pv
namespace Rt
open Pv PySem L2
end Rt
end
section
set_option Elab.async false
set_option linter.all false
set_option maxRecDepth 100000
/-! Pw6: enumerate over a tuple or a list. -/
namespace Pv
open PySem L2 PySem.W PyProof.Rows PySem.SeqAt
def SqA (K : PySem.W.Frag) (k : Bool) (H : Hp) (a : Addr) (xs : List V) : Prop := match k with
  | true => SqT K H a xs
  | false => SqL K H a xs
def IsA (k : Bool) (h : Heap) (a : Addr) (its : Array Value) : Prop := match k with
  | true => h.IsTuple a its
  | false => h.IsList a its
def ItA (k : Bool) (h : Heap) (it a : Addr) (i : Nat) : Prop := match k with
  | true => h.IsTupleIter it a i
  | false => h.IsListIter it a i
def itO (k : Bool) (a : Addr) : Obj := match k with
  | true => { cls := .type "tuple_iterator", data := .fields #[.ref a, .int 0 0] }
  | false => { cls := .type "list_iterator", data := .fields #[.ref a, .int 0 0] }
theorem drawsA {prog : Program} {w : World} {A : Around} (k : Bool) (hh : A.handled = none) (it a : Addr) (hne : a ≠ it) (items : Array Value) : Draws prog w A it [it, a] items.size (fun i v => items[i]? = some v) (fun i h => ItA k h it a i ∧ IsA k h a items) := match k with
  | true => Draws.tuple hh it a hne items
  | false => Draws.list hh it a hne items
theorem beginsA (k : Bool) (a : Addr) (items : Array Value) : Begins (.ref a) (itO k a) fun h => IsA k h a items := match k with
  | true => begins_tuple a items
  | false => begins_list a items
theorem invA {X : Cx} {pins : List (Addr × Obj)} {σ : L2.St} {H : Hp} {s : Shared} {k : Bool} {a : Addr} {xs : List V} (I : Inv X pins σ H s) (h : SqA X.K k H a xs) : ∃ its : List Value, Vals xs its ∧ IsA k s.heap a its.toArray ∧ a < s.heap.objs.size := by
  cases k with
  | true =>
    obtain ⟨its, rv, p, _⟩ := I.tuple h
    exact ⟨its, rv, p, p.lt⟩
  | false =>
    obtain ⟨its, rv, p, _⟩ := I.list h
    exact ⟨its, rv, p.isList, p.lt⟩
theorem itA_obj {k : Bool} {h : Heap} {it a : Addr} {i : Nat} (st : ItA k h it a i) : ∃ o, h.get? it = some o ∧ ∀ v, o.data ≠ .cell v := by
  cases k with
  | true => obtain ⟨o, e, c, d⟩ := st; exact ⟨o, e, fun v z => by rw [d] at z; cases z⟩
  | false => obtain ⟨o, e, c, d⟩ := st; exact ⟨o, e, fun v z => by rw [d] at z; cases z⟩
theorem itA_keep {k : Bool} {h h' : Heap} {it a : Addr} {i : Nat} (st : ItA k h it a i) (e : ∀ o, h.get? it = some o → h'.get? it = some o) : ItA k h' it a i := by
  cases k with
  | true => exact Heap.IsTupleIter.at st e
  | false => exact Heap.IsListIter.at st e
theorem itA_new {k : Bool} {h : Heap} {it a : Addr} (e : h.get? it = some (itO k a)) : ItA k h it a 0 := by
  cases k with
  | true => exact ⟨_, e, rfl, rfl⟩
  | false => exact ⟨_, e, rfl, rfl⟩
section
variable {prog : Program} {w : World} {A : Around} {E : Value → Shared → Prop} {s : Shared}
set_option maxHeartbeats 1000000 in
theorem meets_enumB1 {v : Value} {o : Obj} {H : Heap → Prop} (B : Begins v o H) :
    Meets (Builtin.«enumerate.__new__» ⟨[.type "enumerate", v], []⟩) (fun _ R s => H s.heap ∧
      R (.ok (.ret (.ref (s.heap.push o).objs.size))) { s with heap := (s.heap.push o).push { cls := .type "enumerate", data := .fields #[.none, .bool false, .ref s.heap.objs.size, rawInt 0, .none, .none] } }) :=
  .of_wp fun prog w A R s h => by
    obtain ⟨hp, g, d, tk, os⟩ := s; obtain ⟨h1, h⟩ := h
    have hsub := sub_enumerate
    have q1 : ∀ {A' : Around} {E : Value → Shared → Prop} {Q : Value → Shared → Prop}, Q (.ref hp.objs.size) ⟨hp.push o, g, d, tk, os⟩ → wpAny (model prog w) A' (pyIter v) Q E ⟨hp, g, d, tk, os⟩ :=
      fun q => B.iter prog w _ _ ⟨hp, g, d, tk, os⟩ _ h1 q
    wp_walk using q1
    refine wpAny_stack_any fun st => wpAny_pure ?_
    split
    · rename_i c _ _ _ _ _
      cases (c == Value.type "enumerate")
      · wp_walk using q1
        exact ⟨_, rfl, h⟩
      · wp_walk using q1
        exact ⟨_, rfl, h⟩
    · wp_walk using q1
      exact ⟨_, rfl, h⟩
theorem enum_begins1 {v : Value} {o : Obj} {H : Heap → Prop} {Q : Value → Shared → Prop} (B : Begins v o H) (h1 : H s.heap)
    (h : ∀ h', IsEnum h' (s.heap.objs.size + 1) s.heap.objs.size 0 .none → h'.get? s.heap.objs.size = some o → h'.objs.size = s.heap.objs.size + 2 →
      (∀ b o, s.heap.get? b = some o → h'.get? b = some o) → Q (.ref (s.heap.objs.size + 1)) { s with heap := h' }) :
    wpAny (model prog w) A (call (.type "enumerate") [v]) Q E s := by
  refine callType_new F.called_enumerate (by decide) (F.typeCall_enumerate_1 _) (F.newCall_enumerate_1 _) (fun obj => F.args_object_init_2 obj _) F.entry_enumerate_new (meets_enumB1 B) ⟨h1, ?_⟩
  have hz : (s.heap.push o).objs.size = s.heap.objs.size + 1 := Heap.size_push ..
  show _ ∧ _
  rw [hz]
  have he : IsEnum ((s.heap.push o).push { cls := .type "enumerate", data := .fields #[.none, .bool false, .ref s.heap.objs.size, rawInt 0, .none, .none] }) (s.heap.objs.size + 1) s.heap.objs.size 0 .none := by
    have := Heap.get?_push_size (s.heap.push o) (o := { cls := .type "enumerate", data := .fields #[.none, .bool false, .ref s.heap.objs.size, rawInt 0, .none, .none] }) rfl
    rw [hz] at this; exact this
  refine ⟨⟨_, he, rfl⟩, h _ he (Heap.get?_push_of_some _ (Heap.get?_push_size _ B.free)) (by rw [Heap.size_push, hz]) fun b o x => Heap.get?_push_of_some _ (Heap.get?_push_of_some _ x)⟩
end
/-- the list or tuple at a, each item in a new pair -/
def IteA (K : PySem.W.Frag) (k : Bool) (a : Addr) (xs : List V) : It :=
  ⟨fun i H => SqA K k H a xs ∧ i < xs.length, fun i H v H' => ∃ (T : Addr) (o : Obj) (x : V), v = .ref T ∧ H T = none ∧ o.dict = none ∧ H' = upd H T (tlet o [.int (i : Nat), x]) ∧ xs[i]? = some x, fun i H => SqA K k H a xs ∧ xs.length ≤ i⟩
theorem turn_enumA {P : Program} {w : World} {K : PySem.W.Frag} {elts : List Expr} {kk : Nat} {tpos : Pos} {k : Bool} {xs : List V} (a e it : Addr) :
    Turn P w K (.Tuple elts kk tpos) (IteA K k a xs) [e, it] e (fun i h => i ≤ xs.length ∧ (∃ old, IsEnum h e it ((i : Nat) : Int) old) ∧ ItA k h it a i ∧ e ≠ it ∧ a ≠ it ∧ e ≠ a) where
  mem := by simp
  obj := fun i h st b hb => by
    obtain ⟨_, ⟨old, he⟩, hit, _⟩ := st
    have e' : b = e ∨ b = it := by simpa using hb
    rcases e' with z | z
    · rw [z]; exact ⟨_, he, fun v q => nomatch q⟩
    · rw [z]; exact itA_obj hit
  keep := fun i h h' st k => let ⟨hi, ⟨old, he⟩, hit, hne⟩ := st; ⟨hi, ⟨old, k e (by simp) _ he⟩, itA_keep hit fun o q => k it (by simp) o q, hne⟩
  item := by
    intro X hP hw hK hc i pins s σ H E I hf st hg
    subst hP hw hK
    obtain ⟨_, ⟨old, he⟩, hit, hne, hai, hea⟩ := st
    obtain ⟨hq, hlx⟩ := hg
    obtain ⟨its, rv, p, _⟩ := invA I hq
    obtain ⟨u, hu, ru⟩ := rv.get (List.getElem?_eq_getElem hlx)
    have hel : e < s.heap.objs.size := Heap.lt_size he
    have hil : it < s.heap.objs.size := by obtain ⟨_, q, _⟩ := itA_obj hit; exact Heap.lt_size q
    have hlt : i < its.toArray.size := by
      have := (List.getElem?_eq_some_iff.mp hu).1
      simpa using this
    refine wpAny_pyNext_enum_itemD (drawsA k (A := X.A.in1) (I.ok.hd hc) it a hai its.toArray) he ⟨hit, p⟩ hlt hne (by simp [hne, hea]) fun y h' tk hP ho hit' hT hsz hk => ?_
    have hy : y = u := by
      have z : its[i]? = some y := by simpa using hP
      rw [hu] at z; exact (Option.some.inj z).symm
    subst hy
    refine ⟨_, rfl, wpAny_letOwnedTupleGo_enum (s := { s with heap := h', toks := tk + 1 }) ho fun h'' he' sb => ?_⟩
    have hT2 : h''.get? s.heap.objs.size = some (tObj [.int i tk, y]) := (sb.2 _ (Nat.ne_of_gt hel)).trans hT
    have new : ObjOk X.prog X.w (upd H s.heap.objs.size (tlet (tObj [.int i tk, y]) [.int (i : Nat), xs[i]])) h'' s.heap.objs.size (tlet (tObj [.int i tk, y]) [.int (i : Nat), xs[i]]) :=
      objOk_tlet hT2 ⟨by show 2 ≤ sizeLine; decide, [.int i tk, y], .cons ⟨_, rfl⟩ (.cons ru .nil), ⟨_, hT2, rfl, _, rfl⟩⟩
    have I1 : Inv X pins σ (upd H s.heap.objs.size (tlet (tObj [.int i tk, y]) [.int (i : Nat), xs[i]])) { s with heap := h'', toks := tk + 1 } :=
      I.turnedNew (ch := [e, it]) (fun b ob hb q => (sb.2 b (fun z => hb (by simp [z]))).trans (hk b ob (fun z => hb (by simp [z])) (fun z => hb (by simp [z])) q)) hf (Nat.le_refl _) new
    refine ⟨.ref s.heap.objs.size, _, I1, rfl, ⟨_, _, xs[i], rfl, I.hok.fresh (Nat.le_refl _), rfl, rfl, List.getElem?_eq_getElem hlx⟩, ⟨by omega, ⟨y, ?_⟩, itA_keep hit'.1 fun o q => (sb.2 it (Ne.symm hne)).trans q, hne, hai, hea⟩, fun b hb => ?_⟩
    · have e1 : ((i + 1 : Nat) : Int) = (i : Int) + 1 := by omega
      rw [e1]; exact he'
    · have hb' : b < s.heap.objs.size := by
        have e' : b = e ∨ b = it := by simpa using hb
        rcases e' with z | z
        · rw [z]; exact hel
        · rw [z]; exact hil
      rw [upd_ne (Nat.ne_of_lt hb')]
      exact (hf b hb).1
  done := by
    intro X hP hw hK hc i pins s σ H E I hf st hg
    subst hP hw hK
    obtain ⟨hi, ⟨old, he⟩, hit, hne, hai, hea⟩ := st
    obtain ⟨hq, hx⟩ := hg
    obtain ⟨its, rv, p, _⟩ := invA I hq
    have hl := rv.length
    have ei : its.toArray.size = i := by simp; omega
    have st : (∃ old, IsEnum s.heap e it (0 + ((its.toArray.size : Nat) : Int)) old) ∧ (ItA k s.heap it a its.toArray.size ∧ IsA k s.heap a its.toArray) := by
      rw [ei, Int.zero_add]; exact ⟨⟨old, he⟩, hit, p⟩
    refine (GoesN.enumFrom (elts := elts) (x1 := kk) (pos := tpos) 0 (drawsA k (A := X.A.in1) (I.ok.hd hc) it a hai its.toArray) e hne (by simp [hne, hea]) (by simp)).stops s _ E st fun h' tk hk htk => ?_
    exact I.turnedL (ch := [e, it]) (fun c ob hc q => hk c ob hc q) hf
  self := fun A i s Q E st h => let ⟨_, ⟨_, he⟩, _⟩ := st; wpAny_pyIter_enum he h
def iEnumA (K : PySem.W.Frag) (ta : TA) : TI := fun σ H R => ta σ H fun vs H1 => ∃ k a xs, vs = [.ref a] ∧ SqA K k H1 a xs ∧ R (IteA K k a xs) H1
theorem pi_enumA {X : Cx} {e : Expr} {ta : TA} {p pos tpos : Pos} {elts : List Expr} {kk : Nat} (hg : Gl X "enumerate") (hm : X.mg "enumerate" = none) (ha : PA X [e] ta) (hs : starEach [e] X.env = [(false, eval e X.env)] := by rfl) :
    PI X (.Tuple elts kk tpos) (.Call (.Name "enumerate" p) [e] [] pos) (iEnumA X.K ta) := by
  refine ⟨fun pins s σ H R I h => ?_⟩
  refine Call_ (ld_blt I hg hm boot_enumerate (PyProof.Rows.callWith_type1 (thn (ha.run pos pins s σ H _ I h) fun us s1 ⟨vs, H1, I1, r1, q1⟩ => ?_) hs rfl))
  obtain ⟨k, a, xs, ex, hq, q⟩ := q1
  subst ex
  cases r1 with
  | cons r rr =>
    cases rr
    cases r
    obtain ⟨its, rv, p', hal⟩ := invA I1 hq
    refine enum_begins1 (beginsA k a its.toArray) p' fun h' he hit hsz hk => wpAny_pyIter_enum he ?_
    have I2 : Inv X pins σ H1 { s1 with heap := h' } := I1.kept (t' := s1.toks) hk
    refine ⟨s1.heap.objs.size + 1, [s1.heap.objs.size + 1, s1.heap.objs.size], _, _, H1, rfl, I2, turn_enumA a (s1.heap.objs.size + 1) s1.heap.objs.size, ⟨Nat.zero_le _, ⟨.none, he⟩, itA_new hit, Nat.succ_ne_self _, Nat.ne_of_lt hal, Nat.ne_of_gt (Nat.lt_succ_of_lt hal)⟩, fun b hb => ?_, q⟩
    have e' : b = s1.heap.objs.size + 1 ∨ b = s1.heap.objs.size := by simpa using hb
    have hle : s1.heap.objs.size ≤ b := by
      rcases e' with z | z
      · rw [z]; exact Nat.le_add_right _ _
      · rw [z]; exact Nat.le_refl _
    exact I1.fpOk hle (I1.hok.fresh hle)
section
variable {X : Cx} {H0 : Hp} {W : WX} {ω : List Md} {e : Expr} {c : EC} {pos p : Pos}
theorem SqA.sub {K : PySem.W.Frag} {k : Bool} {H H' : Hp} {a : Addr} {xs : List V} (e : Sub H H') (h : SqA K k H a xs) : SqA K k H' a xs := by
  cases k with
  | true => exact e.t h
  | false => exact e.l h
theorem walks_enumA {K : PySem.W.Frag} {ρ : List Addr} {Hs : Hp} {k : Bool} {a : Addr} {vs : List V} {ds : List D} (h : SqA K k Hs a vs) (r : RepAll K ρ Hs vs ds) : Walks K (IteA K k a vs) ρ Hs (enumI 0 ds) where
  go ρ2 Hs2 m2 H i p s b hi := by
    rw [enumI_length, ← r.length] at hi
    exact ⟨(h.sub s).sub b.sub, hi⟩
  stop ρ2 Hs2 m2 H i p s b hi := ⟨(h.sub s).sub b.sub, by rw [r.length, ← enumI_length 0]; exact hi⟩
  yld ρ2 Hs2 m2 H i x H' p s b hi q := by
    obtain ⟨T, ob, y, rfl, hT, hob, rfl, q⟩ := q
    obtain ⟨d, h1, h2⟩ := r.get q
    refine ⟨_, upd Hs2 T _, enumI_get 0 ds i d h1, tr_new b.sub hT, b.new hT, .tup ⟨ob, hob, upd_same⟩ ?_⟩
    rw [Nat.zero_add]
    exact .cons (.int _) (.one ((h2.mono p s).mono (.refl _) (Sub.new (hs_none b.sub hT))))
def enAD : D → Option (List D)
  | .lst xs => some (enumI 0 xs)
  | .tup xs => some (enumI 0 xs)
  | _ => none
def iEnA (c : EC) : IC := fun Γ m => (c Γ m).bind fun d m1 => R.of (enAD d) m1
theorem iv_enumA {elts : List Expr} {kk : Nat} {tpos : Pos} (B : Bn X.mg) (h : EV X H0 W ω e c) (hg : Gl X "enumerate" := by rfl) (hs : starEach [e] X.env = [(false, eval e X.env)] := by rfl) : IV X H0 W ω (.Tuple elts kk tpos) (.Call (.Name "enumerate" p) [e] [] pos) (iEnA c) :=
  PI.imp (pi_enumA hg B.enum (pa_cons h pa_nil hs) hs) fun σ H Q ⟨Γ, m, ρ, Hs, b, en, o⟩ => ⟨Γ, m, ρ, Hs, b, en, Out.mono (Out.bind o) fun v H1 ⟨d, m1, ρ1, Hs1, t1, b1, r1, o1⟩ => by
    obtain ⟨xs, hi, o1⟩ := Out.ofV o1
    cases d <;> simp only [enAD] at hi <;> try (cases hi; done)
    case lst ds =>
      cases hi
      cases r1 with
      | lst h r => exact ⟨false, _, _, rfl, .inl (.inl (b1.sub _ _ h)), o1 _ ρ1 Hs1 H1 (.refl ..) b1 (walks_enumA (k := false) (.inl (.inl h)) r)⟩
    case tup ds =>
      cases hi
      cases r1 with
      | tup h r => exact ⟨true, _, _, rfl, sqt (h.sub b1.sub), o1 _ ρ1 Hs1 H1 (.refl ..) b1 (walks_enumA (k := true) (sqt h) r)⟩⟩
end
end Pv
end
section
set_option linter.all false
set_option maxRecDepth 100000
/-! Pw7: enumerate, plainly; pairs and triples of a row. -/
namespace Pv
open PySem L2
section
variable {α : Type} {Γ : Gam} {m : Mu} {QL : List D → Mu → Prop} {QO : List D → Prop}
@[simp ↓, simp] theorem wr_ienA {c : EC} : WR (iEnA c Γ m) QL = WR (c Γ m) fun d m1 => WO (enAD d) fun xs => QL xs m1 := by unfold iEnA; rw [wr_bind]; congr; funext d m1; rw [wr_of]
@[simp ↓, simp] theorem wo_enA_l {xs : List D} : WO (enAD (.lst xs)) QO = QO (enumI 0 xs) := wo_eq.trans (rfl)
@[simp ↓, simp] theorem wo_enA_t {xs : List D} : WO (enAD (.tup xs)) QO = QO (enumI 0 xs) := wo_eq.trans (rfl)
/-- the ends of a row, each with its place and its first thing -/
def sfx : Nat → List α → List (Nat × α × List α)
  | _, [] => []
  | i, x :: r => (i, x, x :: r) :: sfx (i + 1) r
theorem enumI_sfx (f : α → D) : ∀ (i : Nat) (xs : List α), enumI i (xs.map f) = (sfx i xs).map fun p => .tup [.int p.1, f p.2.1]
  | _, [] => rfl
  | i, x :: r => by rw [List.map_cons, enumI, enumI_sfx f (i + 1) r, sfx, List.map_cons]
theorem mem_sfx : ∀ {xs : List α} {k : Nat} {p : Nat × α × List α}, p ∈ sfx k xs → k ≤ p.1 ∧ p.1 < k + xs.length ∧ xs.drop (p.1 - k) = p.2.2 ∧ p.2.1 ∈ xs ∧ p.2.1 ∈ p.2.2 ∧ ∃ r, p.2.2 = p.2.1 :: r
  | [], _, _, h => by cases h
  | x :: r, k, p, h => by
    rw [sfx] at h
    rcases List.mem_cons.mp h with rfl | h
    · exact ⟨Nat.le_refl _, by simp, by simp, by simp, by simp, r, rfl⟩
    · obtain ⟨h1, h2, h3, h4, h5, h6⟩ := mem_sfx h
      refine ⟨by omega, by simp; omega, ?_, List.mem_cons_of_mem _ h4, h5, h6⟩
      rw [show p.1 - k = (p.1 - (k + 1)) + 1 by omega]; exact h3
theorem cutG_fromN {xs : List α} {i : Nat} (h : i ≤ xs.length) : cutG xs (some (i : Int)) none = xs.drop i := by
  unfold cutG; rw [HT.sIx_none, HT.sIx_nat, Nat.min_eq_left h]
  exact List.take_of_length_le (by simp)
theorem len_sfx : ∀ (k : Nat) (xs : List α), (sfx k xs).length = xs.length
  | _, [] => rfl
  | k, x :: r => by rw [sfx, List.length_cons, len_sfx, List.length_cons]
end
end Pv
end
section
set_option Elab.async false
set_option linter.all false
set_option maxRecDepth 100000
/-! Pw8: zip over lists and tuples in any mix. -/
namespace Pv
open PySem L2 PySem.W PyProof.Rows PySem.SeqAt
def ItzA (K : PySem.W.Frag) (k1 k2 : Bool) (a b : Addr) (xs ys : List V) : It :=
  ⟨fun i H => SqA K k1 H a xs ∧ SqA K k2 H b ys ∧ i < min xs.length ys.length,
    fun i H v H' => ∃ (T : Addr) (o : Obj) (x y : V), v = .ref T ∧ H T = none ∧ o.dict = none ∧ H' = upd H T (tlet o [x, y]) ∧ xs[i]? = some x ∧ ys[i]? = some y,
    fun i H => SqA K k1 H a xs ∧ SqA K k2 H b ys ∧ min xs.length ys.length ≤ i⟩
theorem turn_zipA {P : Program} {w : World} {K : PySem.W.Frag} {elts : List Expr} {kk : Nat} {tpos : Pos} {k1 k2 : Bool} {a b z TI TO i1 i2 : Addr} {xs ys : List V} (S : ZipSep2 z TI TO i1 i2 [i1, a] [i2, b]) (n1 : a ≠ i1) (n2 : b ≠ i2) :
    Turn P w K (.Tuple elts kk tpos) (ItzA K k1 k2 a b xs ys) [z, TI, TO, i1, i2] z (fun i h => i ≤ min xs.length ys.length ∧ IsZip h z TI TO .none ∧ IsTupOf2 h TI (.ref i1) (.ref i2) ∧ (∃ a1 a2, IsTupOf2 h TO a1 a2) ∧ ItA k1 h i1 a i ∧ ItA k2 h i2 b i) where
  mem := by simp
  obj := fun i h st c hc => by
    obtain ⟨_, hz, hTI, ⟨a1, a2, hTO⟩, h1, h2⟩ := st
    have e' : c = z ∨ c = TI ∨ c = TO ∨ c = i1 ∨ c = i2 := by simpa using hc
    rcases e' with q | q | q | q | q
    · rw [q]; exact ⟨_, hz, fun v q => nomatch q⟩
    · rw [q]; exact ⟨_, hTI, fun v q => nomatch q⟩
    · rw [q]; exact ⟨_, hTO, fun v q => nomatch q⟩
    · rw [q]; exact itA_obj h1
    · rw [q]; exact itA_obj h2
  keep := fun i h h' st k => by
    obtain ⟨hi, hz, hTI, ⟨a1, a2, hTO⟩, h1, h2⟩ := st
    exact ⟨hi, k z (by simp) _ hz, k TI (by simp) _ hTI, ⟨a1, a2, k TO (by simp) _ hTO⟩, itA_keep h1 fun o q => k i1 (by simp) o q, itA_keep h2 fun o q => k i2 (by simp) o q⟩
  item := by
    intro X hP hw hK hc i pins s σ H E I hf st hg
    subst hP hw hK
    obtain ⟨hi, hz, hTI, hTO, h1, h2⟩ := st
    obtain ⟨q1, q2, hlt⟩ := hg
    obtain ⟨its, rv, p1, l1⟩ := invA I q1
    obtain ⟨jts, rw', p2, l2⟩ := invA I q2
    have e1 := rv.length
    have e2 := rw'.length
    obtain ⟨a1, a2, hTO⟩ := hTO
    refine wpAny_pyNext_zipD2_item S (drawsA k1 (A := X.A.in1) (I.ok.hd hc) i1 a n1 its.toArray) (drawsA k2 (A := X.A.in1) (I.ok.hd hc) i2 b n2 jts.toArray) hz hTI hTO ⟨h1, p1⟩ ⟨h2, p2⟩ (by simp; omega) (by simp; omega) fun x y g tk hx hy z' TO' ⟨h1', _⟩ ⟨h2', _⟩ hTp _ hk => ⟨_, rfl, wpAny_letOwnedTupleGo_zip z' fun h' hz' hs' => ?_⟩
    have hx' : its[i]? = some x := by simpa using hx
    have hy' : jts[i]? = some y := by simpa using hy
    have nz : s.heap.objs.size ≠ z := Nat.ne_of_gt (Heap.lt_size hz)
    have iz1 : i1 ≠ z := fun q => S.zf1 (by rw [← q]; exact S.mem1)
    have iz2 : i2 ≠ z := fun q => S.zf2 (by rw [← q]; exact S.mem2)
    have hTp' : h'.get? s.heap.objs.size = some (tObj [x, y]) := hs'.extBut _ _ nz hTp
    have hix : i < xs.length := by omega
    have hiy : i < ys.length := by omega
    obtain ⟨x', hx2, rx⟩ := rv.get (List.getElem?_eq_getElem hix)
    obtain ⟨y', hy2, ry⟩ := rw'.get (List.getElem?_eq_getElem hiy)
    rw [hx2] at hx'; cases hx'
    rw [hy2] at hy'; cases hy'
    have new : ObjOk X.prog X.w (upd H s.heap.objs.size (tlet (tObj [x, y]) [xs[i], ys[i]])) h' s.heap.objs.size (tlet (tObj [x, y]) [xs[i], ys[i]]) := objOk_tlet hTp' ⟨by show 2 ≤ sizeLine; decide, [x, y], .cons rx (.cons ry .nil), ⟨_, hTp', rfl, _, rfl⟩⟩
    have I1 : Inv X pins σ (upd H s.heap.objs.size (tlet (tObj [x, y]) [xs[i], ys[i]])) { s with heap := h', toks := tk } :=
      I.turnedNew (ch := [z, TO, i1, i2]) (fun c ob hc q => hs'.extBut _ _ (fun w => hc (by simp [w])) (hk c ob (fun w => hc (by simp [w])) (fun w => hc (by simp [w])) (fun w => hc (by simp [w])) (fun w => hc (by simp [w])) q)) (fun c hc => hf c (by simp at hc ⊢; rcases hc with q | q | q | q <;> simp [q])) (Nat.le_refl _) new
    refine ⟨.ref s.heap.objs.size, _, I1, rfl, ⟨_, tObj [x, y], _, _, rfl, I.hok.fresh (Nat.le_refl _), rfl, rfl, List.getElem?_eq_getElem hix, List.getElem?_eq_getElem hiy⟩, ⟨by omega, hz', hs'.extBut _ _ S.TIz (hk _ _ S.TIz S.TITO S.TIi1 S.TIi2 hTI), ⟨_, _, hs'.extBut _ _ S.TOz TO'⟩, itA_keep h1' fun o q => hs'.extBut _ _ iz1 q, itA_keep h2' fun o q => hs'.extBut _ _ iz2 q⟩, fun c hc => ?_⟩
    have ne : c ≠ s.heap.objs.size := fun q => by
      have hcl : c < s.heap.objs.size := by
        have e' : c = z ∨ c = TI ∨ c = TO ∨ c = i1 ∨ c = i2 := by simpa using hc
        obtain ⟨o1, g1, _⟩ := itA_obj h1
        obtain ⟨o2, g2, _⟩ := itA_obj h2
        rcases e' with q | q | q | q | q
        · rw [q]; exact Heap.lt_size hz
        · rw [q]; exact Heap.lt_size hTI
        · rw [q]; exact Heap.lt_size hTO
        · rw [q]; exact Heap.lt_size g1
        · rw [q]; exact Heap.lt_size g2
      rw [q] at hcl
      exact absurd hcl (Nat.lt_irrefl _)
    rw [upd_ne ne]
    exact (hf c hc).1
  done := by
    intro X hP hw hK hc i pins s σ H E I hf st hg
    subst hP hw hK
    obtain ⟨hi, hz, hTI, hTO, h1, h2⟩ := st
    obtain ⟨q1, q2, hle⟩ := hg
    obtain ⟨its, rv, p1, l1⟩ := invA I q1
    obtain ⟨jts, rw', p2, l2⟩ := invA I q2
    have e1 := rv.length
    have e2 := rw'.length
    have ei : min its.toArray.size jts.toArray.size = i := by simp; omega
    have st : (fun i h => IsZip h z TI TO .none ∧ IsTupOf2 h TI (.ref i1) (.ref i2) ∧ (∃ a1 a2, IsTupOf2 h TO a1 a2) ∧ (ItA k1 h i1 a i ∧ IsA k1 h a its.toArray) ∧ ItA k2 h i2 b i ∧ IsA k2 h b jts.toArray) (min its.toArray.size jts.toArray.size) s.heap := by
      rw [ei]; exact ⟨hz, hTI, hTO, ⟨h1, p1⟩, ⟨h2, p2⟩⟩
    refine (GoesN.zip2 (elts := elts) (x1 := kk) (pos := tpos) S (drawsA k1 (A := X.A.in1) (I.ok.hd hc) i1 a n1 its.toArray) (drawsA k2 (A := X.A.in1) (I.ok.hd hc) i2 b n2 jts.toArray)).stops s _ E st fun h' tk hk htk => ?_
    exact I.turnedL (ch := [z, TO, i1, i2]) (fun c ob hc q => hk c ob hc q) (fun c hc => hf c (by simp at hc ⊢; rcases hc with q | q | q | q <;> simp [q]))
  self := fun A i s Q E st h => wpAny_pyIter_zip st.2.1 h
def iZipAny (K : PySem.W.Frag) (ta : TA) : TI := fun σ H R => ta σ H fun vs H1 => ∃ k1 k2 a b xs ys, vs = [.ref a, .ref b] ∧ SqA K k1 H1 a xs ∧ SqA K k2 H1 b ys ∧ R (ItzA K k1 k2 a b xs ys) H1
theorem pi_zipAny {X : Cx} {e e2 : Expr} {ta : TA} {p pos tpos : Pos} {elts : List Expr} {kk : Nat} (hg : Gl X "zip") (hm : X.mg "zip" = none) (ha : PA X [e, e2] ta)
    (hs : starEach [e, e2] X.env = (false, eval e X.env) :: starEach [e2] X.env := by rfl) (hpl : (backTo pos (starEach [e2] X.env)).any (·.1) = false := by rfl) :
    PI X (.Tuple elts kk tpos) (.Call (.Name "zip" p) [e, e2] [] pos) (iZipAny X.K ta) := by
  refine ⟨fun pins s σ H R I h => ?_⟩
  refine Call_ (ld_blt I hg hm PyProof.Rows.boot_zip (PyProof.Rows.callWith_type1 (thn (ha.run pos pins s σ H _ I h) fun us s1 ⟨vs, H1, I1, r1, q1⟩ => ?_) hs hpl))
  obtain ⟨k1, k2, a, b, xs, ys, ex, hqx, hqy, q⟩ := q1
  subst ex
  cases r1 with
  | cons r rr =>
    cases rr with
    | cons r' rr =>
      cases rr
      cases r
      cases r'
      have fresh5 : ∀ c, c ∈ [s1.heap.objs.size + 4, s1.heap.objs.size + 2, s1.heap.objs.size + 3, s1.heap.objs.size, s1.heap.objs.size + 1] → FpOk X pins H1 c := fun c hcm => by
        have e' : c = s1.heap.objs.size + 4 ∨ c = s1.heap.objs.size + 2 ∨ c = s1.heap.objs.size + 3 ∨ c = s1.heap.objs.size ∨ c = s1.heap.objs.size + 1 := by simpa using hcm
        have hle : s1.heap.objs.size ≤ c := by
          rcases e' with z | z | z | z | z
          · rw [z]; exact Nat.le_add_right _ _
          · rw [z]; exact Nat.le_add_right _ _
          · rw [z]; exact Nat.le_add_right _ _
          · rw [z]; exact Nat.le_refl _
          · rw [z]; exact Nat.le_add_right _ _
        exact I1.fpOk hle (I1.hok.fresh hle)
      obtain ⟨its, rv, p1, l1⟩ := invA I1 hqx
      obtain ⟨jts, rw', p2, l2⟩ := invA I1 hqy
      refine zip_begins2 (beginsA k1 a its.toArray) (beginsA k2 b jts.toArray) p1 p2 fun h' hz hTI hTO h1 h2 hsz hk => wpAny_pyIter_zip hz ?_
      have I2 : Inv X pins σ H1 { s1 with heap := h' } := I1.kept (t' := s1.toks) hk
      have S := zip_sep2 (N := s1.heap.objs.size) (fp1 := [a]) (fp2 := [b]) (fun c hc => by rw [List.mem_singleton.mp hc]; exact l1) (fun c hc => by rw [List.mem_singleton.mp hc]; exact l2)
      exact ⟨s1.heap.objs.size + 4, [s1.heap.objs.size + 4, s1.heap.objs.size + 2, s1.heap.objs.size + 3, s1.heap.objs.size, s1.heap.objs.size + 1], _, _, H1, rfl, I2, turn_zipA S (Nat.ne_of_lt l1) (Nat.ne_of_lt (Nat.lt_succ_of_lt l2)), ⟨Nat.zero_le _, hz, hTI, ⟨_, _, hTO⟩, itA_new h1, itA_new h2⟩, fresh5, q⟩
section
variable {X : Cx} {H0 : Hp} {W : WX} {ω : List Md} {a b : Expr} {cs : Gam → Mu → R (List D)} {pos p : Pos}
theorem walks_zipA {K : PySem.W.Frag} {ρ : List Addr} {Hs : Hp} {k1 k2 : Bool} {a b' : Addr} {vs ws : List V} {ds es : List D} (h : SqA K k1 Hs a vs) (r : RepAll K ρ Hs vs ds) (h' : SqA K k2 Hs b' ws) (r' : RepAll K ρ Hs ws es) : Walks K (ItzA K k1 k2 a b' vs ws) ρ Hs (zipI ds es) where
  go ρ2 Hs2 m2 H i p s b hi := by
    rw [zipI_length, ← r.length, ← r'.length] at hi
    exact ⟨(h.sub s).sub b.sub, (h'.sub s).sub b.sub, hi⟩
  stop ρ2 Hs2 m2 H i p s b hi := by
    rw [zipI_length, ← r.length, ← r'.length] at hi
    exact ⟨(h.sub s).sub b.sub, (h'.sub s).sub b.sub, hi⟩
  yld ρ2 Hs2 m2 H i x H' p s b hi q := by
    obtain ⟨T, ob, y, z, rfl, hT, hob, rfl, q, q'⟩ := q
    obtain ⟨d, h1, h2⟩ := r.get q
    obtain ⟨d', h1', h2'⟩ := r'.get q'
    have sb := Sub.new (o := tlet ob [y, z]) (hs_none b.sub hT)
    exact ⟨_, upd Hs2 T _, zipI_get ds es i d d' h1 h1', tr_new b.sub hT, b.new hT, .tup ⟨ob, hob, upd_same⟩ (.cons ((h2.mono p s).mono (.refl _) sb) (.one ((h2'.mono p s).mono (.refl _) sb)))⟩
def seqD : D → Option (List D)
  | .lst xs => some xs
  | .tup xs => some xs
  | _ => none
theorem seqD_ok {K : PySem.W.Frag} {ρ : List Addr} {H : Hp} {v : V} {d : D} {xs : List D} (h : Rep K ρ H v d) (e : seqD d = some xs) : ∃ k a vs, v = .ref a ∧ SqA K k H a vs ∧ RepAll K ρ H vs xs := by
  cases h with
  | lst h r => cases e; exact ⟨false, _, _, rfl, .inl (.inl h), r⟩
  | tup h r => cases e; exact ⟨true, _, _, rfl, sqt h, r⟩
  | _ => cases e
def zipAD : List D → Option (List D)
  | [d, e] => (seqD d).bind fun xs => (seqD e).map fun ys => zipI xs ys
  | _ => none
def iZpA (c : Gam → Mu → R (List D)) : IC := fun Γ m => (c Γ m).bind fun ds m1 => R.of (zipAD ds) m1
theorem iv_zipAny {elts : List Expr} {kk : Nat} {tpos : Pos} (B : Bn X.mg) (h : AV X H0 W ω [a, b] cs) (hg : Gl X "zip" := by rfl) (hs : starEach [a, b] X.env = (false, eval a X.env) :: starEach [b] X.env := by rfl) (hpl : (backTo pos (starEach [b] X.env)).any (·.1) = false := by rfl) :
    IV X H0 W ω (.Tuple elts kk tpos) (.Call (.Name "zip" p) [a, b] [] pos) (iZpA cs) :=
  PI.imp (pi_zipAny hg B.zip h hs hpl) fun σ H Q ⟨Γ, m, ρ, Hs, b, en, o⟩ => ⟨Γ, m, ρ, Hs, b, en, Out.mono (Out.bind o) fun vs H1 ⟨ds, m1, ρ1, Hs1, t1, b1, r1, o1⟩ => by
    obtain ⟨xs, hi, o1⟩ := Out.ofV o1
    cases r1 with
    | nil => cases hi
    | @cons v _ d _ h1 r1 => cases r1 with
      | nil => cases hi
      | @cons v' _ d' _ h2 r1 => cases r1 with
        | cons _ _ => cases hi
        | nil =>
          have hi : ((seqD d).bind fun xs => (seqD d').map fun ys => zipI xs ys) = some xs := hi
          cases e1 : seqD d with
          | none => rw [e1] at hi; cases hi
          | some x1 =>
            cases e2 : seqD d' with
            | none => rw [e1, e2] at hi; cases hi
            | some x2 =>
              rw [e1, e2] at hi
              cases hi
              obtain ⟨k1, a1, vs1, rfl, q1, q2⟩ := seqD_ok h1 e1
              obtain ⟨k2, a2, vs2, rfl, q3, q4⟩ := seqD_ok h2 e2
              exact ⟨k1, k2, a1, a2, vs1, vs2, rfl, q1.sub b1.sub, q3.sub b1.sub, o1 _ ρ1 Hs1 H1 (.refl ..) b1 (walks_zipA q1 q2 q3 q4)⟩⟩
@[simp ↓, simp] theorem wr_izpA {c : Gam → Mu → R (List D)} {Γ : Gam} {m : Mu} {QL : List D → Mu → Prop} : WR (iZpA c Γ m) QL = WR (c Γ m) fun ds m1 => WO (zipAD ds) fun xs => QL xs m1 := by unfold iZpA; rw [wr_bind]; congr; funext d m1; rw [wr_of]
@[simp ↓, simp] theorem wo_zipA_ll {xs ys : List D} {Q : List D → Prop} : WO (zipAD [.lst xs, .lst ys]) Q = Q (zipI xs ys) := wo_eq.trans (rfl)
@[simp ↓, simp] theorem wo_zipA_lt {xs ys : List D} {Q : List D → Prop} : WO (zipAD [.lst xs, .tup ys]) Q = Q (zipI xs ys) := wo_eq.trans (rfl)
@[simp ↓, simp] theorem wo_zipA_tl {xs ys : List D} {Q : List D → Prop} : WO (zipAD [.tup xs, .lst ys]) Q = Q (zipI xs ys) := wo_eq.trans (rfl)
@[simp ↓, simp] theorem wo_zipA_tt {xs ys : List D} {Q : List D → Prop} : WO (zipAD [.tup xs, .tup ys]) Q = Q (zipI xs ys) := wo_eq.trans (rfl)
end
end Pv
end
section
set_option Elab.async false
set_option linter.all false
set_option maxRecDepth 100000
set_option maxHeartbeats 4000000
/-! Px1: errors of the program's own: made, raised, caught and kept. -/
namespace Pv
open PySem L2 PySem.W PyProof.Rows
section
variable {X : Cx} {C : Addr} {bmB : List Value} {B newId initId : String} {x : Str} {p pos : Pos}
theorem pmk_own0 (F : ExcBaseFacts B newId initId bmB) (q : PySem.W.excIn X.K C bmB newId = true) (gC : X.mg x = some (.ref C)) (kC : PySem.W.keepIn X.K (.ref C) = true) (r : Raises X (.ref C)) (hg : Gl X x)
    (hdb : (x == ("__debug__" : Str)) = false := by decide) : PMk X (.Call (.Name x p) [] [] pos) (fun _ H Q => Q (.ref C) none H) := by
  intro pins s σ H Q I h
  refine wpAny_Call_Name_kw (ld_glob I hg gC ?_ hdb)
  refine PySem.W.callWith_K0 I.kIn kC ?_
  obtain ⟨bm, N, nm, qn, bs, hdct, sn, sub, ab, col, dd, k0, k1, k2, k3, k5, mN, hC, hN, hni, T⟩ := exc_obj I.kIn q
  refine wpAny_call_exc_subT F T hC hN hni (fun h' e hm => ?_) (Nat.zero_le _)
  exact mk_of I hm r h (I.hok.gone hm.new)
end
/-! ### an exception that was caught is a thing of the heap -/
/-! ### try: the clauses one after the other -/
end Pv
end
section
set_option Elab.async false
set_option linter.all false
set_option maxRecDepth 100000
set_option maxHeartbeats 4000000
/-! Px2: raise, try, errors as values: the rules. -/
namespace Pv
open PySem L2 PySem.W PyProof.Rows
abbrev veBm : List Value := [.type "ValueError", .type "Exception", .type "BaseException", .type "object"]
abbrev leBm : List Value := [.type "LookupError", .type "Exception", .type "BaseException", .type "object"]
/-- a class of errors without own __init__ -/
def xc0B (K : PySem.W.Frag) (c : String) : Bool := xcB K c && (PySem.W.excIn K (He.ga K (Str.ofString c)) veBm "ValueError.__new__" || PySem.W.excIn K (He.ga K (Str.ofString c)) leBm "LookupError.__new__")
structure XC0 (K : PySem.W.Frag) (mg : Str → Option Value) (c : String) : Prop where
  g : mg (Str.ofString c) = some (clA K c)
  b : xc0B K c = true
theorem XC0.xc {K : PySem.W.Frag} {mg : Str → Option Value} {c : String} (T : XC0 K mg c) : xcB K c = true := (Bool.and_eq_true_iff.mp T.b).1
section
variable {f : Bool} {X : Cx} {N : Ent} {W : WX} {ωx ωb ω ω1 ω2 : List Md} {p pos pos' : Pos} {c : String}
theorem xc_raises (h : xcB X.K c = true) : Raises X (clA X.K c) := raises_own (xc_kt h).2.2 (xc_kt h).2.1
def sRaise0 (c : String) : SC := fun Γ m => .exc c [] Γ m
theorem sv_raise0 (T : XC0 X.K X.mg c) (hc : X.calm = true) (tk : Takes X W) (hx : MdLe ωx ω = true := by rfl) (hg : Gl X (Str.ofString c) := by rfl) (hdb : (Str.ofString c == ("__debug__" : Str)) = false := by decide) :
    SV f X N W ωx ω (.Raise (some (.Call (.Name (Str.ofString c) p) [] [] pos)) none pos') (sRaise0 c) ω2 := by
  have key : ∀ {B newId initId bmB}, ExcBaseFacts B newId initId bmB → PySem.W.excIn X.K (He.ga X.K (Str.ofString c)) bmB newId = true → SV f X N W ωx ω (.Raise (some (.Call (.Name (Str.ofString c) p) [] [] pos)) none pos') (sRaise0 c) ω2 := fun F q =>
    PS.imp (ps_raise hc tk (pmk_own0 F q T.g (xc_kt T.xc).1 (xc_raises T.xc) hg hdb)) fun dn σ H ⟨Γ, m, ρ, Hs, t, b, en, o⟩ => o (clA X.K c) none σ ρ Hs H (.same t) b (en.weak hx) ⟨rfl, T.xc, .inl ⟨rfl, rfl⟩⟩
  rcases Bool.or_eq_true_iff.mp (Bool.and_eq_true_iff.mp T.b).2 with q | q
  · exact key PySem.F.excBase_ValueError q
  · exact key PySem.F.excBase_LookupError q
/-- C() as a value -/
def cExc0 (c : String) : EC := fun _ m => .ok (.exc c []) m
/-- isinstance(e, ValueError), isinstance(e, LookupError) -/
def isveD (v : Bool) : Mu → D → Option D
  | _, .exc c _ => some (.bl (isVE c == v))
  | _, _ => none
/-! ### try -/
end
end Pv
end
section
set_option Elab.async false
set_option linter.all false
set_option maxRecDepth 100000
/-! Px3: calls of defs that might raise and do not; the head's hook with further facts; errors, plainly. -/
namespace Pv
open PySem L2 PySem.W PyProof.Rows
section
variable {X : Cx} {H0 : Hp} {W : WX} {ω : List Md} {e : Expr} {es : List Expr} {cs : Gam → Mu → R (List D)} {f : Bool} {pos p : Pos} {x : Str} {kws : List Keyword}
theorem passN (σ : L2.St) : PassesAt (L2.CX X.prog X.w) X σ (fun _ _ _ => False) := fun _ _ _ _ _ _ ⟨_, _, _, _, _, _, _, _, _, _, _, _, q⟩ => q.elim
theorem cEB_n {c c' : EC} {e : Expr} (h : EB f X H0 (fun _ _ _ _ => False) ω e c) (q : ∀ Γ m, c' Γ m = noX (c Γ m)) : EB f X H0 W ω e c' :=
  PE.imp h fun σ H Q ⟨Γ, m, ρ, Hs, b, en, o⟩ => ⟨Γ, m, ρ, Hs, b, en, by
    rw [q] at o
    cases hc : c Γ m with
    | bad => rw [hc] at o; exact o
    | exc _ _ _ => rw [hc] at o; exact o.elim
    | ok d m' => rw [hc] at o; exact o⟩
/-- f(..), f raises nothing here -/
def cCallN (G : List D → Mu → R D) (cs : Gam → Mu → R (List D)) : EC := fun Γ m => noX (cCall G cs Γ m)
theorem ev_fnN {k : Nat} {ps : List Str} {G : List D → Mu → R D} (F : Fn X.prog X.w X.K X.mg X.base (L2.CX X.prog X.w) x k ps f G) (hr : Room k X.A) (ha : AV X H0 (fun _ _ _ _ => False) ω (e :: es) cs) (hl : LenA cs ps.length) (hg : Gl X x := by rfl)
    (hdb : (x == ("__debug__" : Str)) = false := by decide) (he : starEach (e :: es) X.env = (false, eval e X.env) :: starEach es X.env := by rfl) (hpl : (backTo pos (starEach es X.env)).any (·.1) = false := by rfl) :
    EB f X H0 W ω (.Call (.Name x p) (e :: es) [] pos) (cCallN G cs) := by
  obtain ⟨fa, fd, h1, h2, h3, h4⟩ := F.ex
  exact cEB_n (ev_call (W := fun _ _ _ _ => False) h4 hr h1 h2 h3 (fun σ => passN σ) ha hl hg hdb he hpl) fun _ _ => rfl
def cCallKN (is : List Nat) (G : List D → Mu → R D) (cs : Gam → Mu → R (List D)) : EC := fun Γ m => noX (cCallK is G cs Γ m)
end
@[simp ↓, simp] theorem wr_callN {G : List D → Mu → R D} {cs : Gam → Mu → R (List D)} {Γ : Gam} {m : Mu} {Q : D → Mu → Prop} : WR (cCallN G cs Γ m) Q = WR (cs Γ m) fun ds m1 => WR (G ds m1) Q := by unfold cCallN; rw [wr_noX, wr_call]
@[simp ↓, simp] theorem wr_callKN {is : List Nat} {G : List D → Mu → R D} {cs : Gam → Mu → R (List D)} {Γ : Gam} {m : Mu} {Q : D → Mu → Prop} : WR (cCallKN is G cs Γ m) Q = WR (cs Γ m) fun ds m1 => WR (G (permL is ds) m1) Q := by unfold cCallKN; rw [wr_noX, wr_callK]
@[simp ↓, simp] theorem wr_exc0 {c : String} {Γ : Gam} {m : Mu} {Q : D → Mu → Prop} : WR (cExc0 c Γ m) Q = Q (.exc c []) m := by unfold cExc0; rw [wr_ok]
@[simp ↓, simp] theorem wo_isve {v : Bool} {c : String} {fs : List D} {m : Mu} {Q : D → Prop} : WO (isveD v m (.exc c fs)) Q = Q (.bl (isVE c == v)) := wo_eq.trans (rfl)
/-! ### errors, plainly -/
/-! ### the hook -/
abbrev Ck := PySem.W.Frag → Bool
def obsX (fa : List He.Fa) (fn : List He.DefD) (ck : List Ck) (K : PySem.W.Frag) : He.AlD := ((He.obsD fa fn K).1 && ck.all fun c => c K, (He.obsD fa fn K).2)
def SaysX (fa : List He.Fa) (fn : List He.DefD) (ck : List Ck) (K : PySem.W.Frag) : Prop := obsX fa fn ck K = He.valD fn
def obsXG (n : Nat) (fa : List He.Fa) (fn : List He.DefD) (ck : List Ck) (g : Addr → Option Obj) : He.AlD := obsX fa fn ck (He.frG g (He.asD g n))
def hookX (n : Nat) (fa : List He.Fa) (fn : List He.DefD) (ck : List Ck) : PySem.W.Hook where
  α := He.AlD
  obs := fun s => obsXG n fa fn ck s.heap.get?
  val := fun _ => He.valD fn
  says := fun _ h => ∃ K : PySem.W.Frag, K.In h ∧ SaysX fa fn ck K
  of := fun _ _ e => ⟨_, He.frG_in, e⟩
  keeps := fun _ _ _ ⟨K, hK, c⟩ k => ⟨K, PySem.W.Frag.In.keeps hK k, c⟩
theorem obsXG_eq {n : Nat} {fa : List He.Fa} {fn : List He.DefD} {ck : List Ck} {g : Addr → Option Obj} {s : Shared} (h : ∀ a, g a = s.heap.get? a) : obsXG n fa fn ck g = (hookX n fa fn ck).obs s := by
  have e : g = s.heap.get? := funext h
  rw [e] <;> rfl
theorem SaysX.d {fa : List He.Fa} {fn : List He.DefD} {ck : List Ck} {K : PySem.W.Frag} (c : SaysX fa fn ck K) : He.SaysD fa fn K := by
  have h1 : ((He.obsD fa fn K).1 && ck.all fun c => c K) = true := congrArg (fun z : He.AlD => z.1) c
  have h2 : (obsX fa fn ck K).2 = (He.valD fn).2 := congrArg (fun z : He.AlD => z.2) c
  exact Prod.ext (Bool.and_eq_true_iff.mp h1).1 h2
theorem SaysX.ck {fa : List He.Fa} {fn : List He.DefD} {ck : List Ck} {K : PySem.W.Frag} (c : SaysX fa fn ck K) (i : Nat) {f : Ck} (h : ck[i]? = some f := by rfl) : f K = true := by
  have h1 : ((He.obsD fa fn K).1 && ck.all fun c => c K) = true := congrArg (fun z : He.AlD => z.1) c
  exact List.all_eq_true.mp (Bool.and_eq_true_iff.mp h1).2 f (List.mem_of_getElem? h)
end Pv
namespace Pv
open PySem L2 PySem.W PyProof.Rows
@[simp] theorem isExc_non : isExc .non = false := rfl
@[simp] theorem isExc_bl {b : Bool} : isExc (.bl b) = false := rfl
@[simp] theorem isExc_int {i : Int} : isExc (.int i) = false := rfl
@[simp] theorem isExc_str {x : Str} : isExc (.str x) = false := rfl
@[simp] theorem isExc_lst {xs : List D} : isExc (.lst xs) = false := rfl
@[simp] theorem isExc_tup {xs : List D} : isExc (.tup xs) = false := rfl
end Pv
end
section
set_option linter.all false
set_option maxRecDepth 100000
/-! Rt7: a row of numbers is a route: by looking at it. -/
namespace Rt
open PySem Pv
theorem nub_lt : ∀ r : List Int, ((nubD (r.map D.int)).length < r.length) ↔ ¬ r.Nodup
  | [] => by simp [nubD]
  | x :: r => by
    have ih := nub_lt r
    have hl := len_nubD (r.map D.int)
    rw [List.length_map] at hl
    rw [List.map_cons, nubD, any_ints, List.nodup_cons]
    by_cases hx : x ∈ r
    · rw [if_pos (by simpa using hx)]
      simp only [List.length_cons, hx, not_true, false_and, not_false_iff, iff_true]
      omega
    · rw [if_neg (by simpa using hx)]
      simp only [List.length_cons, hx, not_false_iff, true_and]
      rw [← ih]; omega
theorem mem_rts_look {n : Int} {ls : List Ln} (g : Good n ls) {r : List Int} : r ∈ rts n ls [] ↔ 2 ≤ r.length ∧ r.head? = some 0 ∧ r.getLast? = some (n - 1) ∧ r.Nodup ∧ ∀ p ∈ r.zip r.tail, p ∈ ls := by
  have h2 := g.two
  rw [mem_rts' g, rte_iff (by omega)]
  constructor
  · rintro ⟨own, rfl, nd, ch, -⟩
    refine ⟨by simp, rfl, ?_, nd, ch_zip.mp ch⟩
    rw [← List.cons_append, List.getLast?_append]; rfl
  · rintro ⟨hl, hh, hg, nd, hz⟩
    cases r with
    | nil => simp at hl
    | cons a t =>
      simp at hh
      subst hh
      have ht : t ≠ [] := fun z => by subst z; simp at hl
      have e := List.dropLast_concat_getLast ht
      have hgl : t.getLast ht = n - 1 := by
        have : (0 :: t).getLast? = t.getLast? := by cases t with | nil => exact absurd rfl ht | cons => rfl
        rw [this, List.getLast?_eq_some_getLast ht] at hg
        exact Option.some.inj hg
      refine ⟨t.dropLast, by rw [← hgl, e], nd, ch_zip.mpr hz, by simp⟩
theorem wo_in_P {m : Mu} {p : Ln} {ls : List Ln} {QO : D → Prop} : WO (inD m (eP p) (.tup (ls.map eP))) QO = QO (.bl (ls.contains p)) := by
  show WO (if ((eP p).pl (39 + 1) && plAll (39 + 1) (ls.map eP)) = true then some (D.bl ((ls.map eP).any fun y => y.eqv (eP p))) else none) QO = _
  rw [pl_eP, plAll_map pl_eP, Bool.and_self, if_pos rfl, wo_some, any_eP]
end Rt
end
section
set_option linter.all false
set_option maxRecDepth 100000
/-! Rt8: all rising rows of so many of some numbers, ascending. -/
namespace Rt
open PySem Pv
/-- two ascending rows of the same things -/
theorem asc_ext {xs ys : List (List Int)} (h1 : xs.Nodup) (h2 : ys.Nodup) (s1 : (xs.map eT).Pairwise leD') (s2 : (ys.map eT).Pairwise leD') (h : ∀ r, r ∈ xs ↔ r ∈ ys) : xs = ys := by
  have pm := (List.perm_ext_iff_of_nodup h1 h2).mpr h
  rw [sortL_unique (List.Perm.refl xs) s1, sortL_unique (List.Perm.refl ys) s2, sortL_eq pm]
theorem ltL_irr : ∀ a : List Int, ltL a a = false
  | [] => rfl
  | x :: a => by simp [ltL, ltL_irr a]
theorem ltL_anti : ∀ {a b : List Int}, ltL a b = true → ltL b a = false
  | [], [], h => by simp [ltL] at h
  | [], _ :: _, _ => by simp [ltL]
  | _ :: _, [], h => by simp [ltL] at h
  | x :: a, y :: b, h => by
    simp only [ltL] at h ⊢
    by_cases e : x = y
    · rw [if_pos e] at h; rw [if_pos e.symm]; exact ltL_anti h
    · rw [if_neg e] at h; rw [if_neg (Ne.symm e)]
      simp at h ⊢; omega
/-- ascending, each once -/
def AscL (xs : List (List Int)) : Prop := xs.Pairwise fun a b => ltL a b = true
theorem AscL.nodup {xs : List (List Int)} (h : AscL xs) : xs.Nodup := List.Pairwise.imp (fun {a b} h e => by subst e; rw [ltL_irr] at h; cases h) h
theorem AscL.pw {xs : List (List Int)} (h : AscL xs) : (xs.map eT).Pairwise leD' := List.pairwise_map.mpr (List.Pairwise.imp (fun {a b} h => by unfold leD'; rw [eT_lt]; exact ltL_anti h) h)
theorem ltL_three : ∀ a b : List Int, ltL a b = true ∨ a = b ∨ ltL b a = true
  | [], [] => .inr (.inl rfl)
  | [], _ :: _ => .inl rfl
  | _ :: _, [] => .inr (.inr rfl)
  | x :: a, y :: b => by
    simp only [ltL]
    by_cases e : x = y
    · subst e
      simp only [if_true, List.cons.injEq, true_and]
      exact ltL_three a b
    · rw [if_neg e, if_neg (Ne.symm e)]
      rcases Int.lt_or_gt_of_ne e with q | q
      · exact .inl (by simpa using q)
      · exact .inr (.inr (by simpa using q))
theorem AscL.of {xs : List (List Int)} (nd : xs.Nodup) (h : (xs.map eT).Pairwise leD') : AscL xs := by
  refine (List.Pairwise.and nd (List.pairwise_map.mp h)).imp fun {a b} ⟨h1, h2⟩ => ?_
  unfold leD' at h2
  rw [eT_lt] at h2
  rcases ltL_three a b with q | q | q
  · exact q
  · exact absurd q h1
  · rw [q] at h2; cases h2
theorem AscL.ext {xs ys : List (List Int)} (h1 : AscL xs) (h2 : AscL ys) (h : ∀ r, r ∈ xs ↔ r ∈ ys) : xs = ys := asc_ext h1.nodup h2.nodup h1.pw h2.pw h
theorem AscL.filter {xs : List (List Int)} (h : AscL xs) (p : List Int → Bool) : AscL (xs.filter p) := List.Pairwise.filter p h
theorem asc_sortL {xs : List (List Int)} (nd : xs.Nodup) : AscL (sortL xs) := AscL.of ((sortL_perm xs).nodup_iff.mpr nd) (pw_sortL xs)
/-- all parts of a row, as the laws make them -/
def powL : List Int → List (List Int) := fun l => l.foldl (fun acc x => acc ++ acc.map fun f => f ++ [x]) [[]]
theorem powL_snoc (l : List Int) (x : Int) : powL (l ++ [x]) = powL l ++ (powL l).map fun f => f ++ [x] := by unfold powL; rw [List.foldl_append]; rfl
theorem len_powL (l : List Int) : (powL l).length = 2 ^ l.length := by
  rcases List.eq_nil_or_concat l with rfl | ⟨o, z, rfl⟩
  · rfl
  · rw [List.concat_eq_append, powL_snoc, List.length_append, List.length_map, len_powL o, List.length_append, List.length_singleton, Nat.pow_succ]; omega
termination_by l.length
decreasing_by simp_all
theorem mem_powLN : ∀ (n : Nat) (l : List Int), l.length = n → l.Pairwise (· < ·) → ((powL l).Nodup ∧ ∀ f, f ∈ powL l ↔ f.Pairwise (· < ·) ∧ ∀ x ∈ f, x ∈ l)
  | 0, l, hl, _ => by
    rw [List.length_eq_zero_iff.mp hl]
    refine ⟨by simp [powL], fun f => ?_⟩
    show f ∈ [[]] ↔ _
    rw [List.mem_singleton]
    constructor
    · rintro rfl; simp
    · rintro ⟨-, h⟩
      cases f with
      | nil => rfl
      | cons x f => exact absurd (h x (by simp)) (by simp)
  | n + 1, l, hl, ha => by
    rcases List.eq_nil_or_concat l with rfl | ⟨o, z, rfl⟩
    · cases hl
    · rw [List.concat_eq_append] at hl ha ⊢
      obtain ⟨a1, -, a3⟩ := List.pairwise_append.mp ha
      obtain ⟨i1, i2⟩ := mem_powLN n o (by simpa using hl) a1
      have a4 : ∀ x ∈ o, x < z := fun x hx => a3 x hx z (by simp)
      rw [powL_snoc]
      refine ⟨List.nodup_append.mpr ⟨i1, ?_, ?_⟩, fun f => ?_⟩
      · exact List.pairwise_map.mpr (i1.imp fun h e => h (List.append_inj_left' e rfl))
      · intro f hf g hg e
        obtain ⟨g', _, rfl⟩ := List.mem_map.mp hg
        subst e
        have := ((i2 _).mp hf).2 z (by simp)
        have := a4 z this
        omega
      · rw [List.mem_append, i2, List.mem_map]
        constructor
        · rintro (⟨h1, h2⟩ | ⟨g, hg, rfl⟩)
          · exact ⟨h1, fun x hx => List.mem_append_left _ (h2 x hx)⟩
          · obtain ⟨h1, h2⟩ := (i2 g).mp hg
            refine ⟨List.pairwise_append.mpr ⟨h1, by simp, fun x hx y hy => by rw [List.mem_singleton.mp hy]; exact a4 x (h2 x hx)⟩, fun x hx => ?_⟩
            rcases List.mem_append.mp hx with q | q
            · exact List.mem_append_left _ (h2 x q)
            · exact List.mem_append_right _ q
        · rintro ⟨h1, h2⟩
          by_cases hz : z ∈ f
          · right
            rcases List.eq_nil_or_concat f with rfl | ⟨g, w, rfl⟩
            · cases hz
            · rw [List.concat_eq_append] at h1 h2 hz ⊢
              obtain ⟨b1, -, b3⟩ := List.pairwise_append.mp h1
              have hw : w = z := by
                rcases List.mem_append.mp hz with q | q
                · have hlt := b3 z q w (by simp)
                  rcases List.mem_append.mp (h2 w (by simp)) with q' | q'
                  · have := a4 w q'; omega
                  · exact List.mem_singleton.mp q'
                · exact (List.mem_singleton.mp q).symm
              subst hw
              refine ⟨g, (i2 g).mpr ⟨b1, fun x hx => ?_⟩, rfl⟩
              rcases List.mem_append.mp (h2 x (List.mem_append_left _ hx)) with q | q
              · exact q
              · have := b3 x hx w (by simp)
                rw [List.mem_singleton.mp q] at this; omega
          · left
            refine ⟨h1, fun x hx => ?_⟩
            rcases List.mem_append.mp (h2 x hx) with q | q
            · exact q
            · rw [List.mem_singleton.mp q] at hx; exact absurd hx hz
theorem mem_powL {l f : List Int} (h : l.Pairwise (· < ·)) : f ∈ powL l ↔ f.Pairwise (· < ·) ∧ ∀ x ∈ f, x ∈ l := (mem_powLN _ l rfl h).2 f
end Rt
namespace Pv
end Pv
end
section
set_option linter.all false
namespace Pv
open PySem L2 PySem.W PyProof.Rows
open Rt
theorem uni_ext {xs ys : List Int} (h : ∀ x, x ∈ xs ↔ x ∈ ys) : uni xs = uni ys := by
  have hp : ((uni xs).map D.int).Perm ((uni ys).map D.int) := ((List.perm_ext_iff_of_nodup (nodup_uni xs) (nodup_uni ys)).mpr fun a => by rw [mem_uni, mem_uni]; exact h a).map _
  obtain ⟨hpl, ha, _⟩ := sortOk_pl (sortOk_int (uni ys))
  have a1 := isort_unique hpl ha (fun y hy => hy) hp (asc_uni xs)
  have a2 := isort_unique hpl ha (fun y hy => hy) (List.Perm.refl _) (asc_uni ys)
  exact (List.map_inj_right (fun a b h => by injection h)).mp (a1.trans a2.symm)
end Pv
namespace Pv
open PySem L2 PySem.W PyProof.Rows Rt
theorem alk_ints : ∀ x y : List Int, alkAll (x.map D.int) (y.map .int) = true
  | [], _ => by unfold alkAll; rfl
  | _ :: _, [] => by unfold alkAll; rfl
  | a :: x, b :: y => by
    simp only [List.map_cons, alkAll, D.alk, alk_ints x y, Bool.and_self]
end Pv
end
section
set_option Elab.async false
set_option linter.all false
set_option maxRecDepth 100000
/-! Py1: xs[::-1] of lists and tuples. -/
namespace L2
open PySem PySem.Spec PyProof.Rows
end L2
namespace Pv
open PySem L2 PySem.W PyProof.Rows PySem.SeqAt
end Pv
end
section
set_option Elab.async false
set_option linter.all false
set_option maxRecDepth 100000
/-! Py2: dict(rows), rows a list or tuple of pairs, the keys tuples. -/
namespace Pv
open PySem L2 PySem.W PyProof.Rows PySem.SeqAt PySem.Spec
/-- a row: its key, where the key lies, its value, where the pair lies -/
structure Rw (α : Type) where
  ks : List Key
  b : Addr
  x : α
  T : Addr
/-! ### as data -/
section
variable {K : PySem.W.Frag} {ρ : List Addr} {Hs H : Hp}
theorem mk_of : ∀ {rs : List (Rw V)} {kvs : List (D × D)} {es : List (List Key × V)} {acc : List (D × D)}, Paired (fun (r : Rw V) (kv : D × D) => kv.1 = tD r.ks ∧ Rep K ρ Hs r.x kv.2) rs kvs → acc.map (·.1) = es.map (fun e => tD e.1) → RepAll K ρ Hs (es.map (·.2)) (acc.map (·.2)) →
    (kvs.foldl (fun acc kv => putD acc kv.1 kv.2) acc).map (·.1) = (rs.foldl (fun acc r => putK acc r.ks r.x) es).map (fun e => tD e.1) ∧ RepAll K ρ Hs ((rs.foldl (fun acc r => putK acc r.ks r.x) es).map (·.2)) ((kvs.foldl (fun acc kv => putD acc kv.1 kv.2) acc).map (·.2))
  | _, _, _, _, .nil, h, r => ⟨h, r⟩
  | r :: rs, kv :: kvs, es, acc, .cons a b, h, g => by
    rw [List.foldl_cons, List.foldl_cons, a.1]
    obtain ⟨p1, p2⟩ := put_of tD tD_eqv r.ks a.2 h g
    exact mk_of b p1 p2
end
end Pv
end
section
set_option linter.all false
set_option maxRecDepth 100000
/-! Py3: tables as data, and what they tell. -/
namespace Rt
open Pv PySem L2
theorem szl0 {α : Type} : szOk ([] : List α).length = true := (rfl)
theorem szl1 {α : Type} {a0 : α} : szOk ([a0] : List α).length = true := (rfl)
theorem szl2 {α : Type} {a0 : α} {a1 : α} : szOk ([a0, a1] : List α).length = true := (rfl)
theorem szl3 {α : Type} {a0 : α} {a1 : α} {a2 : α} : szOk ([a0, a1, a2] : List α).length = true := (rfl)
theorem szl4 {α : Type} {a0 : α} {a1 : α} {a2 : α} {a3 : α} : szOk ([a0, a1, a2, a3] : List α).length = true := (rfl)
theorem szl5 {α : Type} {a0 : α} {a1 : α} {a2 : α} {a3 : α} {a4 : α} : szOk ([a0, a1, a2, a3, a4] : List α).length = true := (rfl)
theorem szl6 {α : Type} {a0 : α} {a1 : α} {a2 : α} {a3 : α} {a4 : α} {a5 : α} : szOk ([a0, a1, a2, a3, a4, a5] : List α).length = true := (rfl)
theorem szl7 {α : Type} {a0 : α} {a1 : α} {a2 : α} {a3 : α} {a4 : α} {a5 : α} {a6 : α} : szOk ([a0, a1, a2, a3, a4, a5, a6] : List α).length = true := (rfl)
abbrev Tb := List (List Int × Int)
theorem rts_len6 {n : Int} {ls : List Ln} {b : List Int} (g : Good n ls) (hn : n ≤ 6) : (rts n ls b).length ≤ 400 := by
  have p : (rts n ls b).Perm (ways n ls b [0]) := (List.perm_ext_iff_of_nodup (rts_nodup g) (ways_nodup g _)).mpr fun r => by rw [mem_rts' g, ways_rte g]
  rw [p.length_eq]
  refine Nat.le_trans (dfs_len _ _) ?_
  have h1 : n.toNat - [(0 : Int)].length ≤ 5 := by simp; omega
  have h2 : [(0 : Int)].length + (n.toNat - [(0 : Int)].length) = n.toNat := by have := g.two; simp; omega
  exact Nat.le_trans (sz_le g _ _ IsRow.one h2) (Nat.le_trans (tb_mono h1) (by decide))
/-- a table of a net -/
structure Tab (n : Int) (ls : List Ln) (t : Tb) : Prop where
  sub : (t.map (·.1)).Sublist (rts n ls [])
theorem rts_ne {n : Int} {ls : List Ln} {b : List Int} (g : Good n ls) {r : List Int} (h : r ∈ rts n ls b) : r ≠ [] := by
  obtain ⟨s, rfl, _⟩ := (mem_rts' g).mp h; simp
theorem Tab.nd {n : Int} {ls : List Ln} {t : Tb} (h : Tab n ls t) (g : Good n ls) : (t.map (·.1)).Nodup := h.sub.nodup (rts_nodup g)
theorem Tab.ne {n : Int} {ls : List Ln} {t : Tb} (h : Tab n ls t) (g : Good n ls) : ∀ p ∈ t, p.1 ≠ [] := fun p hp => rts_ne g (h.sub.subset (List.mem_map.mpr ⟨p, hp, rfl⟩))
theorem Tab.len {n : Int} {ls : List Ln} {t : Tb} (h : Tab n ls t) : t.length ≤ (rts n ls []).length := by
  have := h.sub.length_le; simpa using this
theorem Tab.key {n : Int} {ls : List Ln} {t : Tb} (h : Tab n ls t) {p : List Int × Int} (hp : p ∈ t) : p.1 ∈ rts n ls [] := h.sub.subset (List.mem_map.mpr ⟨p, hp, rfl⟩)
end Rt
end
section
set_option Elab.async false
set_option linter.all false
set_option maxRecDepth 100000
/-! Pz1: comprehensions over a list of one's own. -/
namespace Pv
open PySem L2 PySem.W PyProof.Rows PySem.SeqAt
/-- J yields just the items ds, as long as only expressions run -/
structure WalksT (K : PySem.W.Frag) (J : It) (ρ : List Addr) (Hs H1 : Hp) (ds : List D) : Prop where
  go : ∀ ρ2 Hs2 m2 H i, Tr ρ Hs H1 ρ2 Hs2 H → Bs K ρ2 m2 Hs2 H → i < ds.length → J.go i H
  stop : ∀ ρ2 Hs2 m2 H i, Tr ρ Hs H1 ρ2 Hs2 H → Bs K ρ2 m2 Hs2 H → ds.length ≤ i → J.stop i H
  yld : ∀ ρ2 Hs2 m2 H i x H', Tr ρ Hs H1 ρ2 Hs2 H → Bs K ρ2 m2 Hs2 H → i < ds.length → J.yld i H x H' → ∃ d Hs2', ds[i]? = some d ∧ Tr ρ2 Hs2 H ρ2 Hs2' H' ∧ Bs K ρ2 m2 Hs2' H' ∧ Rep K ρ2 Hs2' x d
theorem Walks.t {K : PySem.W.Frag} {J : It} {ρ : List Addr} {Hs H1 : Hp} {ds : List D} (w : Walks K J ρ Hs ds) : WalksT K J ρ Hs H1 ds := ⟨fun ρ2 Hs2 m2 H i t b h => w.go ρ2 Hs2 m2 H i t.pre t.sub b h, fun ρ2 Hs2 m2 H i t b h => w.stop ρ2 Hs2 m2 H i t.pre t.sub b h, fun ρ2 Hs2 m2 H i x H' t b h y => w.yld ρ2 Hs2 m2 H i x H' t.pre t.sub b h y⟩
/-- as Out, the value told of the heap where it came -/
def OutT {α β : Type} (K : PySem.W.Frag) (mg : Str → Option Value) (Rp : List Addr → Hp → Hp → β → α → Prop) (W : Value → Option Addr → Hp → Prop) (r : R α) (ρ : List Addr) (Hs H : Hp) (Q : β → Hp → Prop) : Prop := match r with
  | .ok a m => ∀ v ρ' Hs' H', Tr ρ Hs H ρ' Hs' H' → Bs K ρ' m Hs' H' → Rp ρ' Hs' H' v a → Q v H'
  | .exc c fs m => ∀ cls dx ρ' Hs' H', Tr ρ Hs H ρ' Hs' H' → Bs K ρ' m Hs' H' → EOk K mg ρ' Hs' cls dx c fs → W cls dx H'
  | .bad => False
theorem OutT.mono {α β : Type} {K : PySem.W.Frag} {mg : Str → Option Value} {Rp : List Addr → Hp → Hp → β → α → Prop} {W : Value → Option Addr → Hp → Prop} {ρ : List Addr} {Hs H : Hp} {r : R α} {Q Q' : β → Hp → Prop} (h : OutT K mg Rp W r ρ Hs H Q) (q : ∀ v H', Q v H' → Q' v H') : OutT K mg Rp W r ρ Hs H Q' := by
  cases r with
  | ok a m => exact fun v ρ' Hs' H' t' b rp => q _ _ (h v ρ' Hs' H' t' b rp)
  | exc c fs m => exact h
  | bad => exact h
end Pv
end
section
set_option Elab.async false
set_option linter.all false
set_option maxRecDepth 100000
set_option maxHeartbeats 4000000
/-! Pz2: errors with a field: their own __init__ says super().__init__(x) and keeps x. -/
namespace Pv
open PySem L2 PySem.W PyProof.Rows PySem.Calls
/-! ### super().__init__(x) -/
end Pv
end
section
set_option Elab.async false
set_option linter.all false
set_option maxRecDepth 100000
set_option maxHeartbeats 4000000
/-! Pz3: the own __init__ of an error is walked; the error made. -/
namespace Pv
open PySem L2 PySem.W PyProof.Rows PySem.Calls
/-! ### the body -/
/-- what the scope of such a def is -/
structure ScI (x : Str) (sc : Scope) : Prop where
  kind : sc.kind = .function
  co : sc.isCoroutine = false
  gen : sc.isGenerator = false
  cell : ∀ y ∈ sc.names, y.2 ≠ .cell
  free : ∀ y, sc.names.lookup y = some .free → y = "__class__"
  sup : sc.names.lookup ("super" : Str) = some .globalImplicit
  cls : sc.names.lookup ("__class__" : Str) = some .free
  self : sc.names.lookup ("self" : Str) = some .local
  par : sc.names.lookup x = some .local
end Pv
end
section
set_option Elab.async false
set_option linter.all false
set_option maxRecDepth 100000
set_option maxHeartbeats 4000000
/-! Pz4: an error with a field: made as a value, raised; its field read. -/
namespace Pv
open PySem L2 PySem.W PyProof.Rows PySem.Calls
end Pv
end
section
set_option Elab.async false
set_option linter.all false
set_option maxRecDepth 100000
set_option maxHeartbeats 4000000
/-! Pz5: the facts of errors with a field out of the written part; their fields read. -/
namespace Pv
open PySem L2 PySem.W PyProof.Rows PySem.Calls
/-- the function object of a class's __init__, its closure left out -/
def iniW (K : PySem.W.Frag) (c : String) : He.FnW := match K.lookup (He.ma K (He.ga K (Str.ofString c)) "__init__") with
  | some ⟨_, _, .func fd, _⟩ => some (fd.name, fd.qualname, fd.params, fd.body, fd.scope, fd.globals, [], fd.builtins)
  | _ => none
def iniV (qual : Str) (st : Stmt) : He.FnW := some ("__init__", qual, defArgs st, .stmts (defBody st), defScope st, mainGlobals, [], builtinsNs)
structure ScIB (x : Str) (sc : Scope) : Prop where
  kind : sc.kind = .function
  co : sc.isCoroutine = false
  gen : sc.isGenerator = false
  cell : (sc.names.all fun y => (match y.2 with
    | .cell => false
    | .free => y.1 == ("__class__" : Str)
    | _ => true)) = true
  sup : sc.names.lookup ("super" : Str) = some .globalImplicit
  cls : sc.names.lookup ("__class__" : Str) = some .free
  self : sc.names.lookup ("self" : Str) = some .local
  par : sc.names.lookup x = some .local
theorem ScIB.ok {x : Str} {sc : Scope} (S : ScIB x sc) : ScI x sc := ⟨S.kind, S.co, S.gen, (fun y hy e => by
    have := List.all_eq_true.mp S.cell y hy
    rw [e] at this; exact Bool.noConfusion this), (fun y hy => by
    have := List.all_eq_true.mp S.cell _ (PySem.mem_of_lookup hy)
    exact beq_iff_eq.mp this), S.sup, S.cls, S.self, S.par⟩
/-! ### a field read -/
/-! ### the hook -/
abbrev Ini := String × Str × Stmt
def obsY (fa : List He.Fa) (fn : List He.DefD) (ck : List Ck) (ini : List Ini) (K : PySem.W.Frag) : He.AlD := ((He.obsD fa fn K).1 && ck.all fun c => c K, (He.obsD fa fn K).2 ++ ini.map fun p => iniW K p.1)
def valY (fn : List He.DefD) (ini : List Ini) : He.AlD := (true, (He.valD fn).2 ++ ini.map fun p => iniV p.2.1 p.2.2)
def SaysY (fa : List He.Fa) (fn : List He.DefD) (ck : List Ck) (ini : List Ini) (K : PySem.W.Frag) : Prop := obsY fa fn ck ini K = valY fn ini
section
variable {fa : List He.Fa} {fn : List He.DefD} {ck : List Ck} {ini : List Ini} {K : PySem.W.Frag}
theorem SaysY.both (c : SaysY fa fn ck ini K) : (He.obsD fa fn K).2 = (He.valD fn).2 ∧ (ini.map fun p => iniW K p.1) = ini.map fun p => iniV p.2.1 p.2.2 := by
  have h2 : (He.obsD fa fn K).2 ++ (ini.map fun p => iniW K p.1) = (He.valD fn).2 ++ ini.map fun p => iniV p.2.1 p.2.2 := congrArg (fun z : He.AlD => z.2) c
  exact List.append_inj h2 (by show (fn.map _).length = (fn.map _).length; rw [List.length_map, List.length_map])
theorem SaysY.x (c : SaysY fa fn ck ini K) : SaysX fa fn ck K := Prod.ext (show ((He.obsD fa fn K).1 && ck.all fun c => c K) = true from congrArg (fun z : He.AlD => z.1) c) (show (He.obsD fa fn K).2 = (He.valD fn).2 from c.both.1)
end
end Pv
end
section
set_option Elab.async false
set_option linter.all false
set_option maxRecDepth 100000
set_option maxHeartbeats 4000000
/-! Pz6: classes of errors by name; isinstance of one of them. -/
namespace Pv
open PySem L2 PySem.W PyProof.Rows PySem.Calls
end Pv
end
section
set_option linter.all false
set_option maxRecDepth 100000
/-! a module's dict with text keys and whole numbers: x[word] -/
namespace Pv
open PySem L2 PySem.W PyProof.Rows
end Pv
namespace Pv
open PySem PySem.Spec PyProof.Rows L2
/-- a table of the module: its name, its keys in order -/
abbrev TbN : Type := Str × List Str
abbrev AlW : Type := He.AlD × List (Option (List (Option (Str × Int))))
def obsW (fa : List He.Fa) (fn : List He.DefD) (ck : List Ck) (ts : List TbN) (K : PySem.W.Frag) : AlW := (obsX fa fn ck K, ts.map fun t => He.dicW K (He.fAd K (t.1, none)))
def valW (fn : List He.DefD) (ts : List TbN) (w : World) : AlW := (He.valD fn, ts.map fun t => some (He.keysIn w.params t.2))
def SaysW (fa : List He.Fa) (fn : List He.DefD) (ck : List Ck) (ts : List TbN) (w : World) (K : PySem.W.Frag) : Prop := obsW fa fn ck ts K = valW fn ts w
section
variable {fa : List He.Fa} {fn : List He.DefD} {ck : List Ck} {ts : List TbN} {w : World} {K : PySem.W.Frag}
theorem SaysW.x (c : SaysW fa fn ck ts w K) : SaysX fa fn ck K := congrArg (fun z : AlW => z.1) c
theorem SaysW.tab (c : SaysW fa fn ck ts w K) (i : Nat) {t : TbN} (h : ts[i]? = some t := by rfl) : ∃ es n, KDict K w (He.fAd K (t.1, none)) es n := by
  have e : ts.map (fun t => He.dicW K (He.fAd K (t.1, none))) = ts.map fun t => some (He.keysIn w.params t.2) := congrArg (fun z : AlW => z.2) c
  have e2 : (ts.map fun t => He.dicW K (He.fAd K (t.1, none)))[i]? = (ts.map fun t => some (He.keysIn w.params t.2))[i]? := by rw [e]
  rw [List.getElem?_map, List.getElem?_map, h] at e2
  exact He.dicW_ok (Option.some.inj e2)
end
end Pv
namespace Pv
open PySem L2 PySem.W PyProof.Rows
end Pv
namespace Pv
open PySem
end Pv
end
section
set_option Elab.async false
set_option linter.all false
set_option maxRecDepth 100000
/-! Pz8: calls with arguments by place and by keyword. -/
namespace Pv
open PySem L2 PySem.W PyProof.Rows PySem.SeqAt
def aApp (cs kc : Gam → Mu → R (List D)) : Gam → Mu → R (List D) := fun Γ m => (cs Γ m).bind fun ds m1 => (kc Γ m1).bind fun es m2 => .ok (ds ++ es) m2
@[simp ↓, simp] theorem wr_aapp {cs kc : Gam → Mu → R (List D)} {Γ : Gam} {m : Mu} {Q : List D → Mu → Prop} : WR (aApp cs kc Γ m) Q = WR (cs Γ m) fun ds m1 => WR (kc Γ m1) fun es m2 => Q (ds ++ es) m2 := by
  unfold aApp
  cases cs Γ m with
  | bad => simp only [wr_eq]; rfl
  | exc _ _ _ => simp only [wr_eq]; rfl
  | ok ds m1 =>
    rw [wr_ok]
    show WR ((kc Γ m1).bind fun es m2 => R.ok (ds ++ es) m2) Q = _
    cases kc Γ m1 with
    | bad => simp only [wr_eq]; rfl
    | exc _ _ _ => simp only [wr_eq]; rfl
    | ok es m2 =>
      have h1 : WR (R.ok es m2) (fun es m2 => Q (ds ++ es) m2) = Q (ds ++ es) m2 := wr_ok
      have h2 : WR (R.ok (ds ++ es) m2) Q = Q (ds ++ es) m2 := wr_ok
      exact h2.trans h1.symm
end Pv
end
section
set_option Elab.async false
set_option linter.all false
set_option maxRecDepth 100000
/-! Pz9: a dict with tuple keys: its length; a comprehension over its keys. -/
namespace Pv
open PySem L2 PySem.W PyProof.Rows PySem.SeqAt
/-! ### len(d) -/
def dlenD : Mu → D → Option D
  | _, .dct true kvs => some (.int kvs.length)
  | _, _ => none
@[simp ↓, simp] theorem wo_dlen {m : Mu} {kvs : List (D × D)} {Q : D → Prop} : WO (dlenD m (.dct true kvs)) Q = Q (.int kvs.length) := wo_some
/-! ### locking a value -/
def LkD (es : List (List Key × V)) (u : HO) : Prop := u = .dT es ∨ ∃ od, u = .frz od (.dT es)
theorem LkD.rd {es : List (List Key × V)} {u : HO} (h : LkD es u) {H : Hp} {a : Addr} (e : H a = some u) : Rd H a (.dT es) := by
  rcases h with rfl | ⟨od, rfl⟩
  · exact .inl e
  · exact .inr ⟨od, e⟩
section
variable {K : PySem.W.Frag} {ρ : List Addr} {Hs H : Hp} {a : Addr} {es : List (List Key × V)} {u1 u2 : HO}
theorem lk_ne (h1 : LkD es u1) (e : Hs a = some u1) {b : Addr} {u : HO} (hb : Hs b = some u) (hn : ¬ LkD es u) : b ≠ a := fun z => by
  subst z; rw [e] at hb; cases hb; exact hn h1
theorem lk_rd (h1 : LkD es u1) (h2 : LkD es u2) (e : Hs a = some u1) {b : Addr} {u : HO} (hb : Rd Hs b u) (hu : ∀ od v, u ≠ .frz od v) : Rd (upd Hs a u2) b u := by
  by_cases z : b = a
  · subst z
    have hue : u = .dT es := by
      rcases hb with hb | ⟨o, hb⟩
      · rw [e] at hb; cases hb
        rcases h1 with rfl | ⟨od, rfl⟩
        · rfl
        · exact (hu _ _ rfl).elim
      · rw [e] at hb; cases hb
        rcases h1 with h | ⟨od, h⟩
        · cases h
        · cases h; rfl
    rw [hue]
    exact h2.rd upd_same
  · rcases hb with hb | ⟨o, hb⟩
    · exact .inl (by rw [upd_ne z]; exact hb)
    · exact .inr ⟨o, by rw [upd_ne z]; exact hb⟩
theorem lk_tlet {o : Obj} {vs : List V} : ¬ LkD es (tlet o vs) := by
  unfold tlet
  rintro (h | ⟨od, h⟩) <;> (split at h <;> cases h)
mutual
theorem Rep.relock (h1 : LkD es u1) (h2 : LkD es u2) (e : Hs a = some u1) : ∀ {v : V} {d : D}, Rep K ρ Hs v d → Rep K ρ (upd Hs a u2) v d
  | _, _, .non => .non
  | _, _, .bl b => .bl b
  | _, _, .int i => .int i
  | _, _, .str x => .str x
  | _, _, .lst h r => .lst (by rw [upd_ne (lk_ne h1 e h (by rintro (z | ⟨_, z⟩) <;> cases z))]; exact h) (RepAll.relock h1 h2 e r)
  | _, _, .scr h => .scr (by
      rcases h with h | h
      · exact .inl (lk_rd h1 h2 e h (fun _ _ z => nomatch z))
      · exact .inr h)
  | _, _, .tup ⟨o, ho, h⟩ r => .tup ⟨o, ho, by rw [upd_ne (lk_ne h1 e h lk_tlet)]; exact h⟩ (RepAll.relock h1 h2 e r)
  | _, _, .dK h k r => .dK (by rw [upd_ne (lk_ne h1 e h (by rintro (z | ⟨_, z⟩) <;> cases z))]; exact h) k (RepAll.relock h1 h2 e r)
  | _, _, .dT h k r => .dT (lk_rd h1 h2 e h (fun _ _ z => nomatch z)) k (RepAll.relock h1 h2 e r)
  | _, _, .box h => .box h
  | _, _, .exc0 c h => .exc0 c (by rw [upd_ne (lk_ne h1 e h (by unfold ExT; rintro (z | ⟨_, z⟩) <;> cases z))]; exact h)
  | _, _, .exc1 c h k r => .exc1 c (by rw [upd_ne (lk_ne h1 e h (by unfold ExT; rintro (z | ⟨_, z⟩) <;> cases z))]; exact h) (by rw [upd_ne (lk_ne h1 e k (by rintro (z | ⟨_, z⟩) <;> cases z))]; exact k) (Rep.relock h1 h2 e r)
theorem RepAll.relock (h1 : LkD es u1) (h2 : LkD es u2) (e : Hs a = some u1) : ∀ {vs : List V} {ds : List D}, RepAll K ρ Hs vs ds → RepAll K ρ (upd Hs a u2) vs ds
  | _, _, .nil => .nil
  | _, _, .cons h r => .cons (Rep.relock h1 h2 e h) (RepAll.relock h1 h2 e r)
end
theorem Bs.nr {m : Mu} (b : Bs K ρ m Hs H) {u : HO} (e : Hs a = some u) : a ∉ ρ := fun z => by
  obtain ⟨n, hn⟩ := List.mem_iff_getElem?.mp z
  have hl : n < m.length := by rw [← b.len]; exact (List.getElem?_eq_some_iff.mp hn).1
  obtain ⟨c, vs, q1, q2, _⟩ := b.bx n _ (List.getElem?_eq_getElem hl)
  rw [hn] at q1; cases q1
  rw [e] at q2; cases q2
theorem Bs.nt {m : Mu} (b : Bs K ρ m Hs H) {vs : List V} (e : H a = some (.tup vs)) : a ∉ ρ := fun z => by
  obtain ⟨n, hn⟩ := List.mem_iff_getElem?.mp z
  have hl : n < m.length := by rw [← b.len]; exact (List.getElem?_eq_some_iff.mp hn).1
  obtain ⟨c, vs, q1, q2, q3, _⟩ := b.bx n _ (List.getElem?_eq_getElem hl)
  rw [hn] at q1; cases q1
  rw [e] at q3; cases q3
theorem Bs.relock {m : Mu} (h1 : LkD es u1) (h2 : LkD es u2) (e : Hs a = some u1) (b : Bs K ρ m Hs H) : Bs K ρ m (upd Hs a u2) (upd H a u2) := by
  refine ⟨fun c v q => ?_, fun n ds q => ?_, b.nd, b.len⟩
  · by_cases z : c = a
    · subst z; rw [upd_same] at q ⊢; exact q
    · rw [upd_ne z] at q ⊢; exact b.sub c v q
  · obtain ⟨c, vs, q1, q2, q3, q4⟩ := b.bx n ds q
    have z : c ≠ a := fun z => by subst z; rw [e] at q2; cases q2
    exact ⟨c, vs, q1, by rw [upd_ne z]; exact q2, by rw [upd_ne z]; exact q3, q4.relock h1 h2 e⟩
theorem Own.relock {c : Addr} {d : D} (h1 : LkD es u1) (h2 : LkD es u2) (e : Hs a = some u1) (hc : Hs c = none) (h : Own K ρ Hs H c d) : Own K ρ (upd Hs a u2) (upd H a u2) c d := by
  have z : c ≠ a := fun z => by subst z; rw [e] at hc; cases hc
  cases h with
  | lst h r => exact .lst (by rw [upd_ne z]; exact h) (r.relock h1 h2 e)
  | dK h k r => exact .dK (by rw [upd_ne z]; exact h) k (r.relock h1 h2 e)
  | dT h k r => exact .dT (by rw [upd_ne z]; exact h) k (r.relock h1 h2 e)
theorem En.relock {H0 : Hp} {ω : List Md} {Γ : Gam} {σ : L2.St} (h1 : LkD es u1) (h2 : LkD es u2) (e : Hs a = some u1) (en : En K H0 ω Γ ρ Hs H σ) : En K H0 ω Γ ρ (upd Hs a u2) (upd H a u2) σ := by
  refine ⟨en.ln, en.wl, fun i h => ?_, fun i h => ?_, en.nd⟩
  · obtain ⟨v, q1, q2⟩ := en.sh i h
    exact ⟨v, q1, q2.relock h1 h2 e⟩
  · obtain ⟨c, q1, q2, q3, q4, q5, q6⟩ := en.ow i h
    have z : c ≠ a := fun z => by subst z; rw [e] at q3; cases q3
    exact ⟨c, q1, q2.relock h1 h2 e q3, by rw [upd_ne z]; exact q3, q4, q5, by rw [upd_ne z]; exact q6⟩
theorem EOk.relock {mg : Str → Option Value} {cls : Value} {dx : Option Addr} {c : String} {fs : List D} (h1 : LkD es u1) (h2 : LkD es u2) (e : Hs a = some u1) (h : EOk K mg ρ Hs cls dx c fs) : EOk K mg ρ (upd Hs a u2) cls dx c fs := by
  obtain ⟨q1, q2, q3⟩ := h
  refine ⟨q1, q2, ?_⟩
  rcases q3 with q3 | ⟨d, v, f, r1, r2, r3, r4⟩
  · exact .inl q3
  · exact .inr ⟨d, v, f, r1, r2, by rw [upd_ne (lk_ne h1 e r3 (by rintro (z | ⟨_, z⟩) <;> cases z))]; exact r3, r4.relock h1 h2 e⟩
/-- the keys of a locked dict, one by one -/
theorem walks_keysT {o : Obj} {kvs : List (D × D)} (h : Hs a = some (.frz o (.dT es))) (k : kvs.map (·.1) = es.map (fun e => tD e.1)) (hk : kvs.all (fun kv => keyOk true kv.1) = true) : Walks K (Itkt a o es) ρ Hs (kvs.map (·.1)) := by
  have hl : (kvs.map (·.1)).length = es.length := by rw [k, List.length_map]
  refine ⟨fun ρ2 Hs2 m2 H i p s b hi => ⟨b.sub _ _ (s _ _ h), by rw [← hl]; exact hi⟩, fun ρ2 Hs2 m2 H i p s b hi => ⟨b.sub _ _ (s _ _ h), by rw [← hl]; exact hi⟩, fun ρ2 Hs2 m2 H i x H' p s b hi y => ?_⟩
  obtain ⟨rfl, ks, v, q, e1, rfl, e2⟩ := y
  have hd : (kvs.map (·.1))[i]? = some (tD ks) := by rw [k, List.getElem?_map, e1]; rfl
  have hkey : keyOk true (tD ks) = true := by
    obtain ⟨kv, hkv, e⟩ := List.mem_map.mp (List.mem_of_getElem? hd)
    rw [← e]; exact List.all_eq_true.mp hk kv hkv
  obtain ⟨ks', hks⟩ := Option.isSome_iff_exists.mp (show (tkeyD (tD ks)).isSome = true from hkey)
  have hkk : ks' = ks := by
    have := tkeyD_eq hks
    have h3 := tD_eqv ks ks'
    rw [← this, tD_eqv] at h3
    simp at h3
    exact h3.symm
  have kt := ktV_keys hks
  rw [hkk] at kt
  have tl : ∀ {G : Hp}, G q = some (.tup (ks.map kV)) → ∃ o : Obj, o.dict = none ∧ G q = some (tlet o (ks.map kV)) := fun {G} hG => ⟨{ cls := .none, data := .fields #[] }, rfl, by rw [hG]; unfold tlet; rw [kt]; rfl⟩
  have rk : ∀ {G : Hp}, RepAll K ρ2 G (ks.map kV) (ks.map kD) := fun {G} => by
    clear hd hkey hks hkk kt e1 e2 tl
    induction ks with
    | nil => exact .nil
    | cons k ks ih => exact .cons (by cases k <;> constructor) ih
  cases hq : Hs2 q with
  | some o' =>
    have := b.sub _ _ hq
    rw [e2] at this; cases this
    exact ⟨tD ks, Hs2, hd, .refl .., b, .tup (tl hq) rk⟩
  | none =>
    have nq := b.nt e2
    refine ⟨tD ks, upd Hs2 q (.tup (ks.map kV)), hd, ⟨Sub.new hq, fun x o w => ?_, .refl _, fun _ w => .inl w, fun _ w => w, fun _ _ _ w => w⟩, ⟨fun c v w => ?_, fun n ds w => ?_, b.nd, b.len⟩, .tup (tl upd_same) rk⟩
    · by_cases z : x = q
      · subst z; exact .inr (.inr ⟨nq, _, e2⟩)
      · rw [upd_ne z] at w; exact .inl w
    · by_cases z : c = q
      · subst z; rw [upd_same] at w; cases w; exact e2
      · rw [upd_ne z] at w; exact b.sub c v w
    · obtain ⟨c, vs, q1, q2, q3, q4⟩ := b.bx n ds w
      have z : c ≠ q := fun z => by subst z; rw [e2] at q3; cases q3
      exact ⟨c, vs, q1, by rw [upd_ne z]; exact q2, q3, q4.mono (.refl _) (Sub.new hq)⟩
end
end Pv
namespace Pv
open PySem
end Pv
end
section
set_option Elab.async false
set_option linter.all false
set_option maxRecDepth 100000
set_option maxHeartbeats 4000000
/-! PzA: an error of an own class made by a keyword; isinstance(e, (KeyError, IndexError)). -/
namespace PySem
end PySem
namespace Pv
open PySem L2 PySem.W PyProof.Rows PySem.Calls
/-! ### isinstance(e, (KeyError, IndexError)) -/
end Pv
end
section
set_option Elab.async false
set_option linter.all false
set_option maxRecDepth 100000
set_option maxHeartbeats 4000000
/-! PzB: sorted(d.items()), d a dict with tuple keys. -/
namespace Pv
open PySem L2 PySem.W PyProof.Rows PySem.SeqAt PySem.Spec
end Pv
namespace Pv
open PySem
end Pv
end
section
set_option linter.all false
set_option maxRecDepth 100000
/-! the head's hook with tables and own errors' inits together -/
namespace Pv
open PySem PySem.Spec PyProof.Rows L2
def obsZ (fa : List He.Fa) (fn : List He.DefD) (ck : List Ck) (ini : List Ini) (ts : List TbN) (K : PySem.W.Frag) : AlW := (obsY fa fn ck ini K, ts.map fun t => He.dicW K (He.fAd K (t.1, none)))
def valZ (fn : List He.DefD) (ini : List Ini) (ts : List TbN) (w : World) : AlW := (valY fn ini, ts.map fun t => some (He.keysIn w.params t.2))
def SaysZ (fa : List He.Fa) (fn : List He.DefD) (ck : List Ck) (ini : List Ini) (ts : List TbN) (w : World) (K : PySem.W.Frag) : Prop := obsZ fa fn ck ini ts K = valZ fn ini ts w
section
variable {fa : List He.Fa} {fn : List He.DefD} {ck : List Ck} {ini : List Ini} {ts : List TbN} {w : World} {K : PySem.W.Frag}
theorem SaysZ.tab (c : SaysZ fa fn ck ini ts w K) (i : Nat) {t : TbN} (h : ts[i]? = some t := by rfl) : ∃ es n, KDict K w (He.fAd K (t.1, none)) es n := by
  have e : ts.map (fun t => He.dicW K (He.fAd K (t.1, none))) = ts.map fun t => some (He.keysIn w.params t.2) := congrArg (fun z : AlW => z.2) c
  have e2 : (ts.map fun t => He.dicW K (He.fAd K (t.1, none)))[i]? = (ts.map fun t => some (He.keysIn w.params t.2))[i]? := by rw [e]
  rw [List.getElem?_map, List.getElem?_map, h] at e2
  exact He.dicW_ok (Option.some.inj e2)
end
end Pv
end
section
set_option Elab.async false
set_option linter.all false
set_option maxRecDepth 100000
/-! PzD: a dict display with one key that is a tuple; a dict comprehension with such keys; list.remove. -/
namespace Pv
open PySem L2 PySem.W PyProof.Rows PySem.SeqAt
/-- d[k] = v for a tuple key, straight at the dict -/
theorem d_dictSetT {X : Cx} {pins : List (Addr × Obj)} {σ : L2.St} {H : Hp} {s : Shared} {A : Around} {E : Value → Shared → Prop} {D b : Addr} {kvs : List (List Key × V)} {k : List Key} {v : V} {r : Value} {Q : Unit → Shared → Prop} (hu : A.units < cLine) (I : Inv X pins σ H s) (hD : H D = some (.dT kvs)) (hz : kvs.length < sizeLine) (hb : H b = some (.tup (k.map kV)))
    (rv : RelV v r) (h : ∀ s', Inv X pins σ (upd H D (.dT (putK kvs k v))) s' → Q () s') : wpAny (model X.prog X.w) A (dictSet D (.ref b) r) Q E s := by
  obtain ⟨z, hd, xs, rel, dd⟩ := dt_of I.hok hD
  have hzx : xs.length ≤ sizeLine := by rw [← Paired.length rel]; exact z
  have hl : (putK kvs k v).length ≤ sizeLine := by have := length_putK kvs k v; omega
  refine wpAny_dictSet_heap (hsz := hzx) (show (tupleKind (mixKind X.prog X.w)).room A from hu) (key_of I.hok hb) dd fun h' dd' hs => h _ ?_
  obtain ⟨q, es, ep, hq, h2, h3, h4, _, h5⟩ := dd'
  refine d_write I (by rw [hD]; exact True.intro) hs ⟨q, hq⟩ ⟨hl, hd, _, (rel.put k hb rv).keeps fun c ys ec => ?_, q, es, ep, hq, h2, h3, h4, h5⟩
  rw [upd_ne (ne_of ec hD (fun z => nomatch z))]
  exact ec
section
variable {X : Cx}
def tDisp1T (tk tv : TE) : TE := fun σ H Q => ∀ p, H p = none → tk σ (upd H p (.dT [])) fun x H1 => tv σ H1 fun y H2 => H2 p = some (.dT []) ∧ ∃ ks b, x = .ref b ∧ H2 b = some (.tup (ks.map kV)) ∧ Q (.ref p) (upd H2 p (.dT (putK [] ks y)))
theorem pe_disp1T {k v : Expr} {pos : Pos} {tk tv : TE} (hu : X.A.units + 64 < cLine) (hk : PE X k tk) (hv : PE X v tv) : PE X (.Dict [some k] [v] pos) (tDisp1T tk tv) := by
  refine ⟨fun pins s σ H Q I q => ?_⟩
  have hn := I.hok.fresh (Nat.le_refl s.heap.objs.size)
  have I1 := I.laid (a := s.heap.objs.size) (o := .dT []) (h' := s.heap.push { cls := .type "dict", data := .dict #[] }) (t' := s.toks) (fun _ _ q => Heap.get?_push_of_some _ q) (Nat.le_refl _) (dt_empty s.heap I.big)
  rw [arm_eval_Dict, zip_pairTrees [some k] [v] X.env pos rfl rfl, dictDisplay_pairs (pairTrees [some k] [v] X.env pos) (by simp [pairTrees]) (by simp [pairTrees])]
  refine wpAny_bind (wpAny_standAt (wpAny_bind ?_))
  unfold subDict
  refine wpAny_bind (wpAny_alloc ?_)
  refine wpAny_bind (wpAny_holding ?_)
  rw [if_pos (by simp [pairTrees])]
  refine wpAny_bind (pairTrees_cons_walk (thn (hk.run pins _ σ _ _ I1 (q _ hn)) fun ku s2 ⟨x, H2, I2, r2, q2⟩ => thn (hv.run pins s2 σ H2 _ I2 q2) fun vu s3 ⟨y, H3, I3, r3, hd, ks, b, ex, hb, q3⟩ => pairTrees_nil_walk ?_))
  subst ex
  cases (show ku = Value.ref b from r2)
  refine wpAny_holding ?_
  rw [List.forIn_cons]
  refine wpAny_bind (wpAny_bind (wpAny_bind (d_dictSetT (by omega) I3 hd (by decide) hb r3 fun s' I' => wpAny_pure ?_)))
  simp only [List.forIn_nil]
  exact wpAny_pure (wpAny_pure (wpAny_pure (wpAny_pure ⟨.ref s.heap.objs.size, _, I', rfl, q3⟩)))
end
section
variable {X : Cx} {f : Bool} {H0 : Hp} {W : WX} {ω : List Md} {k v : Expr} {ck cv : EC} {pos : Pos}
/-- {k: v}, k a tuple that may be a key -/
def cDisp1T (ck cv : EC) : EC := fun Γ m => (ck Γ m).bind fun d m1 => (cv Γ m1).bind fun e m2 => if keyOk true d then .ok (.dct true [(d, e)]) m2 else .bad
theorem rep_tkey {K : PySem.W.Frag} {ρ : List Addr} {Hs H : Hp} {x : V} {d : D} (r : Rep K ρ Hs x d) (hz : keyOk true d = true) (sb : Sub Hs H) : ∃ ks b, d = tD ks ∧ x = .ref b ∧ H b = some (.tup (ks.map kV)) := by
  obtain ⟨ks, hk⟩ := Option.isSome_iff_exists.mp (show (tkeyD d).isSome = true from hz)
  have e := tkeyD_eq hk
  have kt := ktV_keys hk
  subst e
  cases r with
  | tup g1 g2 =>
    rw [rep_keys g2] at g1
    exact ⟨ks, _, rfl, rfl, sb _ _ (g1.key kt)⟩
theorem ev_disp1T (hu : X.A.units + 64 < cLine) (hk : EV X H0 W ω k ck) (hv : EV X H0 W ω v cv) : EB f X H0 W ω (.Dict [some k] [v] pos) (cDisp1T ck cv) :=
  PE.imp (pe_disp1T hu hk hv) fun σ H Q ⟨Γ, m, ρ, Hs, b, en, o⟩ p hp => by
    have t0 := tr_newF (ρ := ρ) (Hs := Hs) (o := .dT []) hp
    have b0 := b.newF (o := .dT []) hp
    refine ⟨Γ, m, ρ, Hs, b0, en.mono t0, ?_⟩
    unfold cDisp1T at o
    cases hca : ck Γ m with
    | bad => rw [hca] at o; exact o
    | exc c fs m' => rw [hca] at o; exact fun cls dx ρ' Hs' H' t' b' e' => o cls dx ρ' Hs' H' (t0.trans t') b' e'
    | ok d m1 =>
      rw [hca] at o
      intro x ρ1 Hs1 H1 t1 b1 r1
      have o : OutB f X.K X.mg (fun cls dx H' => W cls dx σ H') ((cv Γ m1).bind fun e m2 => if keyOk true d then .ok (.dct true [(d, e)]) m2 else .bad) ρ Hs H Q := o
      obtain ⟨p1, p2⟩ := tr_hid (hs_none b.sub hp) (b.out hp) (by intro z; rcases z with z | ⟨_, xs, z⟩ <;> (rw [upd_same] at z; cases z)) t1
      have hH1 : H1 p = some (.dT []) := t1.same _ _ (b.out hp) upd_same
      refine ⟨Γ, m1, ρ1, Hs1, b1, (en.mono t0).mono t1, ?_⟩
      cases hcb : cv Γ m1 with
      | bad => rw [hcb] at o; exact o.elim
      | exc c fs m' => rw [hcb] at o; exact fun cls dx ρ' Hs' H' t' b' e' => o cls dx ρ' Hs' H' ((t0.trans t1).trans t') b' e'
      | ok e m2 =>
        rw [hcb] at o
        intro y ρ2 Hs2 H2 t2 b2 r2
        obtain ⟨p3, p4⟩ := tr_hid p1 p2 (by intro z; rcases z with z | ⟨_, xs, z⟩ <;> (rw [hH1] at z; cases z)) t2
        have hH2 : H2 p = some (.dT []) := t2.same _ _ p2 hH1
        obtain ⟨hz, o⟩ := OutB.guardR (r := .ok (.dct true [(d, e)]) m2) o
        obtain ⟨ks, q, rfl, rfl, hq⟩ := rep_tkey (r1.mono t2.pre t2.sub) hz b2.sub
        have T2 := tr_upd (o := .dT (putK [] ks y)) hp ((t0.trans t1).trans t2)
        have B2 := b2.mut (o := .dT (putK [] ks y)) p3 p4
        have w : Own X.K ρ2 Hs2 (upd H2 p (.dT (putK [] ks y))) p (.dct true [(tD ks, e)]) := .dT upd_same rfl (.one r2)
        refine ⟨hH2, ks, q, rfl, hq, ?_⟩
        cases f with
        | true => exact o p ρ2 Hs2 _ T2 B2 w p3 p4 hp upd_some
        | false =>
          obtain ⟨u, hu, rp, b3⟩ := own_val B2 w p3 p4
          refine o (.ref p) ρ2 (upd Hs2 p u) _ ⟨T2.sub.trans (Sub.new p3), fun x v q => ?_, T2.pre, T2.bnew, T2.dom, T2.same⟩ b3 rp
          by_cases z : x = p
          · subst z; exact .inr hp
          · rw [upd_ne z] at q; exact T2.new x v q
end
/-! ### xs.remove(e), the first item that is equal -/
section
variable {f : Bool} {X : Cx} {N : Ent} {W : WX} {ωx ω : List Md} {e : Expr} {c : EC} {pos : Pos}
def sRem (i : Nat) (c : EC) : SC := fun Γ m => match Γ.getD i .non with
  | .lst xs => toS (c Γ m) Γ fun d m1 => if plAll PLN xs && d.pl PLN then (match xs.findIdx? fun e => e.eqv d with
    | some j => .nx (Γ.set i (.lst (xs.eraseIdx j))) m1
    | none => .bad) else .bad
  | _ => .bad
end
end Pv
end
section
set_option linter.all false
/-! Mg: ways that are taken, one more of them, and what stops it (plain lists). -/
namespace Mg
section
variable {V : Type} [DecidableEq V]
def ind (T : List (V × V)) (v : V) : Nat := T.countP fun a => decide (a.2 = v)
def dl (v w : V) : Int := if v = w then 1 else 0
/-- a house to the arrow by which it was found -/
abbrev Fd (V : Type) := List (V × Option (V × V))
def keys (f : Fd V) : List V := f.map (·.1)
def lkF (f : Fd V) (v : V) : Option (Option (V × V)) := (f.find? fun p => decide (p.1 = v)).map (·.2)
inductive Fnd (A T : List (V × V)) (s : V) : Fd V → Prop
  | nil : Fnd A T s [(s, none)]
  | fw {f : Fd V} {a : V × V} : Fnd A T s f → a ∈ A → a ∉ T → a.1 ∈ keys f → a.2 ∉ keys f → Fnd A T s (f ++ [(a.2, some a)])
  | bw {f : Fd V} {a : V × V} : Fnd A T s f → a ∈ T → a.2 ∈ keys f → a.1 ∉ keys f → Fnd A T s (f ++ [(a.1, some a)])
theorem keys_app (f g : Fd V) : keys (f ++ g) = keys f ++ keys g := by simp [keys]
theorem lkF_none {f : Fd V} {v : V} : lkF f v = none ↔ v ∉ keys f := by
  unfold lkF keys
  rw [Option.map_eq_none_iff, List.find?_eq_none]
  simp only [decide_eq_true_eq, List.mem_map, not_exists, not_and]
section
variable {A T : List (V × V)} {s : V}
theorem Fnd.nodup {f : Fd V} (h : Fnd A T s f) : (keys f).Nodup := by
  induction h with
  | nil => simp [keys]
  | @fw f a _ _ _ _ h ih => rw [keys_app]; exact List.nodup_append.mpr ⟨ih, by simp [keys], fun x hx y hy e => by simp [keys] at hy; subst hy; exact h (e ▸ hx)⟩
  | @bw f a _ _ _ h ih => rw [keys_app]; exact List.nodup_append.mpr ⟨ih, by simp [keys], fun x hx y hy e => by simp [keys] at hy; subst hy; exact h (e ▸ hx)⟩
/-- the way back: what is taken with one more -/
def unw (f : Fd V) : Nat → V → List (V × V) → Option (List (V × V))
  | 0, _, _ => none
  | k + 1, here, F => match lkF f here with
    | none => none
    | some none => some F
    | some (some a) => if a.2 = here then unw f k a.1 (F ++ [a]) else unw f k a.2 (F.erase a)
end
section
variable {A T : List (V × V)} {s t : V}
def step (T : List (V × V)) (here : V) (st : Fd V × List V) (a : V × V) : Fd V × List V :=
  let st1 := if a.1 = here ∧ a ∉ T ∧ a.2 ∉ keys st.1 then (st.1 ++ [(a.2, some a)], st.2 ++ [a.2]) else st
  if a.2 = here ∧ a ∈ T ∧ a.1 ∉ keys st1.1 then (st1.1 ++ [(a.1, some a)], st1.2 ++ [a.1]) else st1
def bfs (A T : List (V × V)) (t : V) : Nat → Fd V × List V → Fd V × List V
  | 0, st => st
  | _ + 1, (f, []) => (f, [])
  | k + 1, (f, h :: e) => if t ∈ keys f then (f, h :: e) else bfs A T t k (A.foldl (step T h) (f, e))
def Done (A T : List (V × V)) (f : Fd V) (v : V) : Prop := (∀ a ∈ A, a.1 = v → a ∉ T → a.2 ∈ keys f) ∧ ∀ a ∈ A, a.2 = v → a ∈ T → a.1 ∈ keys f
theorem Done.app {f g : Fd V} {v : V} (h : Done A T f v) : Done A T (f ++ g) v := ⟨fun a h1 h2 h3 => by rw [keys_app]; exact List.mem_append_left _ (h.1 a h1 h2 h3), fun a h1 h2 h3 => by rw [keys_app]; exact List.mem_append_left _ (h.2 a h1 h2 h3)⟩
theorem nodup_le {α : Type} [DecidableEq α] : ∀ {xs ys : List α}, xs.Nodup → (∀ x ∈ xs, x ∈ ys) → xs.length ≤ ys.length
  | [], _, _, _ => Nat.zero_le _
  | x :: xs, ys, hn, h => by
    obtain ⟨h1, h2⟩ := List.nodup_cons.mp hn
    have hx := h x (by simp)
    have := nodup_le (ys := ys.erase x) h2 fun z hz => by
      have hzx : z ≠ x := fun e => h1 (e ▸ hz)
      exact (List.mem_erase_of_ne hzx).mpr (h z (by simp [hz]))
    rw [List.length_erase_of_mem hx] at this
    have := List.length_pos_of_mem hx
    simp; omega
/-- all houses that can be found -/
def nds (A : List (V × V)) (s : V) : List V := s :: (A.map (·.1) ++ A.map (·.2))
theorem Fnd.in_nds {f : Fd V} (hT : ∀ a ∈ T, a ∈ A) (h : Fnd A T s f) : ∀ v ∈ keys f, v ∈ nds A s := by
  induction h with
  | nil => intro v hv; simp [keys] at hv; simp [nds, hv]
  | @fw f a _ h1 _ _ _ ih =>
    intro v hv
    rw [keys_app] at hv
    rcases List.mem_append.mp hv with z | z
    · exact ih v z
    · simp [keys] at z; subst z; unfold nds; exact List.mem_cons_of_mem _ (List.mem_append_right _ (List.mem_map.mpr ⟨a, h1, rfl⟩))
  | @bw f a _ h1 _ _ ih =>
    intro v hv
    rw [keys_app] at hv
    rcases List.mem_append.mp hv with z | z
    · exact ih v z
    · simp [keys] at z; subst z; unfold nds; exact List.mem_cons_of_mem _ (List.mem_append_left _ (List.mem_map.mpr ⟨a, hT a h1, rfl⟩))
theorem Fnd.len {f : Fd V} (hT : ∀ a ∈ T, a ∈ A) (h : Fnd A T s f) : f.length ≤ 2 * A.length + 1 := by
  have := nodup_le h.nodup (h.in_nds hT)
  unfold keys nds at this
  simp at this; omega
def start (s : V) : Fd V × List V := ([(s, none)], [s])
def more (A : List (V × V)) (s t : V) (k : Nat) (T : List (V × V)) : Option (List (V × V)) :=
  if t ∈ keys (bfs A T t k (start s)).1 then unw (bfs A T t k (start s)).1 (bfs A T t k (start s)).1.length t T else none
/-! as many as cross -/
/-- as long as there is one more -/
def tkn (A : List (V × V)) (s t : V) (k : Nat) : Nat → List (V × V) → List (V × V)
  | 0, T => T
  | j + 1, T => match more A s t k T with
    | none => T
    | some T' => tkn A s t k j T'
end
end
end Mg
end
section
set_option linter.all false
set_option maxRecDepth 100000
/-! Mh: routes apart, and the fewest houses of a cut: a net as ways that can each be taken once. -/
namespace Rt
open Pv Mg
abbrev Nd := Int × Int
abbrev Ar := Nd × Nd
def src : Nd := (0, 1)
def dst (n : Int) : Nd := (n - 1, 0)
def arrs (n : Int) (ls : List Ln) : List Ar := ((inner n).map fun h => ((h, 0), (h, 1))) ++ (ls.filter fun p => !(p.1 == n - 1) && !(p.2 == 0)).map fun p => ((p.1, 1), (p.2, 0))
def fuA (n : Int) (ls : List Ln) : Nat := 2 * (arrs n ls).length + 1
/-- what is taken in the end -/
def flw (n : Int) (ls : List Ln) : List Ar := tkn (arrs n ls) src (dst n) (fuA n ls) (arrs n ls).length []
/-! the rows that what is taken makes -/
def nx (T : List Ar) (v : Nd) : Option Nd := if v = src then none else (T.find? fun a => decide (a.1 = v)).map (·.2)
def wlk (T : List Ar) : Nat → List Int → Nd → List Int
  | 0, row, here => row ++ [here.1]
  | k + 1, row, here => match nx T here with
    | none => row ++ [here.1]
    | some x => match nx T x with
      | none => row ++ [here.1]
      | some y => wlk T k (row ++ [here.1]) y
/-- a row along what is taken -/
structure Row (n : Int) (ls : List Ln) (T : List Ar) (r : List Int) : Prop where
  hd : r.head? = some 0
  nd : r.Nodup
  ch : ∀ p ∈ r.zip r.tail, (((p.1, 1), (p.2, 0)) : Ar) ∈ T
  rg : ∀ x ∈ r, 0 ≤ x ∧ x < n
/-! apart -/
def rowOf (n : Int) (T : List Ar) (a : Ar) : List Int := wlk T n.toNat [0] a.2
def fromS (T : List Ar) : List Ar := T.filter fun a => decide (a.1 = src)
def apRows (n : Int) (ls : List Ln) : List (List Int) := (fromS (flw n ls)).map (rowOf n (flw n ls))
def aparts (n : Int) (ls : List Ln) : List (List Int) := sortL (apRows n ls)
/-- how many routes apart -/
def many (n : Int) (ls : List Ln) : Nat := (aparts n ls).length
/-! what crosses -/
end Rt
end
section
set_option linter.all false
set_option maxRecDepth 100000
/-! PzE: equations for dict displays and comprehensions with tuple keys, and for remove. -/
namespace Pv
open PySem
section
variable {α : Type} {Γ : Gam} {m : Mu} {Q : D → Mu → Prop} {Qn : Gam → Mu → Prop} {Qr : D → Mu → Prop}
@[simp ↓, simp] theorem wr_disp1T {ca cb : EC} : WR (cDisp1T ca cb Γ m) Q = WR (ca Γ m) fun d m1 => WR (cb Γ m1) fun e m2 => keyOk true d = true ∧ Q (.dct true [(d, e)]) m2 := by
  unfold cDisp1T; rw [wr_bind]; congr; funext d m1; rw [wr_bind]; congr; funext e m2
  cases keyOk true d <;> simp
@[simp ↓, simp] theorem ws_rem {i : Nat} {c : EC} {xs : List D} (h : Γ.getD i .non = .lst xs) : WS (sRem i c Γ m) Qn Qr = WR (c Γ m) fun d m1 => (plAll PLN xs && d.pl PLN) = true ∧ WO (xs.findIdx? fun e => e.eqv d) fun j => Qn (Γ.set i (.lst (xs.eraseIdx j))) m1 := by
  unfold sRem; rw [h]; show WS (toS _ _ _) _ _ = _
  rw [ws_toS]; congr; funext d m1
  cases hz : (plAll PLN xs && d.pl PLN) with
  | false => simp
  | true =>
    simp only [if_true, true_and]
    cases xs.findIdx? fun e => e.eqv d <;> simp
end
end Pv
end
section
set_option Elab.async false
set_option linter.all false
set_option maxRecDepth 100000
/-! PzF: sorted(set(xs)), xs a list of many rows of whole numbers of which few differ. -/
namespace L2
open PySem PySem.Spec PyProof.Rows
end L2
end
section
set_option Elab.async false
set_option linter.all false
set_option maxRecDepth 100000
/-! PzG: the rule for sorted(set(xs)) of many rows of which few differ. -/
namespace Pv
open PySem L2 PySem.W PyProof.Rows PySem.SeqAt PySem.Calls PySem.Spec
/-- rows of whole numbers, many, few different -/
def setOkB (xs : List D) : Bool := xs.all isIT && (Nat.ble (nubD xs).length 60 && Nat.ble xs.length 4000)
def ssetBD : Mu → D → Option D
  | _, .lst xs => if setOkB xs then some (.lst (isort (nubD xs))) else none
  | _, _ => none
section
variable {X : Cx} {f : Bool} {H0 : Hp} {W : WX} {ω : List Md} {a : Expr} {ca : EC} {p q pos pos2 : Pos}
@[simp ↓, simp] theorem wo_ssetB {m : Mu} {xs : List D} {QO : D → Prop} : WO (ssetBD m (.lst xs)) QO = (setOkB xs = true ∧ QO (.lst (isort (nubD xs)))) := by
  show WO (if setOkB xs = true then some (D.lst (isort (nubD xs))) else none) QO = _
  cases h : setOkB xs <;> simp
end
end Pv
end
section
set_option Elab.async false
set_option linter.all false
set_option maxRecDepth 100000
/-! PzH: a, b, c = xs.pop(): the last of an own list taken and laid out. -/
namespace Pv
open PySem L2 PySem.W PyProof.Rows PySem.SeqAt PySem.Calls PySem.Spec
def sPopT (i : Nat) (u : GC) : SC := fun Γ m => match Γ.getD i .non with
  | .lst xs => match xs[xs.length - 1]? with
    | some d => match u d (Γ.set i (.lst xs.dropLast)) with
      | some Γ' => .nx Γ' m
      | none => .bad
    | none => .bad
  | _ => .bad
section
variable {X : Cx} {f : Bool} {N : Ent} {W : WX} {ω ωx ω' : List Md} {pos : Pos} {is : List Nat} {u : GC}
@[simp ↓, simp] theorem ws_popT {i : Nat} {u : GC} {xs : List D} {Γ : Gam} {m : Mu} {Qn : Gam → Mu → Prop} {Qr : D → Mu → Prop} (h : Γ.getD i .non = .lst xs) : WS (sPopT i u Γ m) Qn Qr = WO (xs[xs.length - 1]?) fun d => WO (u d (Γ.set i (.lst xs.dropLast))) fun Γ' => Qn Γ' m := by
  unfold sPopT
  rw [h]
  show WS (match xs[xs.length - 1]? with
    | some d => match u d (Γ.set i (.lst xs.dropLast)) with
      | some Γ' => .nx Γ' m
      | none => .bad
    | none => .bad) Qn Qr = _
  cases xs[xs.length - 1]? with
  | none => simp
  | some d =>
    rw [wo_some]
    show WS (match u d (Γ.set i (.lst xs.dropLast)) with
      | some Γ' => .nx Γ' m
      | none => .bad) Qn Qr = _
    cases u d (Γ.set i (.lst xs.dropLast)) <;> simp
end
end Pv
end
section
set_option Elab.async false
set_option linter.all false
set_option maxRecDepth 100000
/-! PzI: max of two whole numbers; max of a list of whole numbers. -/
namespace Pv
open PySem L2 PySem.W PyProof.Rows PySem.SeqAt PySem.Calls PySem.Spec
end Pv
end
section
set_option Elab.async false
set_option linter.all false
set_option maxRecDepth 100000
/-! PzJ: list(zip(s, t)), s and t tuples. -/
namespace Pv
open PySem L2 PySem.W PyProof.Rows PySem.SeqAt
/-- an iterator of the class zip that a call makes -/
def PZ (X : Cx) (tg e : Expr) (wi : TI) : Prop := ∀ (pins : List (Addr × Obj)) (s : Shared) (σ : L2.St) (H : Hp) (R : It → Hp → Prop), L2.Inv X pins σ H s → wi σ H R →
  wpAny (model X.prog X.w) X.A (eval e X.env) (fun v s1 => PIE X pins σ tg R v s1 ∧ s1.TypeIs v "zip") X.xe s
theorem PZ.imp {X : Cx} {tg e : Expr} {t t' : TI} (h : PZ X tg e t) (q : ∀ σ H R, t' σ H R → t σ H R) : PZ X tg e t' := fun pins s σ H R I z => h pins s σ H R I (q _ _ _ z)
/-- list(iterator) over data -/
def cLi (ci : IC) : EC := fun Γ m => (ci Γ m).bind fun ds m1 => if szOk ds.length then .ok (.lst ds) m1 else .bad
section
variable {f : Bool} {X : Cx} {H0 : Hp} {W : WX} {ω : List Md} {a b e : Expr} {ci : IC} {cs : Gam → Mu → R (List D)} {p pos p0 : Pos} {x0 : Str}
@[simp ↓, simp] theorem wr_li {Γ : Gam} {m : Mu} {Q : D → Mu → Prop} : WR (cLi ci Γ m) Q = WR (ci Γ m) fun ds m1 => if szOk ds.length = true then Q (.lst ds) m1 else False := by
  unfold cLi
  rw [wr_bind]
  congr
  funext ds m1
  cases h : szOk ds.length <;> simp [wr_eq, WR0]
end
end Pv
end
section
set_option Elab.async false
set_option linter.all false
set_option maxRecDepth 100000
/-! PzK: for k, v in d.items() where d is an own dict with tuple keys; a dict handed from one slot to another. -/
namespace Pv
open PySem L2 PySem.W PyProof.Rows PySem.SeqAt
/-- the pairs of the locked dict at d, each a new tuple of the key's own tuple and the value -/
def ItiT (d : Addr) (o : Obj) (kvs : List (List Key × V)) : It :=
  ⟨fun i H => H d = some (.frz o (.dT kvs)) ∧ i < kvs.length,
    fun i H x H' => ∃ (T : Addr) (ob : Obj) (k : List Key) (v : V) (q : Addr), kvs[i]? = some (k, v) ∧ x = .ref T ∧ H T = none ∧ ob.dict = none ∧ H q = some (.tup (k.map kV)) ∧ H' = upd H T (tlet ob [.ref q, v]),
    fun i H => H d = some (.frz o (.dT kvs)) ∧ kvs.length ≤ i⟩
theorem frzTV {X : Cx} {pins : List (Addr × Obj)} {σ : L2.St} {H : Hp} {s : Shared} {d : Addr} {o : Obj} {kvs : List (List Key × V)} (I : L2.Inv X pins σ H s) (h : H d = some (.frz o (.dT kvs))) :
    (d == sysModules) = false ∧ s.heap.get? d = some o ∧ o.ExactDict ∧ ∃ (es : Array DictEntry) (ep : Nat), o.data = .dict es ep ∧ es.size = kvs.length ∧
      ∀ (i : Nat) (k : List Key) (v : V), kvs[i]? = some (k, v) → ∃ (en : DictEntry) (q : Addr), es[i]? = some en ∧ en.key = .ref q ∧ H q = some (.tup (k.map kV)) ∧ RelV v en.val := by
  obtain ⟨hd, z, hs, xs, pr, o', es, ep, ho, hx, hdt, he, _⟩ := I.hok d _ h
  rw [hd] at ho
  cases ho
  refine ⟨hs, hd, hx, es, ep, hdt, ?_, fun i k v e => ?_⟩
  · have l1 : es.size = xs.length := size_of_entries he
    have l2 : kvs.length = xs.length := Paired.length pr
    omega
  · obtain ⟨b, hb, e1, e2, e3⟩ := paired_get pr e
    have q := entry_at he i
    rw [hb] at q
    exact ⟨_, b.2.1, q, rfl, e2, e3⟩
section
variable {P : Program} {w : World} {K : PySem.W.Frag} {d : Addr} {o : Obj} {es : Array DictEntry} {ep : Nat}
theorem turn_itemsT {kvs : List (List Key × V)} {elts : List Expr} {kk : Nat} {tpos : Pos} (it : Addr) (hod : o.data = .dict es ep) :
    Turn P w K (.Tuple elts kk tpos) (ItiT d o kvs) [it] it (fun i h => ∃ ok ov, IsItemIter h it d i kvs.length ep ok ov) where
  mem := by simp
  obj := fun i h st b hb => by
    have e : b = it := by simpa using hb
    subst e
    obtain ⟨ok, ov, e⟩ := st
    exact ⟨_, e, fun v z => nomatch z⟩
  keep := fun i h h' st k => let ⟨ok, ov, e⟩ := st; ⟨ok, ov, k it (by simp) _ e⟩
  item := by
    intro X hP hw hK hc i pins s σ H E I hf st hg
    subst hP hw hK
    obtain ⟨hd, hi⟩ := hg
    obtain ⟨hs, hgd, hx, es', ep', hdt, hsz, ent⟩ := frzTV I hd
    obtain ⟨rfl, rfl⟩ := dict_ep hod hdt
    obtain ⟨⟨k, v⟩, hkv⟩ : ∃ p, kvs[i]? = some p := ⟨kvs[i], List.getElem?_eq_getElem hi⟩
    obtain ⟨en, q, hen, hkey, hq, hval⟩ := ent i k v hkv
    obtain ⟨ok, ov, he⟩ := st
    rw [← hsz] at he
    have hlt : it < s.heap.objs.size := Heap.lt_size he
    have hi' : i < es'.size := by omega
    have hen' : es'[i] = en := by rw [Array.getElem?_eq_getElem hi'] at hen; exact Option.some.inj hen
    refine wpAny_pyNext_items_item_raw he ⟨o, hgd, hx, hdt⟩ hi' fun h' ho hT hz hk => ?_
    rw [hen'] at ho hT
    refine ⟨_, rfl, wpAny_letOwnedTupleGo_items (s := { s with heap := h' }) ho fun h'' he' sb => ?_⟩
    have hT2 : h''.get? s.heap.objs.size = some (tObj [en.key, en.val]) := (sb.2 _ (Nat.ne_of_gt hlt)).trans hT
    have new : ObjOk X.prog X.w (upd H s.heap.objs.size (tlet (tObj [en.key, en.val]) [.ref q, v])) h'' s.heap.objs.size (tlet (tObj [en.key, en.val]) [.ref q, v]) :=
      objOk_tlet hT2 ⟨by show 2 ≤ sizeLine; decide, [en.key, en.val], .cons (show RelV (.ref q) en.key from hkey) (.cons hval .nil), ⟨_, hT2, rfl, _, rfl⟩⟩
    have I1 : L2.Inv X pins σ (upd H s.heap.objs.size (tlet (tObj [en.key, en.val]) [.ref q, v])) { s with heap := h'' } :=
      I.turnedNew (t' := s.toks) (ch := [it]) (fun b ob hb e => (sb.2 b (by simpa using hb)).trans (hk b ob (by simpa using hb) e)) hf (Nat.le_refl _) new
    refine ⟨.ref s.heap.objs.size, _, I1, rfl, ⟨_, tObj [en.key, en.val], k, v, q, hkv, rfl, I.hok.fresh (Nat.le_refl _), rfl, hq, rfl⟩, ⟨en.key, en.val, ?_⟩, fun b hb => ?_⟩
    · rw [← hsz]; exact he'
    · have e : b = it := by simpa using hb
      rw [e, upd_ne (Nat.ne_of_lt hlt)]
      exact (hf it (by simp)).1
  done := by
    intro X hP hw hK hc i pins s σ H E I hf st hg
    subst hP hw hK
    obtain ⟨hd, hi⟩ := hg
    obtain ⟨f0, f1, f2, f3, f4, f5⟩ := hf it (by simp)
    obtain ⟨hs, hgd, hx, es', ep', hdt, hsz, ent⟩ := frzTV I hd
    obtain ⟨rfl, rfl⟩ := dict_ep hod hdt
    obtain ⟨ok, ov, he⟩ := st
    rw [← hsz] at he
    exact wpAny_pyNext_items_end_raw (I.ok.hd hc) he ⟨o, hgd, hx, hdt⟩ (by omega) fun h' eb => ⟨rfl, I.turned (t' := s.toks) (fun b ob hb e => eb b ob hb e) f0 f1 f3 f4 f5⟩
  self := fun A i s Q E st h => let ⟨_, _, e⟩ := st; PySem.W.kcp_self e h
end
def iItemsT (td : TE) : TI := fun σ H R => td σ H fun x H1 => ∃ d o kvs, x = .ref d ∧ H1 d = some (.frz o (.dT kvs)) ∧ R (ItiT d o kvs) H1
theorem pi_itemsT {X : Cx} {e : Expr} {td : TE} {apos cpos : Pos} {elts : List Expr} {kk : Nat} {tpos : Pos} (he : PE X e td) (hbase : attributeBase e "items" X.env (eval e X.env) = eval e X.env := by rfl) (hline : (apos.endLine == cpos.line) = true := by rfl) :
    PI X (.Tuple elts kk tpos) (.Call (.Attribute e "items" apos) [] [] cpos) (iItemsT td) := by
  refine ⟨fun pins s σ H R I h => ?_⟩
  refine wpAny_Call_method (T := "dict") (id := "dict.items") hbase rfl hline F.plainAttrs_dict F.slot_dict_items F.type_dict_items (thn (he.run pins s σ H _ I h) fun u s1 ⟨x, H1, I1, rx, d, o, kvs, ex, hd, q⟩ => ?_)
  subst ex
  obtain rfl : u = Value.ref d := rx
  obtain ⟨hs, hgd, hx, es, ep, hdt, hsz, ent⟩ := frzTV I1 hd
  have hraw : s1.heap.DictRaw d es ep := ⟨o, hgd, hx, hdt⟩
  refine ⟨⟨o, hgd, hx.1⟩, ?_, ?_⟩
  · exact fun a e => by cases e; exact ⟨o, hgd, hx.2.1⟩
  have I2 : L2.Inv X pins σ H1 { s1 with heap := s1.heap.push { cls := .type "dict_items", data := .fields #[.ref d] } } := I1.kept (t' := s1.toks) fun b ob q => Heap.get?_push_of_some _ q
  have fin : wpAny (model X.prog X.w) X.A (pyIter (.ref s1.heap.objs.size)) (PIE X pins σ (.Tuple elts kk tpos) R) X.xe { s1 with heap := s1.heap.push { cls := .type "dict_items", data := .fields #[.ref d] } } := by
    refine wpAny_pyIter_items_raw (d := d) ⟨_, Heap.get?_push_size _ rfl, rfl, rfl⟩ (es := es) (ep := ep) ⟨o, Heap.get?_push_of_some _ hgd, hx, hdt⟩ (pi_one (tk := s1.toks) I2 _ (turn_itemsT _ hdt) ⟨.none, .none, ?_⟩ q)
    rw [← hsz]
    exact Heap.get?_push_size _ rfl
  show wpAny _ _ (callWith cpos (.builtin "dict.items") [.ref d] [] []) _ X.xe s1
  exact method_meetsIn F.slot_dict_items F.entry_dict_items rfl (PySem.evalArgs_none ⟨rfl, ⟨o, hgd, hx.1⟩, F.args_dict_items_1 _, _, meets_dict_items_raw d hs, ⟨es, ep, hraw⟩, fin⟩)
/-! ### over data -/
section
variable {K : PySem.W.Frag} {ρ : List Addr} {Hs : Hp} {a : Addr} {es : List (List Key × V)}
theorem walks_itemsT {o : Obj} {kvs : List (D × D)} (h : Hs a = some (.frz o (.dT es))) (k : kvs.map (·.1) = es.map (fun e => tD e.1)) (hk : kvs.all (fun kv => keyOk true kv.1) = true) (rv : RepAll K ρ Hs (es.map (·.2)) (kvs.map (·.2))) :
    Walks K (ItiT a o es) ρ Hs (kvs.map fun kv => D.tup [kv.1, kv.2]) := by
  have wk := walks_keysT (K := K) (ρ := ρ) h k hk
  have hl : (kvs.map fun kv => D.tup [kv.1, kv.2]).length = es.length := by
    rw [List.length_map]
    have := congrArg List.length k
    simpa using this
  refine ⟨fun ρ2 Hs2 m2 H i p s b hi => ⟨b.sub _ _ (s _ _ h), by rw [← hl]; exact hi⟩, fun ρ2 Hs2 m2 H i p s b hi => ⟨b.sub _ _ (s _ _ h), by rw [← hl]; exact hi⟩, fun ρ2 Hs2 m2 H i x H' p s b hi y => ?_⟩
  obtain ⟨T, ob, ks, v, q, e1, rfl, hT, hob, e2, rfl⟩ := y
  obtain ⟨d, Hs3, hd, t3, b3, r3⟩ := wk.yld ρ2 Hs2 m2 H i (.ref q) H p s b (by rw [List.length_map] at hi ⊢; exact hi) ⟨rfl, ks, v, q, e1, rfl, e2⟩
  have hv : (es.map (·.2))[i]? = some v := by rw [List.getElem?_map, e1]; rfl
  obtain ⟨e, he, re⟩ := rv.get hv
  have hkv : ∃ kv, kvs[i]? = some kv ∧ kv.1 = d ∧ kv.2 = e := by
    rw [List.getElem?_map] at hd he
    cases hq : kvs[i]? with
    | none => rw [hq] at hd; cases hd
    | some kv =>
      rw [hq] at hd he
      exact ⟨kv, rfl, Option.some.inj hd, Option.some.inj he⟩
  obtain ⟨kv, hkv1, rfl, rfl⟩ := hkv
  have sb : Sub Hs3 (upd Hs3 T (tlet ob [.ref q, v])) := Sub.new (hs_none b3.sub hT)
  refine ⟨.tup [kv.1, kv.2], upd Hs3 T (tlet ob [.ref q, v]), by rw [List.getElem?_map, hkv1]; rfl, t3.trans (tr_new b3.sub hT), b3.new hT, .tup ⟨ob, hob, upd_same⟩ (.cons (r3.mono (.refl _) sb) (.one ?_))⟩
  exact re.mono p ((s.trans t3.sub).trans sb)
end
/-- a relation to an earlier state, another letter for a dict laid since -/
theorem Tr.relk {ρ0 ρ : List Addr} {Hs0 H0 Hs H : Hp} {a : Addr} {u1 u2 : HO} (t : Tr ρ0 Hs0 H0 ρ Hs H) (n1 : Hs0 a = none) (n2 : H0 a = none) (e : Hs a = some u1) : Tr ρ0 Hs0 H0 ρ (upd Hs a u2) (upd H a u2) where
  sub := fun x u q => by
    have z : x ≠ a := fun z => by subst z; rw [n1] at q; cases q
    rw [upd_ne z]; exact t.sub x u q
  new x o q := by
    by_cases z : x = a
    · subst z
      rcases t.new x u1 e with w | w
      · rw [n1] at w; cases w
      · exact .inr w
    · rw [upd_ne z] at q; exact t.new x o q
  pre := t.pre
  bnew := t.bnew
  dom x q := by
    have z : x ≠ a := fun z => by subst z; rw [upd_same] at q; cases q
    rw [upd_ne z] at q; exact t.dom x q
  same x o n q := by
    have z : x ≠ a := fun z => by subst z; rw [n2] at q; cases q
    rw [upd_ne z]; exact t.same x o n q
/-- only a statement that comes to its end -/
def okS : SR → SR
  | .nx Γ m => .nx Γ m
  | _ => .bad
def itemsOf : D → Option (List D)
  | .dct true kvs => if kvs.all (fun kv => keyOk true kv.1) then some (kvs.map fun kv => .tup [kv.1, kv.2]) else none
  | _ => none
theorem itemsOf_eq {d : D} {ds : List D} (h : itemsOf d = some ds) : ∃ kvs, d = .dct true kvs ∧ kvs.all (fun kv => keyOk true kv.1) = true ∧ ds = kvs.map fun kv => .tup [kv.1, kv.2] := by
  cases d with
  | dct b kvs =>
    cases b with
    | false => cases h
    | true =>
      have h : (if kvs.all (fun kv => keyOk true kv.1) = true then some (kvs.map fun kv => D.tup [kv.1, kv.2]) else none) = some ds := h
      by_cases q : kvs.all (fun kv => keyOk true kv.1) = true
      · rw [if_pos q] at h; cases h; exact ⟨kvs, rfl, q, rfl⟩
      · rw [if_neg q] at h; cases h
  | _ => cases h
def sForI (i : Nat) (ct : GC) (cb : SC) : SC := fun Γ m => match itemsOf (Γ.getD i .non) with
  | none => .bad
  | some ds => okS (loopS ct cb ds Γ m)
section
variable {f : Bool} {X : Cx} {N : Ent} {W : WX} {ωx ω ωt ωb : List Md} {is : List Nat} {tg : Expr} {body : List Stmt} {ct : GC} {cb : SC} {pos : Pos}
theorem for_core {J : It} {ds : List D} {Γ : Gam} {m : Mu} {ρ : List Addr} {Hs H : Hp} {σ : L2.St} {dn : Ends} (t : N.tr ρ Hs H) (b : Bs X.K ρ m Hs H) (en : En X.K N.H ω Γ ρ Hs H σ) (o : SOut f X N W ωx ω ρ Hs (loopS ct cb ds Γ m) dn) (wk : Walks X.K J ρ Hs ds) (hle : MdLe ω ωb = true) :
    ∃ W2 : Nat → Nat → L2.St → Hp → Prop, (∃ m, W2 0 m σ H) ∧ ∀ i m σ H, W2 i m σ H → (J.stop i H ∧ dn.nx σ H) ∨ (J.go i H ∧ ∃ Nx : L2.St → Hp → Prop, (∀ σ' H', Nx σ' H' → ∃ m', m' < m ∧ W2 (i + 1) m' σ' H') ∧ ∀ x H', J.yld i H x H' → cG X N.H is ω ωt ct x σ H' fun σ2 H2 => cS f X N W ωx ωt ωb cb { dn with nx := Nx, ct := Nx, bk := dn.nx } σ2 H2) := by
  refine ⟨fun i k σ2 H2 => k = ds.length - i ∧ i ≤ ds.length ∧ ∃ Γ2 m2 ρ2 Hs2, N.tr ρ2 Hs2 H2 ∧ Pre ρ ρ2 ∧ Sub Hs Hs2 ∧ Bs X.K ρ2 m2 Hs2 H2 ∧ En X.K N.H ω Γ2 ρ2 Hs2 H2 σ2 ∧ SOut f X N W ωx ω ρ2 Hs2 (loopS ct cb (ds.drop i) Γ2 m2) dn,
    ⟨ds.length, by omega, Nat.zero_le _, Γ, m, ρ, Hs, t, .refl _, .refl _, b, en, o⟩, ?_⟩
  rintro i k σ2 H2 ⟨rfl, hik, Γ2, m2, ρ2, Hs2, t2, p2, s2, b2, en2, o2⟩
  by_cases hlt : i < ds.length
  · refine .inr ⟨wk.go ρ2 Hs2 m2 H2 i p2 s2 b2 hlt, fun σ3 H3 => ∃ Γ3 m3 ρ3 Hs3, N.tr ρ3 Hs3 H3 ∧ Pre ρ ρ3 ∧ Sub Hs Hs3 ∧ Bs X.K ρ3 m3 Hs3 H3 ∧ En X.K N.H ω Γ3 ρ3 Hs3 H3 σ3 ∧ SOut f X N W ωx ω ρ3 Hs3 (loopS ct cb (ds.drop (i + 1)) Γ3 m3) dn, fun σ3 H3 hN => ⟨ds.length - (i + 1), by omega, rfl, hlt, hN⟩, fun x H3 hy => ?_⟩
    obtain ⟨d, Hs3, hd, t3, b3, r3⟩ := wk.yld ρ2 Hs2 m2 H2 i x H3 p2 s2 b2 hlt hy
    have hdr : ds.drop i = d :: ds.drop (i + 1) := by
      rw [List.drop_eq_getElem_cons hlt]
      rw [List.getElem?_eq_getElem hlt] at hd
      rw [Option.some.inj hd]
    rw [hdr] at o2
    unfold loopS at o2
    cases hct : ct d Γ2 with
    | none => rw [hct] at o2; exact o2.elim
    | some Γ3 =>
      rw [hct] at o2
      refine ⟨Γ2, m2, ρ2, Hs3, d, Γ3, b3, en2.mono t3, r3, hct, fun σ4 _ en4 => ⟨Γ3, m2, ρ2, Hs3, t2.trans t3, b3, en4, ?_⟩⟩
      have o2 : SOut f X N W ωx ω ρ2 Hs2 (match cb Γ3 m2 with
        | .nx Γ4 m4 => loopS ct cb (ds.drop (i + 1)) Γ4 m4
        | r => r) dn := o2
      cases hcb : cb Γ3 m2 with
      | bad => rw [hcb] at o2; exact o2
      | rt d m' => rw [hcb] at o2; exact o2
      | exc c fs Γ' m' => rw [hcb] at o2; exact fun cls dx σ' ρ' Hs' H' t b en e => o2 cls dx σ' ρ' Hs' H' ⟨t.1, t.2.1, t3.sub.trans t.2.2⟩ b en e
      | nx Γ4 m4 =>
        rw [hcb] at o2
        exact fun σ5 ρ5 Hs5 H5 t5 b5 en5 => ⟨Γ4, m4, ρ5, Hs5, t5.1, p2.trans t5.2.1, s2.trans (t3.sub.trans t5.2.2), b5, en5.weak hle, SOut.fwd t5.2.1 (t3.sub.trans t5.2.2) o2⟩
  · have e : i = ds.length := by omega
    subst e
    rw [List.drop_length] at o2
    exact .inl ⟨wk.stop ρ2 Hs2 m2 H2 _ p2 s2 b2 (Nat.le_refl _), o2 σ2 ρ2 Hs2 H2 (.same t2) b2 en2⟩
/-- for .. in d.items(), d in a slot of its own: behind it d is a value -/
theorem sv_forI (i : Nat) {x : Str} {p apos cpos : Pos} {elts : List Expr} {kk : Nat} {tpos : Pos} (hp : PassesOwn (model X.prog X.w) X.A X.env X.xe) (hc : X.calm = true) (hg : GV X N.H is (ω.set i .sh) (.Tuple elts kk tpos) ct ωt) (hb : SVs f X N W ωx ωt body cb ωb)
    (hi : ω[i]? = some .ow := by rfl) (hle : MdLe (ω.set i .sh) ωb = true := by rfl) (hN : X.N[i]? = some x := by rfl) (hv : Vis X.env.scope x := by first | exact Or.inl rfl | exact Or.inr (Or.inl rfl) | exact Or.inr (Or.inr rfl)) (hd : (x == ("__debug__" : Str)) = false := by decide)
    (hcd : (x == ("__classdict__" : Str)) = false := by decide) (hbase : attributeBase (.Name x p) "items" X.env (eval (.Name x p) X.env) = eval (.Name x p) X.env := by rfl) (hline : (apos.endLine == cpos.line) = true := by rfl)
    (hs : ∀ y, foldedSetIterable (.Call (.Attribute (.Name x p) "items" apos) [] [] cpos) X.env y = pure y := by intro _; rfl) :
    SV f X N W ωx ω (.For (.Tuple elts kk tpos) (.Call (.Attribute (.Name x p) "items" apos) [] [] cpos) body [] pos) (sForI i ct cb) (ω.set i .sh) :=
  PS.imp (ps_lock (ps_for hp hc (pi_itemsT (pe_var (pos := p) hN hv hd hcd) hbase hline) hg hb hs)) fun dn σ H ⟨Γ, m, ρ, Hs, t, b, en, o⟩ => by
    obtain ⟨a, h1, h2, h3, h4, h5, h6⟩ := en.ow i hi
    obtain ⟨Hs', t', s', b', en'⟩ := En.frz t b en hi
    have hil : i < ω.length := (List.getElem?_eq_some_iff.mp hi).1
    obtain ⟨v, q1, q2⟩ := en'.sh i (List.getElem?_set_self hil)
    rw [h1] at q1; cases q1
    unfold sForI at o
    cases hk : itemsOf (Γ.getD i .non) with
    | none => rw [hk] at o; exact o.elim
    | some ds =>
      rw [hk] at o
      have o : SOut f X N W ωx (ω.set i .sh) ρ Hs (okS (loopS ct cb ds Γ m)) dn := o
      obtain ⟨kvs, e1, e2, rfl⟩ := itemsOf_eq hk
      rw [e1] at h2 q2
      cases h2 with
      | dT g1 g2 g3 =>
        rename_i es
        have hHs : Hs' a = some (.dT es) := by
          cases q2 with
          | dT w1 w2 w3 =>
            rcases w1 with w1 | ⟨o', w1⟩
            · have := b'.sub _ _ w1; rw [g1] at this; cases this; exact w1
            · have := b'.sub _ _ w1; rw [g1] at this; cases this
        have nN : N.Hs a = none := by
          cases hq : N.Hs a with
          | none => rfl
          | some u => have := t.sub a u hq; rw [h3] at this; cases this
        refine ⟨a, .dT es, g1, trivial, fun od => ?_⟩
        have L1 : LkD es (.dT es) := .inl rfl
        have L2' : LkD es (.frz od (.dT es)) := .inr ⟨od, rfl⟩
        refine ⟨.ref a, h1, a, od, es, rfl, upd_same, ?_⟩
        refine for_core (Tr.relk t' nN h5 hHs) (b'.relock L1 L2' hHs) (en'.relock L1 L2' hHs) ?_ (walks_itemsT upd_same g2 e2 ((g3.mono (.refl _) s').relock L1 L2' hHs)) hle
        cases hr : loopS ct cb (kvs.map fun kv => D.tup [kv.1, kv.2]) Γ m with
        | bad => rw [hr] at o; exact o
        | rt d m' => rw [hr] at o; exact o.elim
        | exc c fs Γ' m' => rw [hr] at o; exact o.elim
        | nx Γ' m' =>
          rw [hr] at o
          intro σ' ρ' Hs2 H2 fw b2 en2
          have ha : Hs2 a = some (.frz od (.dT es)) := fw.2.2 a _ upd_same
          refine ⟨b2.sub _ _ ha, o σ' ρ' (upd Hs2 a (.dT es)) (upd H2 a (.dT es)) ⟨Tr.relk fw.1 nN h5 ha, fw.2.1, fun c u q => ?_⟩ (b2.relock L2' L1 ha) (en2.relock L2' L1 ha)⟩
          have z : c ≠ a := fun z => by subst z; rw [h3] at q; cases q
          rw [upd_ne z]
          exact fw.2.2 c u (by rw [upd_ne z]; exact s' c u q)
/-- y = x where x is a slot of its own: from here on it is y's -/
def sMv (i j : Nat) : SC := fun Γ m => .nx ((Γ.set i (Γ.getD j .non)).set j .non) m
theorem sv_mv (i j : Nat) {x y : Str} {px py : Pos} (hN : X.N.Nodup) (hij : i ≠ j) (hj : ω[j]? = some .ow := by rfl) (hw : i < ω.length := by decide) (hi : X.N[i]? = some x := by rfl) (hjx : X.N[j]? = some y := by rfl) (hl : Loc X.env.scope x := by first | exact Or.inl rfl | exact Or.inr rfl)
    (hv : Vis X.env.scope y := by first | exact Or.inl rfl | exact Or.inr (Or.inl rfl) | exact Or.inr (Or.inr rfl)) (hd : (y == ("__debug__" : Str)) = false := by decide) (hcd : (y == ("__classdict__" : Str)) = false := by decide)
    (hs : swapsWith (.Name y py) (some (.Name x px)) pos.line X.env = pure false := by rfl) (hf : X.fn x = true ∨ X.env.scope.names.lookup x = some .local := by first | exact .inl rfl | exact .inr rfl | assumption) :
    SV f X N W ωx ω (.Assign [.Name x px] (.Name y py) pos) (sMv i j) ((ω.set j .un).set i .ow) :=
  PS.imp (ps_set hN hi hl (pe_var (pos := py) hjx hv hd hcd) hs hf) fun dn σ H ⟨Γ, m, ρ, Hs, t, b, en, o⟩ => by
    obtain ⟨a, h1, h2, h3, h4, h5, h6⟩ := en.ow j hj
    refine ⟨.ref a, h1, o _ ρ Hs H (.same t) b ?_⟩
    have hjl : j < ω.length := (List.getElem?_eq_some_iff.mp hj).1
    have hji : j ≠ i := Ne.symm hij
    have gj : ∀ k : Nat, k ≠ i → k ≠ j → ((Γ.set i (Γ.getD j .non)).set j .non).getD k .non = Γ.getD k .non := fun k k1 k2 => by
      simp only [List.getD_eq_getElem?_getD, List.getElem?_set_ne (Ne.symm k2), List.getElem?_set_ne (Ne.symm k1)]
    have wk : ∀ (k : Nat), k ≠ i → k ≠ j → ((ω.set j .un).set i .ow)[k]? = ω[k]? := fun k k1 k2 => by
      rw [List.getElem?_set_ne (Ne.symm k1), List.getElem?_set_ne (Ne.symm k2)]
    have wj : ((ω.set j .un).set i .ow)[j]? = some .un := by rw [List.getElem?_set_ne hij, List.getElem?_set_self hjl]
    have wi : ((ω.set j .un).set i .ow)[i]? = some .ow := List.getElem?_set_self (by rw [List.length_set]; exact hw)
    refine ⟨by rw [List.length_set, List.length_set, List.length_set]; exact en.ln, by rw [List.length_set, List.length_set, List.length_set]; exact en.wl, fun k q => ?_, fun k q => ?_, fun k l c q1 q2 q3 q4 => ?_⟩
    · have k1 : k ≠ i := fun z => by subst z; rw [wi] at q; cases q
      have k2 : k ≠ j := fun z => by subst z; rw [wj] at q; cases q
      rw [wk k k1 k2] at q
      rw [List.getElem?_set_ne (Ne.symm k1), gj k k1 k2]
      exact en.sh k q
    · by_cases k1 : k = i
      · subst k1
        refine ⟨a, List.getElem?_set_self (by rw [← en.wl]; exact hw), ?_, h3, h4, h5, h6⟩
        have : ((Γ.set k (Γ.getD j .non)).set j .non).getD k .non = Γ.getD j .non := by
          rw [List.getD_eq_getElem?_getD, List.getElem?_set_ne hji, List.getElem?_set_self (by rw [en.ln, ← en.wl]; exact hw)]; rfl
        rw [this]; exact h2
      · have k2 : k ≠ j := fun z => by subst z; rw [wj] at q; cases q
        rw [wk k k1 k2] at q
        rw [List.getElem?_set_ne (Ne.symm k1), gj k k1 k2]
        exact en.ow k q
    · have l2 : l ≠ j := fun z => by subst z; rw [wj] at q2; cases q2
      have k2 : k ≠ j := fun z => by subst z; rw [wj] at q1; cases q1
      by_cases k1 : k = i
      · subst k1
        rw [List.getElem?_set_self (by rw [← en.wl]; exact hw)] at q3
        cases q3
        by_cases l1 : l = k
        · exact l1.symm
        · rw [wk l l1 l2] at q2
          rw [List.getElem?_set_ne (Ne.symm l1)] at q4
          exact absurd (en.nd j l a hj q2 h1 q4) (Ne.symm l2)
      · rw [wk k k1 k2] at q1
        rw [List.getElem?_set_ne (Ne.symm k1)] at q3
        by_cases l1 : l = i
        · subst l1
          rw [List.getElem?_set_self (by rw [← en.wl]; exact hw)] at q4
          cases q4
          exact absurd (en.nd j k a hj q1 h1 q3) (Ne.symm k2)
        · rw [wk l l1 l2] at q2
          rw [List.getElem?_set_ne (Ne.symm l1)] at q4
          exact en.nd k l c q1 q2 q3 q4
end
end Pv
end
section
set_option Elab.async false
set_option linter.all false
set_option maxRecDepth 100000
set_option maxHeartbeats 4000000
namespace Lw
open PySem L2 PySem.W Pv
def topS (i : Nat) : Stmt := PySem.Challenge.pw_surelyposted_k67_whole_nobody_hears.main.body.getD i (.Pass ⟨0, 0, 0, 0⟩)
section
variable {P : Program} {w : World} {K : PySem.W.Frag} {mg : Str → Option Value} {base : Heap}
def m_is_number : List D → Mu → R D := fnC 0 ((sRet (cAnd (c1 (isiD .int) (cVar 0)) (c1 notD (c1 (isiD .bool) (cVar 0))))))
abbrev s_is_number : Stmt := topS 3
theorem S_is_number : FnScope ["thing"] ["thing"] (defScope s_is_number) := ⟨rfl, rfl, rfl, by decide +kernel, rfl, by decide +kernel, by decide +kernel⟩
theorem o_is_number (B : Bn mg) {fa : Addr} {fd : FuncData} (F : FnP K "is_number" s_is_number fa fd) : FnOk P w K mg base CX0 1 fa fd ["thing"] (spD K mg false 1 m_is_number) :=
  have S := S_is_number
  fn_ok (k := 0) (n := 0) (f := false) (ω' := []) F S rfl rfl fun cdv A outer s H E M hr =>
    have hu : A.units + 3 + 64 < cLine := hr.units
    svs_one (sv_ret (EV.eb (ev_and (ev_isI B (EV.bv (ev_var 0))) (EB.ev (ev_one (EV.eb (ev_not (EV.bv (ev_isB B (EV.bv (ev_var 0)))))))))))
def m_tupled : Nat → List D → Mu → R D
  | 0 => fun _ _ => .bad
  | n + 1 => fnC 1 ((sRet (cIf (tTru (c1 (isi2D .list .tuple) (cVar 0))) (c1 tupleD (cLc (iSeq (cVar 0)) (gN 1) (fun _ m => .ok true m) (cCall (m_tupled n) (aCons (cVar 1) aNil)))) (cVar 0))))
abbrev s_tupled : Stmt := topS 4
theorem S_tupled : FnScope ["thing", "own"] ["thing"] (defScope s_tupled) := ⟨rfl, rfl, rfl, by decide +kernel, rfl, by decide +kernel, by decide +kernel⟩
theorem o_tupled (B : Bn mg) {fa : Addr} {fd : FuncData} (F : FnP K "tupled" s_tupled fa fd) (hm : mg "tupled" = some (.ref fa)) (hb : Binds K fd ["thing"] []) : ∀ n : Nat, FnOk P w K mg base CX0 (1 + n) fa fd ["thing"] (spD K mg false 1 (m_tupled n))
  | 0 => fn_none
  | n + 1 =>
    have C_tupled : Fn P w K mg base CX0 "tupled" (1 + n) ["thing"] false (m_tupled n) := ⟨fa, fd, hm, F.kp, hb, o_tupled B F hm hb n⟩
    have S := S_tupled
    fn_ok (k := 1 + n) (n := 1) (f := false) (ω' := []) F S rfl rfl fun cdv A outer s H E M hr =>
      have hu : A.units + 3 + 64 < cLine := hr.units
      svs_one (sv_ret (EV.eb (EB.ev (ev_if (tv_val (EV.bv (ev_isLT B (EV.bv (ev_var 0))))) (EV.eb (ev_tuple B (EV.bv (EB.ev (ev_lcM [("own", 1)] rfl S.nd (iv_seq (ev_var 0)) (blkOk_by (N := ["thing", "own"]) (sc := defScope s_tupled) (by decide +kernel)) (fun _ _ _ _ _ => gv_name 1 S.nd) (fun _ _ _ _ _ => tts_nil) (fun _ _ _ _ _ => EB.ev (ev_fn C_tupled hr (av_cons (ev_var 1) av_nil) (len_cons len_nil)))))))) (EV.eb (ev_var 0))))))
def m_rises : List D → Mu → R D := fnC 2 ((sRet (c1 allD (cLc (iZpA (aCons (cVar 0) (aCons (cSl slD (cVar 0) (oSome (cC (.int 1))) oNone) aNil))) (gT 2 (gsCons (gN 1) (gsCons (gN 2) gsNil))) (fun _ m => .ok true m) (c2 ltD (cVar 1) (cVar 2))))))
abbrev s_rises : Stmt := topS 5
theorem S_rises : FnScope ["things", "one", "other"] ["things"] (defScope s_rises) := ⟨rfl, rfl, rfl, by decide +kernel, rfl, by decide +kernel, by decide +kernel⟩
theorem o_rises (B : Bn mg) {fa : Addr} {fd : FuncData} (F : FnP K "rises" s_rises fa fd) : FnOk P w K mg base CX0 1 fa fd ["things"] (spD K mg false 1 m_rises) :=
  have S := S_rises
  fn_ok (k := 0) (n := 2) (f := false) (ω' := []) F S rfl rfl fun cdv A outer s H E M hr =>
    have hu : A.units + 3 + 64 < cLine := hr.units
    svs_one (sv_ret (EV.eb (ev_all B rfl (EV.bv (EB.ev (ev_lcM [("one", 1), ("other", 2)] rfl S.nd (iv_zipAny B (av_cons (ev_var 0) (av_cons (EB.ev (ev_sl sl_all (EV.bv (ev_var 0)) (ov_some (ev_int)) ov_none)) av_nil))) (blkOk_by (N := ["things", "one", "other"]) (sc := defScope s_rises) (by decide +kernel)) (fun _ _ _ _ _ => gv_tup rfl (gvs_cons (gv_name 1 S.nd) (gvs_cons (gv_name 2 S.nd) (gvs_nil)))) (fun _ _ _ _ _ => tts_nil) (fun _ _ _ _ _ => bv_cmp (bop_lt hu) (EV.bv (ev_var 1)) (EV.bv (ev_var 2)) (nomark _))))))))
def m_behind_of : List D → Mu → R D := fnC 4 ((sBehind (iRg (aCons (c2 ixD (cVar 0) (cC (.int 0))) aNil)) (iSeq (c2 ixD (cVar 0) (cC (.int 1))))))
abbrev s_behind_of : Stmt := topS 8
theorem S_behind_of : FnScope ["net", "found", "one", "other", "house"] ["net"] (defScope s_behind_of) := ⟨rfl, rfl, rfl, by decide +kernel, rfl, by decide +kernel, by decide +kernel⟩
theorem o_behind_of (B : Bn mg) {fa : Addr} {fd : FuncData} (F : FnP K "behind_of" s_behind_of fa fd) : FnOk P w K mg base CX0 1 fa fd ["net"] (spD K mg false 1 m_behind_of) :=
  have S := S_behind_of
  fn_ok (k := 0) (n := 4) (f := false) (ω' := []) F S rfl rfl fun cdv A outer s H E M hr =>
    have hu : A.units + 3 + 64 < cLine := hr.units
    behind_rule 1 2 3 4 (own := [("house", 4)]) (pss_cons (ps_setDc rfl S.nd rfl rfl (swD_true rfl rfl rfl (by decide +kernel)) (iv_range1 (av_cons (ev_ix (EV.bv (ev_var 0)) (EV.bv (ev_int))) av_nil) (len_cons len_nil) B.range) (blkOk_by (N := ["net", "found", "one", "other", "house"]) (sc := defScope s_behind_of) (by decide +kernel)) (fun _ _ _ _ _ => gv_name 4 S.nd) (fun _ _ _ _ _ => tts_nil) (fun _ _ _ _ _ => ev_var 4) (fun _ _ _ _ _ => pe_lst pa_nil)) (pss_cons (ps_for PassesOwn.never rfl (iv_seq (ev_ix (EV.bv (ev_var 0)) (EV.bv (ev_int)))) (gv_tup rfl (gvs_cons (gv_name 2 S.nd) (gvs_cons (gv_name 3 S.nd) (gvs_nil)))) (pss_one (ps_expr (pe_bm PySem.F.plainAttrs_list PySem.F.slot_list_append PySem.F.type_list_append mt_append (pe_dget (u1 hu) (pv 1) (pv 2) (fun _ _ => rfl)) (pa_cons (pv 3) pa_nil))))) (pss_one (ps_ret (pv 1))))) rfl rfl (by decide) (by decide) rfl rfl (by decide) rfl rfl
def m_is_route : List D → Mu → R D := fnC 3 ((sSeq (sIf (tOr' (tNot' (tTru (c1 (isiD .tuple) (cVar 1)))) (tOr' (tCmp ltD (c1 lenD (cVar 1)) (cC (.int 2))) (tNot' (tTru (c1 allD (cLc (iSeq (cVar 1)) (gN 4) (fun _ m => .ok true m) (cCall m_is_number (aCons (cVar 4) aNil)))))))) (sRet (cC (.bl false))) sNil)
    (sSeq (sIf (tOr' (tCmp neD (c2 ixD (cVar 1) (cC (.int 0))) (cC (.int 0))) (tOr' (tCmp neD (c2 ixD (cVar 1) (c1 negD (cC (.int 1)))) (c2 subD (c2 ixD (cVar 0) (cC (.int 0))) (cC (.int 1)))) (tCmp ltD (c1 lsetD (cVar 1)) (c1 lenD (cVar 1))))) (sRet (cC (.bl false))) sNil)
    (sSeq (sSet 2 (c2 ixD (cCall (m_tupled 16) (aCons (cVar 0) aNil)) (cC (.int 1))))
    (sRet (c1 allD (cLc (iZpN (aCons (cVar 1) (aCons (cSl slD (cVar 1) (oSome (cC (.int 1))) oNone) aNil))) (gN 3) (fun _ m => .ok true m) (c2 inD (cVar 3) (cVar 2)))))))))
abbrev s_is_route : Stmt := topS 9
theorem S_is_route : FnScope ["net", "thing", "lines", "pair", "own"] ["net", "thing"] (defScope s_is_route) := ⟨rfl, rfl, rfl, by decide +kernel, rfl, by decide +kernel, by decide +kernel⟩
theorem o_is_route (B : Bn mg) {t_PAIR : Tok} (c_PAIR : mg "PAIR" = some (.int 2 t_PAIR)) (C_is_number : Fn P w K mg base CX0 "is_number" 1 ["thing"] false m_is_number) (C_tupled : Fn P w K mg base CX0 "tupled" 17 ["thing"] false (m_tupled 16)) {fa : Addr} {fd : FuncData} (F : FnP K "is_route" s_is_route fa fd) : FnOk P w K mg base CX0 18 fa fd ["net", "thing"] (spD K mg false 2 m_is_route) :=
  have S := S_is_route
  fn_ok (k := 17) (n := 3) (f := false) (ω' := []) F S rfl rfl fun cdv A outer s H E M hr =>
    have hu : A.units + 3 + 64 < cLine := hr.units
    svs_cons (sv_if (tv_bool (wv_or (tv_not (tv_val (EV.bv (ev_isT B (EV.bv (ev_var 1)))))) (wv_or (tv_cmpB (bop_lt hu) (EV.bv (ev_len B (EV.bv (ev_var 1)))) (EV.bv (ev_globI c_PAIR)) (nomark _)) (wv_or1 (tv_not (tv_val (EV.bv (ev_all B rfl (EV.bv (EB.ev (ev_lcM [("own", 4)] rfl S.nd (iv_seq (ev_var 1)) (blkOk_by (N := ["net", "thing", "lines", "pair", "own"]) (sc := defScope s_is_route) (by decide +kernel)) (fun _ _ _ _ _ => gv_name 4 S.nd) (fun _ _ _ _ _ => tts_nil) (fun _ _ _ _ _ => EB.ev (ev_fn C_is_number (hr.mono (by decide)) (av_cons (ev_var 4) av_nil) (len_cons len_nil)))))))))))))) (svs_one (sv_ret (EV.eb (ev_bl)))) (svs_nil))
      (svs_cons (sv_if (tv_bool (wv_or (tv_cmpB (bop_ne hu) (EV.bv (ev_ix (EV.bv (ev_var 1)) (EV.bv (ev_int)))) (EV.bv (ev_int)) (nomark _)) (wv_or (tv_cmpB (bop_ne hu) (EV.bv (ev_ix (EV.bv (ev_var 1)) (EV.bv (ev_neg (EV.bv (ev_int)))))) (EV.bv (EB.ev (ev_op opD_sub (ev_ix (EV.bv (ev_var 0)) (EV.bv (ev_int))) (ev_int)))) (nomark _)) (wv_or1 (tv_cmpB (bop_lt hu) (EV.bv (ev_lset B rfl hu (EV.bv (ev_var 1)))) (EV.bv (ev_len B (EV.bv (ev_var 1)))) (nomark _)))))) (svs_one (sv_ret (EV.eb (ev_bl)))) (svs_nil))
      (svs_cons (sv_set 2 S.nd (ev_ix (EV.bv (EB.ev (ev_fn C_tupled (hr.mono (by decide)) (av_cons (ev_var 0) av_nil) (len_cons len_nil)))) (EV.bv (ev_int))))
      (svs_one (sv_ret (EV.eb (ev_all B rfl (EV.bv (EB.ev (ev_lcM [("pair", 3)] rfl S.nd (iv_zipN B (av_cons (ev_var 1) (av_cons (EB.ev (ev_sl sl_all (EV.bv (ev_var 1)) (ov_some (ev_int)) ov_none)) av_nil))) (blkOk_by (N := ["net", "thing", "lines", "pair", "own"]) (sc := defScope s_is_route) (by decide +kernel)) (fun _ _ _ _ _ => gv_name 3 S.nd) (fun _ _ _ _ _ => tts_nil) (fun _ _ _ _ _ => bv_cmp (bop_in hu) (EV.bv (ev_var 3)) (EV.bv (ev_var 2)) rfl))))))))))
def m_is_past : List D → Mu → R D := fnC 1 ((sRet (c1 notD (c1 anyD (cLc (iSeq (cVar 0)) (gN 2) (fun _ m => .ok true m) (c2 inD (cVar 2) (cVar 1)))))))
abbrev s_is_past : Stmt := topS 10
theorem S_is_past : FnScope ["route", "houses", "house"] ["route", "houses"] (defScope s_is_past) := ⟨rfl, rfl, rfl, by decide +kernel, rfl, by decide +kernel, by decide +kernel⟩
theorem o_is_past (B : Bn mg) {fa : Addr} {fd : FuncData} (F : FnP K "is_past" s_is_past fa fd) : FnOk P w K mg base CX0 1 fa fd ["route", "houses"] (spD K mg false 2 m_is_past) :=
  have S := S_is_past
  fn_ok (k := 0) (n := 1) (f := false) (ω' := []) F S rfl rfl fun cdv A outer s H E M hr =>
    have hu : A.units + 3 + 64 < cLine := hr.units
    svs_one (sv_ret (EV.eb (ev_not (EV.bv (ev_any B rfl (EV.bv (EB.ev (ev_lcM [("house", 2)] rfl S.nd (iv_seq (ev_var 0)) (blkOk_by (N := ["route", "houses", "house"]) (sc := defScope s_is_past) (by decide +kernel)) (fun _ _ _ _ _ => gv_name 2 S.nd) (fun _ _ _ _ _ => tts_nil) (fun _ _ _ _ _ => bv_cmp (bop_in hu) (EV.bv (ev_var 2)) (EV.bv (ev_var 1)) rfl)))))))))
def m_routes_past : List D → Mu → R D := fnF 5 ((sSeq (sParN [2, 3, 4] (cAll [(false, (cCall m_behind_of (aCons (cVar 0) aNil))), (true, (cLst aNil)), (true, (cLst (aCons (cTup (aCons (cC (.int 0)) aNil)) aNil)))]))
    (sSeq (sWhile 1099511627776 (tCmp gtD (c1 lenD (cVar 4)) (cC (.int 0)))
    (sSeq (sPop 4 5)
    (sIf (tCmp eqD (c2 ixD (cVar 5) (c1 negD (cC (.int 1)))) (c2 subD (c2 ixD (cVar 0) (cC (.int 0))) (cC (.int 1)))) (sApp 3 (cVar 5)) (sExt 4 (cLc (iSeq (c2 dixD (cVar 2) (c2 ixD (cVar 5) (c1 negD (cC (.int 1)))))) (gN 6) (tAnd' (tCmp ninD (cVar 6) (cVar 5)) (tCmp ninD (cVar 6) (cVar 1))) (cTup (aStar (cVar 5) (aCons (cVar 6) aNil))))))))
    (sRet (c1 sortD (cVar 3))))))
abbrev s_routes_past : Stmt := topS 11
theorem S_routes_past : FnScope ["net", "band", "behind", "found", "rest", "row", "house"] ["net", "band"] (defScope s_routes_past) := ⟨rfl, rfl, rfl, by decide +kernel, rfl, by decide +kernel, by decide +kernel⟩
theorem o_routes_past (B : Bn mg) (C_behind_of : Fn P w K mg base CX0 "behind_of" 1 ["net"] false m_behind_of) {fa : Addr} {fd : FuncData} (F : FnP K "routes_past" s_routes_past fa fd) : FnOk P w K mg base CX0 2 fa fd ["net", "band"] (spD K mg true 2 m_routes_past) :=
  have S := S_routes_past
  fn_ok (k := 1) (n := 5) (f := true) (ω' := []) F S rfl rfl fun cdv A outer s H E M hr =>
    have hu : A.units + 3 + 64 < cLine := hr.units
    svs_cons (sv_par3 2 3 4 _ rfl (ps_par3 rfl S.nd rfl rfl rfl (by decide) (by decide) (by decide) rfl rfl rfl (pa_cons (EV.eb (EB.ev (ev_fn C_behind_of (hr.mono (by decide)) (av_cons (ev_var 0) av_nil) (len_cons len_nil)))) (pa_cons (ev_lst av_nil) (pa_cons (ev_lst (av_cons (ev_tup (av_cons (ev_int) av_nil)) av_nil)) pa_nil))) (by rfl)))
      (svs_cons (sv_while 1099511627776 PassesOwn.never (tv_cmpB (bop_gt hu) (EV.bv (ev_len B (bv_own 4))) (EV.bv (ev_int)) (nomark _)) (svs_cons (sv_pop 4 5 (hp := ps_set (i := 5) S.nd rfl (by first | exact Or.inl rfl | exact Or.inr rfl) (pe_bm0 PySem.F.plainAttrs_list PySem.F.slot_list_pop PySem.F.type_list_pop mt_pop (pv 4))))
      (svs_one (sv_if (tv_cmpB (bop_eq hu) (EV.bv (ev_ix (EV.bv (ev_var 5)) (EV.bv (ev_neg (EV.bv (ev_int)))))) (EV.bv (EB.ev (ev_op opD_sub (ev_ix (EV.bv (ev_var 0)) (EV.bv (ev_int))) (ev_int)))) (nomark _)) (svs_one (sv_app 3 rfl rfl (ps_expr (pe_bm PySem.F.plainAttrs_list PySem.F.slot_list_append PySem.F.type_list_append mt_append (pv 3) (pa_cons (ev_var 5) pa_nil))))) (svs_one (sv_ext 4 rfl rfl (ps_expr (pe_bm PySem.F.plainAttrs_list PySem.F.slot_list_extend PySem.F.type_list_extend mt_extend (pv 4) (pa_cons (EB.ev (ev_lcM [("house", 6)] rfl S.nd (iv_seq (ev_dix hu (EV.bv (ev_var 2)) (EV.bv (ev_ix (EV.bv (ev_var 5)) (EV.bv (ev_neg (EV.bv (ev_int)))))))) (blkOk_by (N := ["net", "band", "behind", "found", "rest", "row", "house"]) (sc := defScope s_routes_past) (by decide +kernel)) (fun _ _ _ _ _ => gv_name 6 S.nd) (fun _ _ _ _ _ => tts_one (tv_bool (wv_and (tv_cmpB (bop_nin hu) (EV.bv (ev_var 6)) (EV.bv (ev_var 5)) rfl) (wv_and1 (tv_cmpB (bop_nin hu) (EV.bv (ev_var 6)) (EV.bv (ev_var 1)) rfl))))) (fun _ _ _ _ _ => ev_tup (av_star (EV.bv (ev_var 5)) (av_cons (ev_var 6) av_nil))))) pa_nil)))))))))
      (svs_one (sv_ret (ev_sorted B hu (bv_own 3)))))
def m_routes : List D → Mu → R D := fnF 0 ((sRet (cCall m_routes_past (aCons (cVar 0) (aCons (cTup aNil) aNil)))))
abbrev s_routes : Stmt := topS 12
theorem S_routes : FnScope ["net"] ["net"] (defScope s_routes) := ⟨rfl, rfl, rfl, by decide +kernel, rfl, by decide +kernel, by decide +kernel⟩
theorem o_routes (B : Bn mg) (C_routes_past : Fn P w K mg base CX0 "routes_past" 2 ["net", "band"] true m_routes_past) {fa : Addr} {fd : FuncData} (F : FnP K "routes" s_routes fa fd) : FnOk P w K mg base CX0 3 fa fd ["net"] (spD K mg true 1 m_routes) :=
  have S := S_routes
  fn_ok (k := 2) (n := 0) (f := true) (ω' := []) F S rfl rfl fun cdv A outer s H E M hr =>
    have hu : A.units + 3 + 64 < cLine := hr.units
    svs_one (sv_ret (ev_fn C_routes_past (hr.mono (by decide)) (av_cons (ev_var 0) (av_cons (ev_tup av_nil) av_nil)) (len_cons (len_cons len_nil))))
def m_a_route_past : List D → Mu → R D := fnC 8 ((sSeq (sParN [2, 3, 4, 5] (cAll [(false, (cCall m_behind_of (aCons (cVar 0) aNil))), (false, (c2 subD (c2 ixD (cVar 0) (cC (.int 0))) (cC (.int 1)))), (false, (cDisp1 (cC (.int 0)) (cTup (aCons (cC (.int 0)) aNil)))), (false, (cLst (aCons (cC (.int 0)) aNil)))]))
    (sSeq (sWhile 1099511627776 (tAnd' (tCmp gtD (c1 lenD (cVar 5)) (cC (.int 0))) (tCmp dninD (cVar 3) (cVar 4)))
    (sSeq (sSet 6 (cDNew false))
    (sSeq (sFor (iSeq (cVar 5)) (gN 7)
    (sFor (iSeq (c2 dixD (cVar 2) (cVar 7))) (gN 8)
    (sIf (tAnd' (tCmp dninD (cVar 8) (cVar 4)) (tCmp ninD (cVar 8) (cVar 1))) (sSeq (sSet 9 (cTup (aStar (c2 dixD (cVar 4) (cVar 7)) (aCons (cVar 8) aNil))))
    (sPutD 6 (c2 min2D (cVar 9) (cGet2 (cVar 6) (cVar 8) (cVar 9))) (cVar 8))) sNil)))
    (sSeq (sSet 4 (cMrg (cVar 4) (cVar 6)))
    (sSet 5 (c1 listdD (cVar 6)))))))
    (sRet (cGet (cVar 4) (cVar 3))))))
abbrev s_a_route_past : Stmt := topS 13
theorem S_a_route_past : FnScope ["net", "band", "behind", "last", "found", "edge", "later", "here", "house", "row"] ["net", "band"] (defScope s_a_route_past) := ⟨rfl, rfl, rfl, by decide +kernel, rfl, by decide +kernel, by decide +kernel⟩
theorem o_a_route_past (B : Bn mg) (C_behind_of : Fn P w K mg base CX0 "behind_of" 1 ["net"] false m_behind_of) {fa : Addr} {fd : FuncData} (F : FnP K "a_route_past" s_a_route_past fa fd) : FnOk P w K mg base CX0 2 fa fd ["net", "band"] (spD K mg false 2 m_a_route_past) :=
  have S := S_a_route_past
  fn_ok (k := 1) (n := 8) (f := false) (ω' := []) F S rfl rfl fun cdv A outer s H E M hr =>
    have hu : A.units + 3 + 64 < cLine := hr.units
    svs_cons (sv_parN [2, 3, 4, 5] _ rfl rfl (pa_cons (EV.eb (EB.ev (ev_fn C_behind_of (hr.mono (by decide)) (av_cons (ev_var 0) av_nil) (len_cons len_nil)))) (pa_cons (EV.eb (EB.ev (ev_op opD_sub (ev_ix (EV.bv (ev_var 0)) (EV.bv (ev_int))) (ev_int)))) (pa_cons (EV.eb (EB.ev (ev_disp1 (ev_int) (ev_tup (av_cons (ev_int) av_nil))))) (pa_cons (EV.eb (EB.ev (ev_lst (av_cons (ev_int) av_nil)))) pa_nil)))) (pgs_cons (pg_name S.nd rfl (by first | exact Or.inl rfl | exact Or.inr rfl)) (pgs_cons (pg_name S.nd rfl (by first | exact Or.inl rfl | exact Or.inr rfl)) (pgs_cons (pg_name S.nd rfl (by first | exact Or.inl rfl | exact Or.inr rfl)) (pgs_cons (pg_name S.nd rfl (by first | exact Or.inl rfl | exact Or.inr rfl)) pgs_nil)))))
      (svs_cons (sv_while 1099511627776 PassesOwn.never (tv_bool (wv_and (tv_cmpB (bop_gt hu) (EV.bv (ev_len B (EV.bv (ev_var 5)))) (EV.bv (ev_int)) (nomark _)) (wv_and1 (tv_dnin hu (EV.bv (ev_var 3)) (EV.bv (ev_var 4)))))) (svs_cons (sv_setF 6 S.nd (ev_dnewK))
      (svs_cons (sv_for PassesOwn.never rfl (iv_seq (ev_var 5)) (gv_name 7 S.nd) (svs_one (sv_for PassesOwn.never rfl (iv_seq (ev_dix hu (EV.bv (ev_var 2)) (EV.bv (ev_var 7)))) (gv_name 8 S.nd) (svs_one (sv_if (tv_bool (wv_and (tv_dnin hu (EV.bv (ev_var 8)) (EV.bv (ev_var 4))) (wv_and1 (tv_cmpB (bop_nin hu) (EV.bv (ev_var 8)) (EV.bv (ev_var 1)) rfl)))) (SVs.post (ω2 := [.sh, .sh, .sh, .sh, .sh, .sh, .ow, .sh, .sh, .un]) (svs_cons (sv_set 9 S.nd (ev_tup (av_star (EV.bv (ev_dix hu (EV.bv (ev_var 4)) (EV.bv (ev_var 7)))) (av_cons (ev_var 8) av_nil))))
      (svs_one (sv_dput 6 hu (ev_min2 B rfl hu (ev_var 9) (ev_get2 hu (bv_own 6) (EV.bv (ev_var 8)) (ev_var 9))) (ev_var 8)))) rfl) (svs_nil))))))
      (svs_cons (SV.frz 6 (sv_set 4 S.nd (EB.ev (ev_mrg (ev_var 4) (ev_var 6)))))
      (svs_one (sv_set 5 S.nd (EB.ev (ev_listd B rfl (EV.bv (ev_var 6))))))))))
      (svs_one (sv_ret (EV.eb (ev_get1 hu (EV.bv (ev_var 4)) (EV.bv (ev_var 3)))))))
def m_meets : List D → Mu → R D := fnC 0 ((sRet (c2 isD (cCall m_a_route_past (aCons (cVar 0) (aCons (cVar 1) aNil))) (cC .non))))
abbrev s_meets : Stmt := topS 15
theorem S_meets : FnScope ["net", "band"] ["net", "band"] (defScope s_meets) := ⟨rfl, rfl, rfl, by decide +kernel, rfl, by decide +kernel, by decide +kernel⟩
theorem o_meets (B : Bn mg) (C_a_route_past : Fn P w K mg base CX0 "a_route_past" 2 ["net", "band"] false m_a_route_past) {fa : Addr} {fd : FuncData} (F : FnP K "meets" s_meets fa fd) : FnOk P w K mg base CX0 3 fa fd ["net", "band"] (spD K mg false 2 m_meets) :=
  have S := S_meets
  fn_ok (k := 2) (n := 0) (f := false) (ω' := []) F S rfl rfl fun cdv A outer s H E M hr =>
    have hu : A.units + 3 + 64 < cLine := hr.units
    svs_one (sv_ret (EV.eb (bv_cmp (bop_is) (EV.bv (EB.ev (ev_fn C_a_route_past (hr.mono (by decide)) (av_cons (ev_var 0) (av_cons (ev_var 1) av_nil)) (len_cons (len_cons len_nil))))) (EV.bv (ev_non)) (nomark _))))
def m_ear_band : List D → Mu → R D := fnC 2 ((sSeq (sSet 2 (cLc (iSeq (cCall (m_tupled 16) (aCons (cVar 1) aNil))) (gN 3) (tTru (cCall m_meets (aCons (cVar 0) (aCons (cVar 3) aNil)))) (cVar 3)))
    (sRet (cIf (tCmp gtD (c1 lenD (cVar 2)) (cC (.int 0))) (c2 ixD (cVar 2) (cC (.int 0))) (cC .non)))))
abbrev s_ear_band : Stmt := topS 17
theorem S_ear_band : FnScope ["net", "bands", "found", "band"] ["net", "bands"] (defScope s_ear_band) := ⟨rfl, rfl, rfl, by decide +kernel, rfl, by decide +kernel, by decide +kernel⟩
theorem o_ear_band (B : Bn mg) (C_tupled : Fn P w K mg base CX0 "tupled" 17 ["thing"] false (m_tupled 16)) (C_meets : Fn P w K mg base CX0 "meets" 3 ["net", "band"] false m_meets) {fa : Addr} {fd : FuncData} (F : FnP K "ear_band" s_ear_band fa fd) : FnOk P w K mg base CX0 18 fa fd ["net", "bands"] (spD K mg false 2 m_ear_band) :=
  have S := S_ear_band
  fn_ok (k := 17) (n := 2) (f := false) (ω' := []) F S rfl rfl fun cdv A outer s H E M hr =>
    have hu : A.units + 3 + 64 < cLine := hr.units
    svs_cons (SV.frzA 2 (sv_setLcM 2 [("band", 3)] rfl S.nd (iv_seq (EB.ev (ev_fn C_tupled (hr.mono (by decide)) (av_cons (ev_var 1) av_nil) (len_cons len_nil)))) (blkOk_by (N := ["net", "bands", "found", "band"]) (sc := defScope s_ear_band) (by decide +kernel)) (fun _ _ _ _ _ => gv_name 3 S.nd) (fun _ _ _ _ _ => tts_one (tv_val (EV.bv (EB.ev (ev_fn C_meets (hr.mono (by decide)) (av_cons (ev_var 0) (av_cons (ev_var 3) av_nil)) (len_cons (len_cons len_nil))))))) (fun _ _ _ _ _ => ev_var 3) (sw_true rfl rfl rfl (by decide +kernel))))
      (svs_one (sv_ret (EV.eb (EB.ev (ev_if (tv_cmpB (bop_gt hu) (EV.bv (ev_len B (EV.bv (ev_var 2)))) (EV.bv (ev_int)) (nomark _)) (EV.eb (ev_ix (EV.bv (ev_var 2)) (EV.bv (ev_int)))) (EV.eb (ev_non)))))))
def m_unheard : List D → Mu → R D := fnC 0 ((sRet (c2 isD (cCall m_ear_band (aCons (cVar 0) (aCons (cVar 1) aNil))) (cC .non))))
abbrev s_unheard : Stmt := topS 18
theorem S_unheard : FnScope ["net", "bands"] ["net", "bands"] (defScope s_unheard) := ⟨rfl, rfl, rfl, by decide +kernel, rfl, by decide +kernel, by decide +kernel⟩
theorem o_unheard (B : Bn mg) (C_ear_band : Fn P w K mg base CX0 "ear_band" 18 ["net", "bands"] false m_ear_band) {fa : Addr} {fd : FuncData} (F : FnP K "unheard" s_unheard fa fd) : FnOk P w K mg base CX0 19 fa fd ["net", "bands"] (spD K mg false 2 m_unheard) :=
  have S := S_unheard
  fn_ok (k := 18) (n := 0) (f := false) (ω' := []) F S rfl rfl fun cdv A outer s H E M hr =>
    have hu : A.units + 3 + 64 < cLine := hr.units
    svs_one (sv_ret (EV.eb (bv_cmp (bop_is) (EV.bv (EB.ev (ev_fn C_ear_band (hr.mono (by decide)) (av_cons (ev_var 0) (av_cons (ev_var 1) av_nil)) (len_cons (len_cons len_nil))))) (EV.bv (ev_non)) (nomark _))))
def m_check_ears : List D → Mu → R D := fnC 0 ((sIf (tNot' (tTru (cCall m_unheard (aCons (cVar 0) (aCons (cVar 1) aNil))))) (sRaise0 "Unfit") sNil))
abbrev s_check_ears : Stmt := topS 19
theorem S_check_ears : FnScope ["net", "bands"] ["net", "bands"] (defScope s_check_ears) := ⟨rfl, rfl, rfl, by decide +kernel, rfl, by decide +kernel, by decide +kernel⟩
theorem o_check_ears (B : Bn mg) (C_unheard : Fn P w K mg base CX0 "unheard" 19 ["net", "bands"] false m_unheard) (X_Unfit : XC0 K mg "Unfit") {fa : Addr} {fd : FuncData} (F : FnP K "check_ears" s_check_ears fa fd) : FnOk P w K mg base (L2.CX P w) 20 fa fd ["net", "bands"] (spD K mg false 2 m_check_ears) :=
  have S := S_check_ears
  fn_okX (k := 19) (n := 0) (f := false) F S rfl rfl fun cdv A outer s H E M hr =>
    have hu : A.units + 3 + 64 < cLine := hr.units
    svs_one (sv_if (tv_not (tv_val (EV.bv (EB.ev (ev_fn C_unheard (hr.mono (by decide)) (av_cons (ev_var 0) (av_cons (ev_var 1) av_nil)) (len_cons (len_cons len_nil))))))) (svs_one (sv_raise0 (c := "Unfit") X_Unfit rfl takesX)) (svs_nil))
def m_share_routes : List D → Mu → R D := fnC 1 ((sSeq (sDrop (cCall m_check_ears (aCons (cVar 0) (aCons (cVar 1) aNil))))
    (sRet (c1 tupleD (cLc (iSeq (cCall (m_tupled 16) (aCons (cVar 1) aNil))) (gN 2) (fun _ m => .ok true m) (cCall m_a_route_past (aCons (cVar 0) (aCons (cVar 2) aNil))))))))
abbrev s_share_routes : Stmt := topS 20
theorem S_share_routes : FnScope ["net", "bands", "band"] ["net", "bands"] (defScope s_share_routes) := ⟨rfl, rfl, rfl, by decide +kernel, rfl, by decide +kernel, by decide +kernel⟩
theorem o_share_routes (B : Bn mg) (C_check_ears : Fn P w K mg base (L2.CX P w) "check_ears" 20 ["net", "bands"] false m_check_ears) (C_tupled : Fn P w K mg base CX0 "tupled" 17 ["thing"] false (m_tupled 16)) (C_a_route_past : Fn P w K mg base CX0 "a_route_past" 2 ["net", "band"] false m_a_route_past) {fa : Addr} {fd : FuncData} (F : FnP K "share_routes" s_share_routes fa fd) : FnOk P w K mg base (L2.CX P w) 21 fa fd ["net", "bands"] (spD K mg false 2 m_share_routes) :=
  have S := S_share_routes
  fn_okX (k := 20) (n := 1) (f := false) (ω' := []) F S rfl rfl fun cdv A outer s H E M hr =>
    have hu : A.units + 3 + 64 < cLine := hr.units
    svs_cons (sv_expr (EB.ev (ev_fnX C_check_ears takesX (hr.mono (by decide)) (av_cons (ev_var 0) (av_cons (ev_var 1) av_nil)) (len_cons (len_cons len_nil)))))
      (svs_one (sv_ret (EV.eb (ev_tuple B (EV.bv (EB.ev (ev_lcM [("band", 2)] rfl S.nd (iv_seq (EB.ev (ev_fn C_tupled (hr.mono (by decide)) (av_cons (ev_var 1) av_nil) (len_cons len_nil)))) (blkOk_by (N := ["net", "bands", "band"]) (sc := defScope s_share_routes) (by decide +kernel)) (fun _ _ _ _ _ => gv_name 2 S.nd) (fun _ _ _ _ _ => tts_nil) (fun _ _ _ _ _ => EB.ev (ev_fn C_a_route_past (hr.mono (by decide)) (av_cons (ev_var 0) (av_cons (ev_var 2) av_nil)) (len_cons (len_cons len_nil)))))))))))
def m_is_share_routes : List D → Mu → R D := fnC 3 ((sSeq (sIf (tOr' (tNot' (tTru (c1 (isiD .tuple) (cVar 2)))) (tOr' (tCmp neD (c1 lenD (cVar 2)) (c1 lenD (cVar 1))) (tNot' (tTru (c1 allD (cLc (iSeq (cVar 2)) (gN 5) (fun _ m => .ok true m) (cCall m_is_route (aCons (cVar 0) (aCons (cVar 5) aNil))))))))) (sRet (cC (.bl false))) sNil)
    (sRet (c1 allD (cLc (iZpA (aCons (cVar 2) (aCons (cVar 1) aNil))) (gT 2 (gsCons (gN 3) (gsCons (gN 4) gsNil))) (fun _ m => .ok true m) (cCall m_is_past (aCons (cVar 3) (aCons (cVar 4) aNil))))))))
abbrev s_is_share_routes : Stmt := topS 21
theorem S_is_share_routes : FnScope ["net", "bands", "thing", "route", "band", "own"] ["net", "bands", "thing"] (defScope s_is_share_routes) := ⟨rfl, rfl, rfl, by decide +kernel, rfl, by decide +kernel, by decide +kernel⟩
theorem o_is_share_routes (B : Bn mg) (C_is_route : Fn P w K mg base CX0 "is_route" 18 ["net", "thing"] false m_is_route) (C_is_past : Fn P w K mg base CX0 "is_past" 1 ["route", "houses"] false m_is_past) {fa : Addr} {fd : FuncData} (F : FnP K "is_share_routes" s_is_share_routes fa fd) : FnOk P w K mg base CX0 19 fa fd ["net", "bands", "thing"] (spD K mg false 3 m_is_share_routes) :=
  have S := S_is_share_routes
  fn_ok (k := 18) (n := 3) (f := false) (ω' := []) F S rfl rfl fun cdv A outer s H E M hr =>
    have hu : A.units + 3 + 64 < cLine := hr.units
    svs_cons (sv_if (tv_bool (wv_or (tv_not (tv_val (EV.bv (ev_isT B (EV.bv (ev_var 2)))))) (wv_or (tv_cmpB (bop_ne hu) (EV.bv (ev_len B (EV.bv (ev_var 2)))) (EV.bv (ev_len B (EV.bv (ev_var 1)))) (nomark _)) (wv_or1 (tv_not (tv_val (EV.bv (ev_all B rfl (EV.bv (EB.ev (ev_lcM [("own", 5)] rfl S.nd (iv_seq (ev_var 2)) (blkOk_by (N := ["net", "bands", "thing", "route", "band", "own"]) (sc := defScope s_is_share_routes) (by decide +kernel)) (fun _ _ _ _ _ => gv_name 5 S.nd) (fun _ _ _ _ _ => tts_nil) (fun _ _ _ _ _ => EB.ev (ev_fn C_is_route (hr.mono (by decide)) (av_cons (ev_var 0) (av_cons (ev_var 5) av_nil)) (len_cons (len_cons len_nil))))))))))))))) (svs_one (sv_ret (EV.eb (ev_bl)))) (svs_nil))
      (svs_one (sv_ret (EV.eb (ev_all B rfl (EV.bv (EB.ev (ev_lcM [("route", 3), ("band", 4)] rfl S.nd (iv_zipAny B (av_cons (ev_var 2) (av_cons (ev_var 1) av_nil))) (blkOk_by (N := ["net", "bands", "thing", "route", "band", "own"]) (sc := defScope s_is_share_routes) (by decide +kernel)) (fun _ _ _ _ _ => gv_tup rfl (gvs_cons (gv_name 3 S.nd) (gvs_cons (gv_name 4 S.nd) (gvs_nil)))) (fun _ _ _ _ _ => tts_nil) (fun _ _ _ _ _ => EB.ev (ev_fn C_is_past (hr.mono (by decide)) (av_cons (ev_var 3) (av_cons (ev_var 4) av_nil)) (len_cons (len_cons len_nil)))))))))))
def m_heard_at : List D → Mu → R D := fnC 2 ((sRet (c1 tupleD (cLc (iEnA (cVar 0)) (gT 2 (gsCons (gN 2) (gsCons (gN 3) gsNil))) (tNot' (tTru (cCall m_is_past (aCons (cVar 3) (aCons (cVar 1) aNil))))) (cVar 2)))))
abbrev s_heard_at : Stmt := topS 22
theorem S_heard_at : FnScope ["paths", "band", "place", "route"] ["paths", "band"] (defScope s_heard_at) := ⟨rfl, rfl, rfl, by decide +kernel, rfl, by decide +kernel, by decide +kernel⟩
theorem o_heard_at (B : Bn mg) (C_is_past : Fn P w K mg base CX0 "is_past" 1 ["route", "houses"] false m_is_past) {fa : Addr} {fd : FuncData} (F : FnP K "heard_at" s_heard_at fa fd) : FnOk P w K mg base CX0 2 fa fd ["paths", "band"] (spD K mg false 2 m_heard_at) :=
  have S := S_heard_at
  fn_ok (k := 1) (n := 2) (f := false) (ω' := []) F S rfl rfl fun cdv A outer s H E M hr =>
    have hu : A.units + 3 + 64 < cLine := hr.units
    svs_one (sv_ret (EV.eb (ev_tuple B (EV.bv (EB.ev (ev_lcM [("place", 2), ("route", 3)] rfl S.nd (iv_enumA B (ev_var 0)) (blkOk_by (N := ["paths", "band", "place", "route"]) (sc := defScope s_heard_at) (by decide +kernel)) (fun _ _ _ _ _ => gv_tup rfl (gvs_cons (gv_name 2 S.nd) (gvs_cons (gv_name 3 S.nd) (gvs_nil)))) (fun _ _ _ _ _ => tts_one (tv_not (tv_val (EV.bv (EB.ev (ev_fn C_is_past (hr.mono (by decide)) (av_cons (ev_var 3) (av_cons (ev_var 1) av_nil)) (len_cons (len_cons len_nil)))))))) (fun _ _ _ _ _ => ev_var 2)))))))
def m_few_routes : List D → Mu → R D := fnC 11 ((sSeq (sDrop (cCall m_check_ears (aCons (cVar 0) (aCons (cVar 1) aNil))))
    (sSeq (sParN [3, 4] (cAll [(false, (cCall (m_tupled 16) (aCons (cVar 1) aNil))), (true, (cDisp1T (cTup aNil) (cTup aNil)))]))
    (sSeq (sSet 2 (cLc (iSeq (cCall m_routes (aCons (cVar 0) aNil))) (gN 6) (fun _ m => .ok true m) (cTup (aCons (cVar 6) (aCons (cLc (iEnA (cVar 3)) (gT 2 (gsCons (gN 11) (gsCons (gN 12) gsNil))) (tTru (cCall m_is_past (aCons (cVar 6) (aCons (cVar 12) aNil)))) (cVar 11)) aNil)))))
    (sSeq (sWhile 1099511627776 (tCmp dninD (cRg true (aCons (c1 lenD (cVar 3)) aNil)) (cVar 4))
    (sSeq (sSet 5 (cDNew true))
    (sSeq (sForI 4 (gT 2 (gsCons (gN 7) (gsCons (gN 8) gsNil)))
    (sFor (iSeq (cVar 2)) (gT 2 (gsCons (gN 6) (gsCons (gN 9) gsNil)))
    (sSeq (sSet 10 (c1 tupleD (c1 ssetD (cLst (aStar (cVar 7) (aStar (cVar 9) aNil))))))
    (sIf (tAnd' (tCmp dninD (cVar 10) (cVar 4)) (tCmp dninD (cVar 10) (cVar 5))) (sPutD 5 (cTup (aStar (cVar 8) (aCons (cVar 6) aNil))) (cVar 10)) sNil))))
    (sMv 4 5))))
    (sRet (c1 tupleD (c1 sortTD (c2 dixD (cVar 4) (cRg true (aCons (c1 lenD (cVar 3)) aNil)))))))))))
abbrev s_few_routes : Stmt := topS 23
theorem S_few_routes : FnScope ["net", "bands", "paths", "some", "found", "later", "route", "done", "chosen", "places", "key", "place", "band"] ["net", "bands"] (defScope s_few_routes) := ⟨rfl, rfl, rfl, by decide +kernel, rfl, by decide +kernel, by decide +kernel⟩
theorem o_few_routes (B : Bn mg) (C_check_ears : Fn P w K mg base (L2.CX P w) "check_ears" 20 ["net", "bands"] false m_check_ears) (C_tupled : Fn P w K mg base CX0 "tupled" 17 ["thing"] false (m_tupled 16)) (C_routes : Fn P w K mg base CX0 "routes" 3 ["net"] true m_routes) (C_is_past : Fn P w K mg base CX0 "is_past" 1 ["route", "houses"] false m_is_past) {fa : Addr} {fd : FuncData} (F : FnP K "few_routes" s_few_routes fa fd) : FnOk P w K mg base (L2.CX P w) 21 fa fd ["net", "bands"] (spD K mg false 2 m_few_routes) :=
  have S := S_few_routes
  fn_okX (k := 20) (n := 11) (f := false) (ω' := []) F S rfl rfl fun cdv A outer s H E M hr =>
    have hu : A.units + 3 + 64 < cLine := hr.units
    svs_cons (sv_expr (EB.ev (ev_fnX C_check_ears takesX (hr.mono (by decide)) (av_cons (ev_var 0) (av_cons (ev_var 1) av_nil)) (len_cons (len_cons len_nil)))))
      (svs_cons (sv_parN [3, 4] _ rfl rfl (pa_cons (EV.eb (EB.ev (ev_fn C_tupled (hr.mono (by decide)) (av_cons (ev_var 1) av_nil) (len_cons len_nil)))) (pa_cons (ev_disp1T hu (ev_tup av_nil) (ev_tup av_nil)) pa_nil)) (pgs_cons (pg_name S.nd rfl (by first | exact Or.inl rfl | exact Or.inr rfl)) (pgs_cons (pg_name S.nd rfl (by first | exact Or.inl rfl | exact Or.inr rfl)) pgs_nil)))
      (svs_cons (SV.frzA 2 (sv_setLcM 2 [("route", 6)] rfl S.nd (iv_seq (EB.ev (EV.eb (EB.frz (ev_fn C_routes (hr.mono (by decide)) (av_cons (ev_var 0) av_nil) (len_cons len_nil)))))) (blkOk_by (N := ["net", "bands", "paths", "some", "found", "later", "route", "done", "chosen", "places", "key", "place", "band"]) (sc := defScope s_few_routes) (by decide +kernel)) (fun _ _ _ _ _ => gv_name 6 S.nd) (fun _ _ _ _ _ => tts_nil) (fun _ _ _ _ _ => ev_tup (av_cons (ev_var 6) (av_cons (EB.ev (ev_lcM [("place", 11), ("band", 12)] rfl S.nd (iv_enumA B (ev_var 3)) (blkOk_by (by rfl)) (fun _ _ _ _ _ => gv_tup rfl (gvs_cons (gv_name 11 S.nd) (gvs_cons (gv_name 12 S.nd) (gvs_nil)))) (fun _ _ _ _ _ => tts_one (tv_val (EV.bv (EB.ev (ev_fn C_is_past (hr.mono (by decide)) (av_cons (ev_var 6) (av_cons (ev_var 12) av_nil)) (len_cons (len_cons len_nil))))))) (fun _ _ _ _ _ => ev_var 11))) av_nil))) (sw_true rfl rfl rfl (by decide +kernel))))
      (svs_cons (sv_while 1099511627776 passX (tv_dnin hu (EV.bv (ev_tupRg1 B rfl (ev_len B (EV.bv (ev_var 3))))) (bv_own 4)) (svs_cons (sv_setF 5 S.nd (ev_dnewT))
      (svs_cons (sv_forI 4 passX rfl (gv_tup rfl (gvs_cons (gv_name 7 S.nd) (gvs_cons (gv_name 8 S.nd) (gvs_nil)))) (svs_one (sv_for passX rfl (iv_seq (ev_var 2)) (gv_tup rfl (gvs_cons (gv_name 6 S.nd) (gvs_cons (gv_name 9 S.nd) (gvs_nil)))) (svs_cons (sv_set 10 S.nd (ev_tuple B (EV.bv (EB.ev (ev_sset B rfl hu (EV.bv (EB.ev (ev_lst (av_star (EV.bv (ev_var 7)) (av_star (EV.bv (ev_var 9)) av_nil))))))))))
      (svs_one (sv_if (tv_bool (wv_and (tv_dnin hu (EV.bv (ev_var 10)) (EV.bv (ev_var 4))) (wv_and1 (tv_dnin hu (EV.bv (ev_var 10)) (bv_own 5))))) (svs_one (sv_dput 5 hu (ev_tup (av_star (EV.bv (ev_var 8)) (av_cons (ev_var 6) av_nil))) (ev_var 10))) (svs_nil)))))))
      (svs_one (sv_mv 4 5 S.nd (by decide))))))
      (svs_one (sv_ret (EV.eb (ev_tuple B (EV.bv (EB.ev (ev_sortedT B hu (EV.bv (ev_dix hu (bv_own 4) (EV.bv (ev_tupRg1 B rfl (ev_len B (EV.bv (ev_var 3)))))))))))))))))
def m_how_few_routes : List D → Mu → R D := fnC 0 ((sRet (c1 lenD (cCall m_few_routes (aCons (cVar 0) (aCons (cVar 1) aNil))))))
abbrev s_how_few_routes : Stmt := topS 24
theorem S_how_few_routes : FnScope ["net", "bands"] ["net", "bands"] (defScope s_how_few_routes) := ⟨rfl, rfl, rfl, by decide +kernel, rfl, by decide +kernel, by decide +kernel⟩
theorem o_how_few_routes (B : Bn mg) (C_few_routes : Fn P w K mg base (L2.CX P w) "few_routes" 21 ["net", "bands"] false m_few_routes) {fa : Addr} {fd : FuncData} (F : FnP K "how_few_routes" s_how_few_routes fa fd) : FnOk P w K mg base (L2.CX P w) 22 fa fd ["net", "bands"] (spD K mg false 2 m_how_few_routes) :=
  have S := S_how_few_routes
  fn_okX (k := 21) (n := 0) (f := false) (ω' := []) F S rfl rfl fun cdv A outer s H E M hr =>
    have hu : A.units + 3 + 64 < cLine := hr.units
    svs_one (sv_ret (EV.eb (ev_len B (EV.bv (EB.ev (ev_fnX C_few_routes takesX (hr.mono (by decide)) (av_cons (ev_var 0) (av_cons (ev_var 1) av_nil)) (len_cons (len_cons len_nil))))))))
def m_is_few_routes : List D → Mu → R D := fnC 4 ((sSeq (sSet 3 (cCall m_how_few_routes (aCons (cVar 0) (aCons (cVar 1) aNil))))
    (sSeq (sIf (tOr' (tNot' (tTru (c1 (isiD .tuple) (cVar 2)))) (tOr' (tCmp neD (c1 lenD (cVar 2)) (cVar 3)) (tNot' (tTru (c1 allD (cLc (iSeq (cVar 2)) (gN 5) (fun _ m => .ok true m) (cCall m_is_route (aCons (cVar 0) (aCons (cVar 5) aNil))))))))) (sRet (cC (.bl false))) sNil)
    (sRet (cAnd (cCall m_rises (aCons (cVar 2) aNil)) (c1 allD (cLc (iSeq (cVar 1)) (gN 4) (fun _ m => .ok true m) (c1 anyD (cLc (iSeq (cVar 2)) (gN 6) (fun _ m => .ok true m) (cCall m_is_past (aCons (cVar 6) (aCons (cVar 4) aNil))))))))))))
abbrev s_is_few_routes : Stmt := topS 25
theorem S_is_few_routes : FnScope ["net", "bands", "thing", "many", "band", "own", "route"] ["net", "bands", "thing"] (defScope s_is_few_routes) := ⟨rfl, rfl, rfl, by decide +kernel, rfl, by decide +kernel, by decide +kernel⟩
theorem o_is_few_routes (B : Bn mg) (C_how_few_routes : Fn P w K mg base (L2.CX P w) "how_few_routes" 22 ["net", "bands"] false m_how_few_routes) (C_is_route : Fn P w K mg base CX0 "is_route" 18 ["net", "thing"] false m_is_route) (C_rises : Fn P w K mg base CX0 "rises" 1 ["things"] false m_rises) (C_is_past : Fn P w K mg base CX0 "is_past" 1 ["route", "houses"] false m_is_past) {fa : Addr} {fd : FuncData} (F : FnP K "is_few_routes" s_is_few_routes fa fd) : FnOk P w K mg base (L2.CX P w) 23 fa fd ["net", "bands", "thing"] (spD K mg false 3 m_is_few_routes) :=
  have S := S_is_few_routes
  fn_okX (k := 22) (n := 4) (f := false) (ω' := []) F S rfl rfl fun cdv A outer s H E M hr =>
    have hu : A.units + 3 + 64 < cLine := hr.units
    svs_cons (sv_set 3 S.nd (EB.ev (ev_fnX C_how_few_routes takesX (hr.mono (by decide)) (av_cons (ev_var 0) (av_cons (ev_var 1) av_nil)) (len_cons (len_cons len_nil)))))
      (svs_cons (sv_if (tv_bool (wv_or (tv_not (tv_val (EV.bv (ev_isT B (EV.bv (ev_var 2)))))) (wv_or (tv_cmpB (bop_ne hu) (EV.bv (ev_len B (EV.bv (ev_var 2)))) (EV.bv (ev_var 3)) (nomark _)) (wv_or1 (tv_not (tv_val (EV.bv (ev_all B rfl (EV.bv (EB.ev (ev_lcM [("own", 5)] rfl S.nd (iv_seq (ev_var 2)) (blkOk_by (N := ["net", "bands", "thing", "many", "band", "own", "route"]) (sc := defScope s_is_few_routes) (by decide +kernel)) (fun _ _ _ _ _ => gv_name 5 S.nd) (fun _ _ _ _ _ => tts_nil) (fun _ _ _ _ _ => EB.ev (ev_fn C_is_route (hr.mono (by decide)) (av_cons (ev_var 0) (av_cons (ev_var 5) av_nil)) (len_cons (len_cons len_nil))))))))))))))) (svs_one (sv_ret (EV.eb (ev_bl)))) (svs_nil))
      (svs_one (sv_ret (EV.eb (ev_and (EB.ev (ev_fn C_rises (hr.mono (by decide)) (av_cons (ev_var 2) av_nil) (len_cons len_nil))) (EB.ev (ev_one (EV.eb (ev_all B rfl (EV.bv (EB.ev (ev_lcM [("band", 4)] rfl S.nd (iv_seq (ev_var 1)) (blkOk_by (N := ["net", "bands", "thing", "many", "band", "own", "route"]) (sc := defScope s_is_few_routes) (by decide +kernel)) (fun _ _ _ _ _ => gv_name 4 S.nd) (fun _ _ _ _ _ => tts_nil) (fun _ _ _ _ _ => ev_any B rfl (EV.bv (EB.ev (ev_lcM [("route", 6)] rfl S.nd (iv_seq (ev_var 2)) (blkOk_by (by rfl)) (fun _ _ _ _ _ => gv_name 6 S.nd) (fun _ _ _ _ _ => tts_nil) (fun _ _ _ _ _ => EB.ev (ev_fn C_is_past (hr.mono (by decide)) (av_cons (ev_var 6) (av_cons (ev_var 4) av_nil)) (len_cons (len_cons len_nil))))))))))))))))))))
def m_told_number : List D → Mu → R D := fnC 0 ((sRet (c2 modD (c1 sumD' (cVar 0)) (cVar 1))))
abbrev s_told_number : Stmt := topS 26
theorem S_told_number : FnScope ["shares", "modulus"] ["shares", "modulus"] (defScope s_told_number) := ⟨rfl, rfl, rfl, by decide +kernel, rfl, by decide +kernel, by decide +kernel⟩
theorem o_told_number (B : Bn mg) {fa : Addr} {fd : FuncData} (F : FnP K "told_number" s_told_number fa fd) : FnOk P w K mg base CX0 1 fa fd ["shares", "modulus"] (spD K mg false 2 m_told_number) :=
  have S := S_told_number
  fn_ok (k := 0) (n := 0) (f := false) (ω' := []) F S rfl rfl fun cdv A outer s H E M hr =>
    have hu : A.units + 3 + 64 < cLine := hr.units
    svs_one (sv_ret (EV.eb (EB.ev (ev_op opD_mod (ev_sum' B rfl (EV.bv (ev_var 0))) (ev_var 1)))))
def m_shares_of : List D → Mu → R D := fnC 0 ((sRet (cTup (aStar (cVar 1) (aCons (c2 modD (c2 subD (cVar 0) (c1 sumD' (cVar 1))) (cVar 2)) aNil)))))
abbrev s_shares_of : Stmt := topS 27
theorem S_shares_of : FnScope ["number", "dice", "modulus"] ["number", "dice", "modulus"] (defScope s_shares_of) := ⟨rfl, rfl, rfl, by decide +kernel, rfl, by decide +kernel, by decide +kernel⟩
theorem o_shares_of (B : Bn mg) {fa : Addr} {fd : FuncData} (F : FnP K "shares_of" s_shares_of fa fd) : FnOk P w K mg base CX0 1 fa fd ["number", "dice", "modulus"] (spD K mg false 3 m_shares_of) :=
  have S := S_shares_of
  fn_ok (k := 0) (n := 0) (f := false) (ω' := []) F S rfl rfl fun cdv A outer s H E M hr =>
    have hu : A.units + 3 + 64 < cLine := hr.units
    svs_one (sv_ret (EV.eb (ev_tup (av_star (EV.bv (ev_var 1)) (av_cons (EB.ev (ev_op opD_mod (EB.ev (ev_op opD_sub (ev_var 0) (ev_sum' B rfl (EV.bv (ev_var 1))))) (ev_var 2))) av_nil)))))
def m_how_many_shares : List D → Mu → R D := fnC 4 ((sSeq (sIf (tCmp eqD (c1 lenD (cVar 2)) (cVar 1)) (sRet (c1 intD (c2 eqD (cCall m_told_number (aCons (cLc (iSeq (cVar 2)) (gT 2 (gsCons (gN 6) (gsCons (gN 7) gsNil))) (fun _ m => .ok true m) (cVar 7)) (aCons (cVar 0) aNil))) (cVar 3)))) sNil)
    (sSeq (sSet 4 (cC (.int 1)))
    (sSeq (sFor (iRg (aCons (c2 subD (c2 subD (cVar 1) (cC (.int 1))) (c1 lenD (cVar 2))) aNil)) (gN 5)
    (sSet 4 (c2 mulD (cVar 4) (cVar 0))))
    (sRet (cVar 4))))))
abbrev s_how_many_shares : Stmt := topS 28
theorem S_how_many_shares : FnScope ["modulus", "many", "heard", "number", "found", "turn", "place", "share"] ["modulus", "many", "heard", "number"] (defScope s_how_many_shares) := ⟨rfl, rfl, rfl, by decide +kernel, rfl, by decide +kernel, by decide +kernel⟩
theorem o_how_many_shares (B : Bn mg) (C_told_number : Fn P w K mg base CX0 "told_number" 1 ["shares", "modulus"] false m_told_number) {fa : Addr} {fd : FuncData} (F : FnP K "how_many_shares" s_how_many_shares fa fd) : FnOk P w K mg base CX0 2 fa fd ["modulus", "many", "heard", "number"] (spD K mg false 4 m_how_many_shares) :=
  have S := S_how_many_shares
  fn_ok (k := 1) (n := 4) (f := false) (ω' := []) F S rfl rfl fun cdv A outer s H E M hr =>
    have hu : A.units + 3 + 64 < cLine := hr.units
    svs_cons (sv_if (tv_cmpB (bop_eq hu) (EV.bv (ev_len B (EV.bv (ev_var 2)))) (EV.bv (ev_var 1)) (nomark _)) (svs_one (sv_ret (EV.eb (ev_int' B (EV.bv (bv_cmp (bop_eq hu) (EV.bv (EB.ev (ev_fn C_told_number (hr.mono (by decide)) (av_cons (EB.ev (ev_lcM [("place", 6), ("share", 7)] rfl S.nd (iv_seq (ev_var 2)) (blkOk_by (N := ["modulus", "many", "heard", "number", "found", "turn", "place", "share"]) (sc := defScope s_how_many_shares) (by decide +kernel)) (fun _ _ _ _ _ => gv_tup rfl (gvs_cons (gv_name 6 S.nd) (gvs_cons (gv_name 7 S.nd) (gvs_nil)))) (fun _ _ _ _ _ => tts_nil) (fun _ _ _ _ _ => ev_var 7))) (av_cons (ev_var 0) av_nil)) (len_cons (len_cons len_nil))))) (EV.bv (ev_var 3)) (nomark _))))))) (svs_nil))
      (svs_cons (sv_set 4 S.nd (ev_int))
      (svs_cons (sv_for PassesOwn.never rfl (iv_range1 (av_cons (EB.ev (ev_op opD_sub (EB.ev (ev_op opD_sub (ev_var 1) (ev_int))) (ev_len B (EV.bv (ev_var 2))))) av_nil) (len_cons len_nil) B.range) (gv_name 5 S.nd) (svs_one (sv_set 4 S.nd (EB.ev (ev_op opD_mul (ev_var 4) (ev_var 0))))))
      (svs_one (sv_ret (EV.eb (ev_var 4))))))
def m_learned : List D → Mu → R D := fnC 2 ((sSeq (sIf (tOr' (tCmp eqD (c1 lenD (cVar 2)) (cVar 1)) (tCmp eqD (cVar 0) (cC (.int 1)))) (sRet (cCall m_told_number (aCons (cLc (iSeq (cVar 2)) (gT 2 (gsCons (gN 3) (gsCons (gN 4) gsNil))) (fun _ m => .ok true m) (cVar 4)) (aCons (cVar 0) aNil)))) sNil)
    (sRet (cC .non))))
abbrev s_learned : Stmt := topS 29
theorem S_learned : FnScope ["modulus", "many", "heard", "place", "share"] ["modulus", "many", "heard"] (defScope s_learned) := ⟨rfl, rfl, rfl, by decide +kernel, rfl, by decide +kernel, by decide +kernel⟩
theorem o_learned (B : Bn mg) (C_told_number : Fn P w K mg base CX0 "told_number" 1 ["shares", "modulus"] false m_told_number) {fa : Addr} {fd : FuncData} (F : FnP K "learned" s_learned fa fd) : FnOk P w K mg base CX0 2 fa fd ["modulus", "many", "heard"] (spD K mg false 3 m_learned) :=
  have S := S_learned
  fn_ok (k := 1) (n := 2) (f := false) (ω' := []) F S rfl rfl fun cdv A outer s H E M hr =>
    have hu : A.units + 3 + 64 < cLine := hr.units
    svs_cons (sv_if (tv_bool (wv_or (tv_cmpB (bop_eq hu) (EV.bv (ev_len B (EV.bv (ev_var 2)))) (EV.bv (ev_var 1)) (nomark _)) (wv_or1 (tv_cmpB (bop_eq hu) (EV.bv (ev_var 0)) (EV.bv (ev_int)) (nomark _))))) (svs_one (sv_ret (EV.eb (EB.ev (ev_fn C_told_number (hr.mono (by decide)) (av_cons (EB.ev (ev_lcM [("place", 3), ("share", 4)] rfl S.nd (iv_seq (ev_var 2)) (blkOk_by (N := ["modulus", "many", "heard", "place", "share"]) (sc := defScope s_learned) (by decide +kernel)) (fun _ _ _ _ _ => gv_tup rfl (gvs_cons (gv_name 3 S.nd) (gvs_cons (gv_name 4 S.nd) (gvs_nil)))) (fun _ _ _ _ _ => tts_nil) (fun _ _ _ _ _ => ev_var 4))) (av_cons (ev_var 0) av_nil)) (len_cons (len_cons len_nil))))))) (svs_nil))
      (svs_one (sv_ret (EV.eb (ev_non))))
def m_law_box : List D → Mu → R D := fnF 1 ((sSeq (sSet 2 (cIf (tCmp ltD (cVar 1) (c1 lenD (cVar 0))) (c2 ixD (cVar 0) (cVar 1)) (cC (.int 0))))
    (sRet (cLst (aCons (c2 mulD (c1 absD (cVar 2)) (c1 intD (c2 geD (c1 absD (cVar 2)) (c2 powD (cC (.int 10)) (cC (.int 18)))))) (aCons (c2 addD (c2 addD (c2 modD (c1 intD (cVar 2)) (cC (.int 2305843009213693951))) (c2 mulD (cC (.int 39373)) (cVar 1))) (cC (.int 78397))) (aCons (cC (.int 0)) aNil)))))))
abbrev s_law_box : Stmt := topS 31
theorem S_law_box : FnScope ["_law_script", "_law_k", "_law_cell"] ["_law_script", "_law_k"] (defScope s_law_box) := ⟨rfl, rfl, rfl, by decide +kernel, rfl, by decide +kernel, by decide +kernel⟩
theorem o_law_box (B : Bn mg) {fa : Addr} {fd : FuncData} (F : FnP K "_law_box" s_law_box fa fd) : FnOk P w K mg base CX0 1 fa fd ["_law_script", "_law_k"] (spD K mg true 2 m_law_box) :=
  have S := S_law_box
  fn_ok (k := 0) (n := 1) (f := true) (ω' := []) F S rfl rfl fun cdv A outer s H E M hr =>
    have hu : A.units + 3 + 64 < cLine := hr.units
    svs_cons (sv_set 2 S.nd (EB.ev (ev_if (tv_cmpB (bop_lt hu) (EV.bv (ev_var 1)) (EV.bv (ev_len B (EV.bv (ev_var 0)))) (nomark _)) (EV.eb (ev_ix (EV.bv (ev_var 0)) (EV.bv (ev_var 1)))) (EV.eb (ev_int)))))
      (svs_one (sv_ret (ev_lst (av_cons (EB.ev (ev_op opD_mul (ev_abs B (EV.bv (ev_var 2))) (ev_int' B (EV.bv (bv_cmp (bop_ge hu) (EV.bv (ev_abs B (EV.bv (ev_var 2)))) (EV.bv (EB.ev (ev_op opD_pow (ev_int) (ev_int)))) (nomark _)))))) (av_cons (EB.ev (ev_op opD_add (EB.ev (ev_op opD_add (EB.ev (ev_op opD_mod (ev_int' B (EV.bv (ev_var 2))) (ev_int))) (EB.ev (ev_op opD_mul (ev_int) (ev_var 1))))) (ev_int))) (av_cons (ev_int) av_nil))))))
def m_law_take : List D → Mu → R D := fnC 4 ((sSeq (sIf (tCmp gtD (c2 ixD (cVar 0) (cC (.int 0))) (cC (.int 0))) (sSeq (sSet 5 (c2 modD (c1 intD (c2 ixD (cVar 0) (cC (.int 0)))) (cVar 1)))
    (sSeq (sPutB 0 (c2 fdivD (c2 ixD (cVar 0) (cC (.int 0))) (cVar 1)) (cC (.int 0)))
    (sRet (cVar 5)))) sNil)
    (sSeq (sPutB 0 (c2 addD (c2 ixD (cVar 0) (cC (.int 2))) (cC (.int 1))) (cC (.int 2)))
    (sSeq (sSet 2 (c2 modD (c1 intD (c2 mulD (c2 addD (c2 ixD (cVar 0) (cC (.int 1))) (c2 mulD (cC (.int 48271)) (c2 ixD (cVar 0) (cC (.int 2))))) (c2 addD (cC (.int 39373)) (c2 ixD (cVar 0) (cC (.int 2)))))) (cC (.int 2147483647))))
    (sSeq (sSet 3 (c2 addD (c2 modD (c1 intD (cVar 2)) (cC (.int 40009))) (cC (.int 7))))
    (sSeq (sSet 4 (c2 modD (c1 intD (c2 mulD (c2 addD (c2 addD (cVar 2) (c2 ixD (cVar 0) (cC (.int 2)))) (c2 fdivD (c2 ixD (cVar 0) (cC (.int 1))) (cC (.int 1000003)))) (cVar 3))) (cC (.int 2147483629))))
    (sRet (c2 modD (c1 intD (c2 fdivD (c2 modD (c1 intD (c2 addD (c2 mulD (cVar 4) (cC (.int 48271))) (cVar 2))) (cC (.int 2147483587))) (cC (.int 64)))) (cVar 1)))))))))
abbrev s_law_take : Stmt := topS 32
theorem S_law_take : FnScope ["_law_box_here", "_law_below_so", "_law_once", "_law_far_so", "_law_twice_so", "_law_drawn_so"] ["_law_box_here", "_law_below_so"] (defScope s_law_take) := ⟨rfl, rfl, rfl, by decide +kernel, rfl, by decide +kernel, by decide +kernel⟩
theorem o_law_take (B : Bn mg) {fa : Addr} {fd : FuncData} (F : FnP K "_law_take" s_law_take fa fd) : FnOk P w K mg base CX0 1 fa fd ["_law_box_here", "_law_below_so"] (spD K mg false 2 m_law_take) :=
  have S := S_law_take
  fn_ok (k := 0) (n := 4) (f := false) (ω' := []) F S rfl rfl fun cdv A outer s H E M hr =>
    have hu : A.units + 3 + 64 < cLine := hr.units
    svs_cons (sv_if (tv_cmpB (bop_gt hu) (EV.bv (ev_ix (EV.bv (ev_var 0)) (EV.bv (ev_int)))) (EV.bv (ev_int)) (nomark _)) (svs_cons (sv_set 5 S.nd (EB.ev (ev_op opD_mod (ev_int' B (EV.bv (ev_ix (EV.bv (ev_var 0)) (EV.bv (ev_int))))) (ev_var 1))))
      (svs_cons (sv_putB 0 (EB.ev (ev_op opD_fdiv (ev_ix (EV.bv (ev_var 0)) (EV.bv (ev_int))) (ev_var 1))) (ev_int) rfl rfl (ps_asg (EB.ev (ev_op opD_fdiv (ev_ix (EV.bv (ev_var 0)) (EV.bv (ev_int))) (ev_var 1))) (pg_sub (pv 0) (ev_int) set_list)))
      (svs_one (sv_ret (EV.eb (ev_var 5)))))) (svs_nil))
      (svs_cons (sv_putB 0 (EB.ev (ev_op opD_add (ev_ix (EV.bv (ev_var 0)) (EV.bv (ev_int))) (ev_int))) (ev_int) rfl rfl (ps_asg (EB.ev (ev_op opD_add (ev_ix (EV.bv (ev_var 0)) (EV.bv (ev_int))) (ev_int))) (pg_sub (pv 0) (ev_int) set_list)))
      (svs_cons (sv_set 2 S.nd (EB.ev (ev_op opD_mod (ev_int' B (EV.bv (EB.ev (ev_op opD_mul (EB.ev (ev_op opD_add (ev_ix (EV.bv (ev_var 0)) (EV.bv (ev_int))) (EB.ev (ev_op opD_mul (ev_int) (ev_ix (EV.bv (ev_var 0)) (EV.bv (ev_int))))))) (EB.ev (ev_op opD_add (ev_int) (ev_ix (EV.bv (ev_var 0)) (EV.bv (ev_int))))))))) (ev_int))))
      (svs_cons (sv_set 3 S.nd (EB.ev (ev_op opD_add (EB.ev (ev_op opD_mod (ev_int' B (EV.bv (ev_var 2))) (ev_int))) (ev_int))))
      (svs_cons (sv_set 4 S.nd (EB.ev (ev_op opD_mod (ev_int' B (EV.bv (EB.ev (ev_op opD_mul (EB.ev (ev_op opD_add (EB.ev (ev_op opD_add (ev_var 2) (ev_ix (EV.bv (ev_var 0)) (EV.bv (ev_int))))) (EB.ev (ev_op opD_fdiv (ev_ix (EV.bv (ev_var 0)) (EV.bv (ev_int))) (ev_int))))) (ev_var 3))))) (ev_int))))
      (svs_one (sv_ret (EV.eb (EB.ev (ev_op opD_mod (ev_int' B (EV.bv (EB.ev (ev_op opD_fdiv (EB.ev (ev_op opD_mod (ev_int' B (EV.bv (EB.ev (ev_op opD_add (EB.ev (ev_op opD_mul (ev_var 4) (ev_int))) (ev_var 2))))) (ev_int))) (ev_int))))) (ev_var 1))))))))))
def m_law_cells : List D → Mu → R D := fnF 4 ((sSeq (sSet 2 (cOr (c1 listD (cSl slD (cVar 0) oNone (oSome (cVar 1)))) (cLst (aCons (cC (.int 0)) aNil))))
    (sSeq (sFor (iEnA (cSl slD (cVar 0) (oSome (cVar 1)) (oSome (cC (.int 63))))) (gT 2 (gsCons (gN 3) (gsCons (gN 4) gsNil)))
    (sSeq (sSet 5 (c2 modD (c1 intD (cVar 3)) (cVar 1)))
    (sPut 2 (c2 addD (c2 ixD (cVar 2) (cVar 5)) (c2 mulD (cVar 4) (c2 addD (cVar 3) (cC (.int 2))))) (cVar 5))))
    (sRet (cVar 2)))))
abbrev s_law_cells : Stmt := topS 33
theorem S_law_cells : FnScope ["_law_script", "_law_most_so", "_law_cells_here", "_law_k", "_law_cell", "_law_at_so"] ["_law_script", "_law_most_so"] (defScope s_law_cells) := ⟨rfl, rfl, rfl, by decide +kernel, rfl, by decide +kernel, by decide +kernel⟩
theorem o_law_cells (B : Bn mg) {fa : Addr} {fd : FuncData} (F : FnP K "_law_cells" s_law_cells fa fd) : FnOk P w K mg base CX0 1 fa fd ["_law_script", "_law_most_so"] (spD K mg true 2 m_law_cells) :=
  have S := S_law_cells
  fn_ok (k := 0) (n := 4) (f := true) (ω' := []) F S rfl rfl fun cdv A outer s H E M hr =>
    have hu : A.units + 3 + 64 < cLine := hr.units
    svs_cons (sv_setF 2 S.nd (ev_orF (ev_list B (EV.bv (EB.ev (ev_sl sl_all (EV.bv (ev_var 0)) ov_none (ov_some (ev_var 1)))))) (ev_one (ev_lst (av_cons (ev_int) av_nil)))))
      (svs_cons (sv_for PassesOwn.never rfl (iv_enumA B (EB.ev (ev_sl sl_all (EV.bv (ev_var 0)) (ov_some (ev_var 1)) (ov_some (ev_int))))) (gv_tup rfl (gvs_cons (gv_name 3 S.nd) (gvs_cons (gv_name 4 S.nd) (gvs_nil)))) (svs_cons (sv_set 5 S.nd (EB.ev (ev_op opD_mod (ev_int' B (EV.bv (ev_var 3))) (ev_var 1))))
      (svs_one (sv_put 2 (EB.ev (ev_op opD_add (ev_ix (bv_own 2) (EV.bv (ev_var 5))) (EB.ev (ev_op opD_mul (ev_var 4) (EB.ev (ev_op opD_add (ev_var 3) (ev_int))))))) (ev_var 5) rfl rfl (ps_asg (EB.ev (ev_op opD_add (ev_ix (bv_own 2) (EV.bv (ev_var 5))) (EB.ev (ev_op opD_mul (ev_var 4) (EB.ev (ev_op opD_add (ev_var 3) (ev_int))))))) (pg_sub (pv 2) (ev_var 5) set_list))))))
      (svs_one (sv_retOwn 2)))
def m_law_same : Nat → List D → Mu → R D
  | 0 => fun _ _ => .bad
  | n + 1 => fnC 2 ((sSeq (sIf (tTru (c1 (isi2D .list .tuple) (cVar 1))) (sSeq (sIf (tOr' (tCmp neD (c1 (isiD .list) (cVar 0)) (c1 (isiD .list) (cVar 1))) (tCmp neD (c1 (isiD .tuple) (cVar 0)) (c1 (isiD .tuple) (cVar 1)))) (sRet (cC (.bl false))) sNil)
    (sRet (cAnd (c2 eqD (c1 lenD (cVar 0)) (c1 lenD (cVar 1))) (c1 allD (cLc (iZpA (aCons (cVar 0) (aCons (cVar 1) aNil))) (gT 2 (gsCons (gN 2) (gsCons (gN 3) gsNil))) (fun _ m => .ok true m) (cCall (m_law_same n) (aCons (cVar 2) (aCons (cVar 3) aNil)))))))) sNil)
    (sSeq (sIf (tOr' (tCmp isD (cVar 1) (cC .non)) (tTru (c1 (isi2D .bool .str) (cVar 1)))) (sRet (cAnd (c2 eqD (cVar 0) (cVar 1)) (cAnd (c2 eqD (c1 (isiD .bool) (cVar 0)) (c1 (isiD .bool) (cVar 1))) (c2 eqD (c2 isD (cVar 0) (cC .non)) (c2 isD (cVar 1) (cC .non)))))) sNil)
    (sRet (cAnd (c1 (isiD .int) (cVar 0)) (cAnd (c1 notD (c1 (isiD .bool) (cVar 0))) (c2 eqD (cVar 0) (cVar 1))))))))
abbrev s_law_same : Stmt := topS 34
theorem S_law_same : FnScope ["_law_got", "_law_due_so", "_law_own", "_law_far"] ["_law_got", "_law_due_so"] (defScope s_law_same) := ⟨rfl, rfl, rfl, by decide +kernel, rfl, by decide +kernel, by decide +kernel⟩
theorem o_law_same (B : Bn mg) {fa : Addr} {fd : FuncData} (F : FnP K "_law_same" s_law_same fa fd) (hm : mg "_law_same" = some (.ref fa)) (hb : Binds K fd ["_law_got", "_law_due_so"] []) : ∀ n : Nat, FnOk P w K mg base CX0 (1 + n) fa fd ["_law_got", "_law_due_so"] (spD K mg false 2 (m_law_same n))
  | 0 => fn_none
  | n + 1 =>
    have C_law_same : Fn P w K mg base CX0 "_law_same" (1 + n) ["_law_got", "_law_due_so"] false (m_law_same n) := ⟨fa, fd, hm, F.kp, hb, o_law_same B F hm hb n⟩
    have S := S_law_same
    fn_ok (k := 1 + n) (n := 2) (f := false) (ω' := []) F S rfl rfl fun cdv A outer s H E M hr =>
      have hu : A.units + 3 + 64 < cLine := hr.units
      svs_cons (sv_if (tv_val (EV.bv (ev_isLT B (EV.bv (ev_var 1))))) (svs_cons (sv_if (tv_bool (wv_or (tv_cmpB (bop_ne hu) (EV.bv (ev_isL B (EV.bv (ev_var 0)))) (EV.bv (ev_isL B (EV.bv (ev_var 1)))) (nomark _)) (wv_or1 (tv_cmpB (bop_ne hu) (EV.bv (ev_isT B (EV.bv (ev_var 0)))) (EV.bv (ev_isT B (EV.bv (ev_var 1)))) (nomark _))))) (svs_one (sv_ret (EV.eb (ev_bl)))) (svs_nil))
      (svs_one (sv_ret (EV.eb (ev_and (bv_cmp (bop_eq hu) (EV.bv (ev_len B (EV.bv (ev_var 0)))) (EV.bv (ev_len B (EV.bv (ev_var 1)))) (nomark _)) (EB.ev (ev_one (EV.eb (ev_all B rfl (EV.bv (EB.ev (ev_lcM [("_law_own", 2), ("_law_far", 3)] rfl S.nd (iv_zipAny B (av_cons (ev_var 0) (av_cons (ev_var 1) av_nil))) (blkOk_by (N := ["_law_got", "_law_due_so", "_law_own", "_law_far"]) (sc := defScope s_law_same) (by decide +kernel)) (fun _ _ _ _ _ => gv_tup rfl (gvs_cons (gv_name 2 S.nd) (gvs_cons (gv_name 3 S.nd) (gvs_nil)))) (fun _ _ _ _ _ => tts_nil) (fun _ _ _ _ _ => EB.ev (ev_fn C_law_same hr (av_cons (ev_var 2) (av_cons (ev_var 3) av_nil)) (len_cons (len_cons len_nil)))))))))))))))) (svs_nil))
      (svs_cons (sv_if (tv_bool (wv_or (tv_cmpB (bop_is) (EV.bv (ev_var 1)) (EV.bv (ev_non)) (nomark _)) (wv_or1 (tv_val (EV.bv (ev_isBS B (EV.bv (ev_var 1)))))))) (svs_one (sv_ret (EV.eb (ev_and (bv_cmp (bop_eq hu) (EV.bv (ev_var 0)) (EV.bv (ev_var 1)) (nomark _)) (ev_and (bv_cmp (bop_eq hu) (EV.bv (ev_isB B (EV.bv (ev_var 0)))) (EV.bv (ev_isB B (EV.bv (ev_var 1)))) (nomark _)) (EB.ev (ev_one (EV.eb (bv_cmp (bop_eq hu) (EV.bv (bv_cmp (bop_is) (EV.bv (ev_var 0)) (EV.bv (ev_non)) (nomark _))) (EV.bv (bv_cmp (bop_is) (EV.bv (ev_var 1)) (EV.bv (ev_non)) (nomark _))) (nomark _)))))))))) (svs_nil))
      (svs_one (sv_ret (EV.eb (ev_and (ev_isI B (EV.bv (ev_var 0))) (ev_and (ev_not (EV.bv (ev_isB B (EV.bv (ev_var 0))))) (EB.ev (ev_one (EV.eb (bv_cmp (bop_eq hu) (EV.bv (ev_var 0)) (EV.bv (ev_var 1)) (nomark _)))))))))))
def m_law_mixed : List D → Mu → R D := fnF 4 ((sSeq (sPar 3 4 (c1 listD (cVar 1)) (cLst aNil))
    (sSeq (sFor (iRg (aCons (c1 lenD (cVar 1)) aNil)) (gN 2)
    (sSeq (sSet 5 (cCall m_law_take (aCons (cVar 0) (aCons (c1 lenD (cVar 3)) aNil))))
    (sSeq (sApp 4 (c2 ixD (cVar 3) (cVar 5)))
    (sSet 3 (c2 addD (cSl slD (cVar 3) oNone (oSome (cVar 5))) (cSl slD (cVar 3) (oSome (c2 addD (cVar 5) (cC (.int 1)))) oNone))))))
    (sRet (cVar 4)))))
abbrev s_law_mixed : Stmt := topS 35
theorem S_law_mixed : FnScope ["_law_box_here", "_law_rows_so", "_law_turn", "_law_rest_so", "_law_found", "_law_at_so"] ["_law_box_here", "_law_rows_so"] (defScope s_law_mixed) := ⟨rfl, rfl, rfl, by decide +kernel, rfl, by decide +kernel, by decide +kernel⟩
theorem o_law_mixed (B : Bn mg) (C_law_take : Fn P w K mg base CX0 "_law_take" 1 ["_law_box_here", "_law_below_so"] false m_law_take) {fa : Addr} {fd : FuncData} (F : FnP K "_law_mixed" s_law_mixed fa fd) : FnOk P w K mg base CX0 2 fa fd ["_law_box_here", "_law_rows_so"] (spD K mg true 2 m_law_mixed) :=
  have S := S_law_mixed
  fn_ok (k := 1) (n := 4) (f := true) (ω' := []) F S rfl rfl fun cdv A outer s H E M hr =>
    have hu : A.units + 3 + 64 < cLine := hr.units
    svs_cons (sv_par 3 4 false true (ps_par rfl S.nd rfl rfl (by decide) rfl rfl (pa_cons (EV.eb (EB.ev (ev_list B (EV.bv (ev_var 1))))) (pa_cons (ev_lst av_nil) pa_nil)) (by rfl)))
      (svs_cons (sv_for PassesOwn.never rfl (iv_range1 (av_cons (ev_len B (EV.bv (ev_var 1))) av_nil) (len_cons len_nil) B.range) (gv_name 2 S.nd) (svs_cons (sv_set 5 S.nd (EB.ev (ev_fn C_law_take (hr.mono (by decide)) (av_cons (ev_var 0) (av_cons (ev_len B (EV.bv (ev_var 3))) av_nil)) (len_cons (len_cons len_nil)))))
      (svs_cons (sv_app 4 rfl rfl (ps_expr (pe_bm PySem.F.plainAttrs_list PySem.F.slot_list_append PySem.F.type_list_append mt_append (pv 4) (pa_cons (ev_ix (EV.bv (ev_var 3)) (EV.bv (ev_var 5))) pa_nil))))
      (svs_one (sv_set 3 S.nd (EB.ev (ev_op opD_add (EB.ev (ev_sl sl_all (EV.bv (ev_var 3)) ov_none (ov_some (ev_var 5)))) (EB.ev (ev_sl sl_all (EV.bv (ev_var 3)) (ov_some (EB.ev (ev_op opD_add (ev_var 5) (ev_int)))) ov_none)))))))))
      (svs_one (sv_retOwn 4)))
def m_law_band : List D → Mu → R D := fnC 2 ((sSeq (sSet 3 (cLc (iRg (aCons (cC (.int 1)) (aCons (c2 subD (c2 ixD (cVar 1) (cC (.int 0))) (cC (.int 1))) aNil))) (gN 4) (fun _ m => .ok true m) (cVar 4)))
    (sRet (c1 tupleD (c1 sortD (cSl slD (cCall m_law_mixed (aCons (cVar 0) (aCons (cVar 3) aNil))) oNone (oSome (cCall m_law_take (aCons (cVar 0) (aCons (c2 addD (cVar 2) (cC (.int 1))) aNil))))))))))
abbrev s_law_band : Stmt := topS 36
theorem S_law_band : FnScope ["_law_box_here", "_law_net_so", "_law_most_so", "_law_inner_so", "_law_k"] ["_law_box_here", "_law_net_so", "_law_most_so"] (defScope s_law_band) := ⟨rfl, rfl, rfl, by decide +kernel, rfl, by decide +kernel, by decide +kernel⟩
theorem o_law_band (B : Bn mg) (C_law_mixed : Fn P w K mg base CX0 "_law_mixed" 2 ["_law_box_here", "_law_rows_so"] true m_law_mixed) (C_law_take : Fn P w K mg base CX0 "_law_take" 1 ["_law_box_here", "_law_below_so"] false m_law_take) {fa : Addr} {fd : FuncData} (F : FnP K "_law_band" s_law_band fa fd) : FnOk P w K mg base CX0 3 fa fd ["_law_box_here", "_law_net_so", "_law_most_so"] (spD K mg false 3 m_law_band) :=
  have S := S_law_band
  fn_ok (k := 2) (n := 2) (f := false) (ω' := []) F S rfl rfl fun cdv A outer s H E M hr =>
    have hu : A.units + 3 + 64 < cLine := hr.units
    svs_cons (SV.frzA 3 (sv_setLcM 3 [("_law_k", 4)] rfl S.nd (iv_range2 (av_cons (ev_int) (av_cons (EB.ev (ev_op opD_sub (ev_ix (EV.bv (ev_var 1)) (EV.bv (ev_int))) (ev_int))) av_nil)) (len_cons (len_cons len_nil)) B.range) (blkOk_by (N := ["_law_box_here", "_law_net_so", "_law_most_so", "_law_inner_so", "_law_k"]) (sc := defScope s_law_band) (by decide +kernel)) (fun _ _ _ _ _ => gv_name 4 S.nd) (fun _ _ _ _ _ => tts_nil) (fun _ _ _ _ _ => ev_var 4) (sw_true rfl rfl rfl (by decide +kernel))))
      (svs_one (sv_ret (EV.eb (ev_tuple B (EV.bv (EB.ev (ev_sorted B hu (EV.bv (EB.ev (ev_sl sl_all (EV.bv (EB.ev (EV.eb (EB.frz (ev_fn C_law_mixed (hr.mono (by decide)) (av_cons (ev_var 0) (av_cons (ev_var 3) av_nil)) (len_cons (len_cons len_nil))))))) ov_none (ov_some (EB.ev (ev_fn C_law_take (hr.mono (by decide)) (av_cons (ev_var 0) (av_cons (EB.ev (ev_op opD_add (ev_var 2) (ev_int))) av_nil)) (len_cons (len_cons len_nil)))))))))))))))
def m_law_bands : List D → Mu → R D := fnC 1 ((sRet (c1 tupleD (c1 ssetD (cLc (iRg (aCons (c2 addD (cC (.int 1)) (cCall m_law_take (aCons (cVar 0) (aCons (cVar 2) aNil)))) aNil)) (gN 4) (fun _ m => .ok true m) (cCall m_law_band (aCons (cVar 0) (aCons (cVar 1) (aCons (cVar 3) aNil)))))))))
abbrev s_law_bands : Stmt := topS 37
theorem S_law_bands : FnScope ["_law_box_here", "_law_net_so", "_law_many_so", "_law_most_so", "_law_turn"] ["_law_box_here", "_law_net_so", "_law_many_so", "_law_most_so"] (defScope s_law_bands) := ⟨rfl, rfl, rfl, by decide +kernel, rfl, by decide +kernel, by decide +kernel⟩
theorem o_law_bands (B : Bn mg) (C_law_take : Fn P w K mg base CX0 "_law_take" 1 ["_law_box_here", "_law_below_so"] false m_law_take) (C_law_band : Fn P w K mg base CX0 "_law_band" 3 ["_law_box_here", "_law_net_so", "_law_most_so"] false m_law_band) {fa : Addr} {fd : FuncData} (F : FnP K "_law_bands" s_law_bands fa fd) : FnOk P w K mg base CX0 4 fa fd ["_law_box_here", "_law_net_so", "_law_many_so", "_law_most_so"] (spD K mg false 4 m_law_bands) :=
  have S := S_law_bands
  fn_ok (k := 3) (n := 1) (f := false) (ω' := []) F S rfl rfl fun cdv A outer s H E M hr =>
    have hu : A.units + 3 + 64 < cLine := hr.units
    svs_one (sv_ret (EV.eb (ev_tuple B (EV.bv (EB.ev (ev_sset B rfl hu (EV.bv (EB.ev (ev_lcM [("_law_turn", 4)] rfl S.nd (iv_range1 (av_cons (EB.ev (ev_op opD_add (ev_int) (EB.ev (ev_fn C_law_take (hr.mono (by decide)) (av_cons (ev_var 0) (av_cons (ev_var 2) av_nil)) (len_cons (len_cons len_nil)))))) av_nil) (len_cons len_nil) B.range) (blkOk_by (N := ["_law_box_here", "_law_net_so", "_law_many_so", "_law_most_so", "_law_turn"]) (sc := defScope s_law_bands) (by decide +kernel)) (fun _ _ _ _ _ => gv_name 4 S.nd) (fun _ _ _ _ _ => tts_nil) (fun _ _ _ _ _ => EB.ev (ev_fn C_law_band (hr.mono (by decide)) (av_cons (ev_var 0) (av_cons (ev_var 1) (av_cons (ev_var 3) av_nil))) (len_cons (len_cons (len_cons len_nil))))))))))))))
def m_law_fan : List D → Mu → R D := fnC 5 ((sSeq (sSet 3 (cLst aNil))
    (sSeq (sFor (iRg (aCons (cC (.int 1)) (aCons (c2 subD (cVar 1) (cC (.int 1))) aNil))) (gN 4)
    (sSet 3 (c2 addL (c2 addD (cVar 3) (c2 mulD (cLst (aCons (cTup (aCons (cC (.int 0)) (aCons (cVar 4) aNil))) aNil)) (c1 intD (c2 gtD (cCall m_law_take (aCons (cVar 0) (aCons (cC (.int 4)) aNil))) (cC (.int 0)))))) (c2 mulD (cLst (aCons (cTup (aCons (cVar 4) (aCons (c2 subD (cVar 1) (cC (.int 1))) aNil))) aNil)) (c1 intD (c2 gtD (cCall m_law_take (aCons (cVar 0) (aCons (cC (.int 4)) aNil))) (cC (.int 0))))))))
    (sSeq (sFor (iRg (aCons (cCall m_law_take (aCons (cVar 0) (aCons (c2 addD (cVar 2) (cC (.int 1))) aNil))) aNil)) (gN 5)
    (sSeq (sPar 6 7 (cCall m_law_take (aCons (cVar 0) (aCons (cVar 1) aNil))) (cCall m_law_take (aCons (cVar 0) (aCons (cVar 1) aNil))))
    (sIf (tAnd' (tCmp neD (cVar 6) (cVar 7)) (tCmp ninD (cTup (aCons (cVar 6) (aCons (cVar 7) aNil))) (cVar 3))) (sApp 3 (cTup (aCons (cVar 6) (aCons (cVar 7) aNil)))) sNil)))
    (sRet (cTup (aCons (cVar 1) (aCons (c1 tupleD (c1 sortD (cVar 3))) aNil))))))))
abbrev s_law_fan : Stmt := topS 38
theorem S_law_fan : FnScope ["_law_box_here", "_law_many_so", "_law_lines_so", "_law_found", "_law_k", "_law_turn", "_law_one_so", "_law_two_so"] ["_law_box_here", "_law_many_so", "_law_lines_so"] (defScope s_law_fan) := ⟨rfl, rfl, rfl, by decide +kernel, rfl, by decide +kernel, by decide +kernel⟩
theorem o_law_fan (B : Bn mg) (C_law_take : Fn P w K mg base CX0 "_law_take" 1 ["_law_box_here", "_law_below_so"] false m_law_take) {fa : Addr} {fd : FuncData} (F : FnP K "_law_fan" s_law_fan fa fd) : FnOk P w K mg base CX0 2 fa fd ["_law_box_here", "_law_many_so", "_law_lines_so"] (spD K mg false 3 m_law_fan) :=
  have S := S_law_fan
  fn_ok (k := 1) (n := 5) (f := false) (ω' := []) F S rfl rfl fun cdv A outer s H E M hr =>
    have hu : A.units + 3 + 64 < cLine := hr.units
    svs_cons (sv_setF 3 S.nd (ev_lst av_nil))
      (svs_cons (sv_for PassesOwn.never rfl (iv_range2 (av_cons (ev_int) (av_cons (EB.ev (ev_op opD_sub (ev_var 1) (ev_int))) av_nil)) (len_cons (len_cons len_nil)) B.range) (gv_name 4 S.nd) (svs_one (SV.frz 3 (sv_setF 3 S.nd (ev_op opD_addL (EB.ev (ev_op opD_add (ev_var 3) (EB.ev (ev_op opD_mul (EB.ev (ev_lst (av_cons (ev_tup (av_cons (ev_int) (av_cons (ev_var 4) av_nil))) av_nil))) (ev_int' B (EV.bv (bv_cmp (bop_gt hu) (EV.bv (EB.ev (ev_fn C_law_take (hr.mono (by decide)) (av_cons (ev_var 0) (av_cons (ev_int) av_nil)) (len_cons (len_cons len_nil))))) (EV.bv (ev_int)) (nomark _)))))))) (EB.ev (ev_op opD_mul (EB.ev (ev_lst (av_cons (ev_tup (av_cons (ev_var 4) (av_cons (EB.ev (ev_op opD_sub (ev_var 1) (ev_int))) av_nil))) av_nil))) (ev_int' B (EV.bv (bv_cmp (bop_gt hu) (EV.bv (EB.ev (ev_fn C_law_take (hr.mono (by decide)) (av_cons (ev_var 0) (av_cons (ev_int) av_nil)) (len_cons (len_cons len_nil))))) (EV.bv (ev_int)) (nomark _)))))))))))
      (svs_cons (sv_for PassesOwn.never rfl (iv_range1 (av_cons (EB.ev (ev_fn C_law_take (hr.mono (by decide)) (av_cons (ev_var 0) (av_cons (EB.ev (ev_op opD_add (ev_var 2) (ev_int))) av_nil)) (len_cons (len_cons len_nil)))) av_nil) (len_cons len_nil) B.range) (gv_name 5 S.nd) (svs_cons (sv_par 6 7 false false (ps_par rfl S.nd rfl rfl (by decide) rfl rfl (pa_cons (EV.eb (EB.ev (ev_fn C_law_take (hr.mono (by decide)) (av_cons (ev_var 0) (av_cons (ev_var 1) av_nil)) (len_cons (len_cons len_nil))))) (pa_cons (EV.eb (EB.ev (ev_fn C_law_take (hr.mono (by decide)) (av_cons (ev_var 0) (av_cons (ev_var 1) av_nil)) (len_cons (len_cons len_nil))))) pa_nil)) (by rfl)))
      (svs_one (sv_if (tv_bool (wv_and (tv_cmpB (bop_ne hu) (EV.bv (ev_var 6)) (EV.bv (ev_var 7)) (nomark _)) (wv_and1 (tv_cmpB (bop_nin hu) (EV.bv (ev_tup (av_cons (ev_var 6) (av_cons (ev_var 7) av_nil)))) (bv_own 3) rfl)))) (svs_one (sv_app 3 rfl rfl (ps_expr (pe_bm PySem.F.plainAttrs_list PySem.F.slot_list_append PySem.F.type_list_append mt_append (pv 3) (pa_cons (ev_tup (av_cons (ev_var 6) (av_cons (ev_var 7) av_nil))) pa_nil))))) (svs_nil)))))
      (svs_one (sv_ret (EV.eb (ev_tup (av_cons (ev_var 1) (av_cons (ev_tuple B (EV.bv (EB.ev (ev_sorted B hu (bv_own 3))))) av_nil))))))))
def m_law_nets_by_hand : List D → Mu → R D := fnF 2 ((sSeq (sSet 0 (cTup (aCons (cC (.int 5)) (aCons (cTup (aCons (cTup (aCons (cC (.int 0)) (aCons (cC (.int 1)) aNil))) (aCons (cTup (aCons (cC (.int 0)) (aCons (cC (.int 2)) aNil))) (aCons (cTup (aCons (cC (.int 0)) (aCons (cC (.int 3)) aNil))) (aCons (cTup (aCons (cC (.int 1)) (aCons (cC (.int 4)) aNil))) (aCons (cTup (aCons (cC (.int 2)) (aCons (cC (.int 4)) aNil))) (aCons (cTup (aCons (cC (.int 3)) (aCons (cC (.int 4)) aNil))) aNil))))))) aNil))))
    (sSeq (sSet 1 (cTup (aCons (cC (.int 4)) (aCons (cTup (aCons (cTup (aCons (cC (.int 0)) (aCons (cC (.int 1)) aNil))) (aCons (cTup (aCons (cC (.int 0)) (aCons (cC (.int 2)) aNil))) (aCons (cTup (aCons (cC (.int 1)) (aCons (cC (.int 2)) aNil))) (aCons (cTup (aCons (cC (.int 1)) (aCons (cC (.int 3)) aNil))) (aCons (cTup (aCons (cC (.int 2)) (aCons (cC (.int 3)) aNil))) aNil)))))) aNil))))
    (sRet (cLst (aCons (cVar 0) (aCons (cVar 1) (aCons (cTup (aCons (cC (.int 3)) (aCons (cTup (aCons (cTup (aCons (cC (.int 0)) (aCons (cC (.int 1)) aNil))) (aCons (cTup (aCons (cC (.int 0)) (aCons (cC (.int 2)) aNil))) (aCons (cTup (aCons (cC (.int 1)) (aCons (cC (.int 2)) aNil))) aNil)))) aNil))) (aCons (cTup (aCons (cC (.int 3)) (aCons (cTup (aCons (cTup (aCons (cC (.int 0)) (aCons (cC (.int 1)) aNil))) aNil)) aNil))) (aCons (cTup (aCons (cC (.int 2)) (aCons (cTup (aCons (cTup (aCons (cC (.int 0)) (aCons (cC (.int 1)) aNil))) aNil)) aNil))) aNil))))))))))
abbrev s_law_nets_by_hand : Stmt := topS 39
theorem S_law_nets_by_hand : FnScope ["_law_three_so", "_law_bridge_so"] [] (defScope s_law_nets_by_hand) := ⟨rfl, rfl, rfl, by decide +kernel, rfl, by decide +kernel, by decide +kernel⟩
theorem o_law_nets_by_hand (B : Bn mg) {fa : Addr} {fd : FuncData} (F : FnP K "_law_nets_by_hand" s_law_nets_by_hand fa fd) : FnOk P w K mg base CX0 1 fa fd [] (spD K mg true 0 m_law_nets_by_hand) :=
  have S := S_law_nets_by_hand
  fn_ok (k := 0) (n := 2) (f := true) (ω' := []) F S rfl rfl fun cdv A outer s H E M hr =>
    have hu : A.units + 3 + 64 < cLine := hr.units
    svs_cons (sv_set 0 S.nd (ev_tup (av_cons (ev_int) (av_cons (ev_tup (av_cons (ev_tup (av_cons (ev_int) (av_cons (ev_int) av_nil))) (av_cons (ev_tup (av_cons (ev_int) (av_cons (ev_int) av_nil))) (av_cons (ev_tup (av_cons (ev_int) (av_cons (ev_int) av_nil))) (av_cons (ev_tup (av_cons (ev_int) (av_cons (ev_int) av_nil))) (av_cons (ev_tup (av_cons (ev_int) (av_cons (ev_int) av_nil))) (av_cons (ev_tup (av_cons (ev_int) (av_cons (ev_int) av_nil))) av_nil))))))) av_nil))))
      (svs_cons (sv_set 1 S.nd (ev_tup (av_cons (ev_int) (av_cons (ev_tup (av_cons (ev_tup (av_cons (ev_int) (av_cons (ev_int) av_nil))) (av_cons (ev_tup (av_cons (ev_int) (av_cons (ev_int) av_nil))) (av_cons (ev_tup (av_cons (ev_int) (av_cons (ev_int) av_nil))) (av_cons (ev_tup (av_cons (ev_int) (av_cons (ev_int) av_nil))) (av_cons (ev_tup (av_cons (ev_int) (av_cons (ev_int) av_nil))) av_nil)))))) av_nil))))
      (svs_one (sv_ret (ev_lst (av_cons (ev_var 0) (av_cons (ev_var 1) (av_cons (ev_tup (av_cons (ev_int) (av_cons (ev_tup (av_cons (ev_tup (av_cons (ev_int) (av_cons (ev_int) av_nil))) (av_cons (ev_tup (av_cons (ev_int) (av_cons (ev_int) av_nil))) (av_cons (ev_tup (av_cons (ev_int) (av_cons (ev_int) av_nil))) av_nil)))) av_nil))) (av_cons (ev_tup (av_cons (ev_int) (av_cons (ev_tup (av_cons (ev_tup (av_cons (ev_int) (av_cons (ev_int) av_nil))) av_nil)) av_nil))) (av_cons (ev_tup (av_cons (ev_int) (av_cons (ev_tup (av_cons (ev_tup (av_cons (ev_int) (av_cons (ev_int) av_nil))) av_nil)) av_nil))) av_nil)))))))))
def m_law_case_right : List D → Mu → R D := fnC 15 ((sSeq (sSet 3 (cLc (iSeq (cVar 2)) (gN 9) (tTru (cCall m_meets (aCons (cVar 1) (aCons (cVar 9) aNil)))) (cVar 9)))
    (sSeq (sSet 4 (cLst (aCons (cCall m_unheard (aCons (cVar 1) (aCons (cVar 2) aNil))) (aCons (cCall m_ear_band (aCons (cVar 1) (aCons (cVar 2) aNil))) aNil))))
    (sSeq (sIf (tNot' (tTru (cCall (m_law_same 16) (aCons (cVar 4) (aCons (cLst (aCons (c2 eqD (cVar 3) (cLst aNil)) (aCons (cIf (tCmp neD (cVar 3) (cLst aNil)) (c2 ixD (cVar 3) (cC (.int 0))) (cC .non)) aNil))) aNil))))) (sRet (cC (.bl false))) sNil)
    (sSeq (sIf (tCmp neD (cVar 3) (cLst aNil)) (sRet (c2 eqD (cLc (iSeq (cCall m_routes (aCons (cVar 1) aNil))) (gN 9) (tCmp eqD (cLc (iSeq (cVar 9)) (gN 15) (tCmp inD (cVar 15) (c2 ixD (cVar 3) (cC (.int 0)))) (cVar 15)) (cLst aNil)) (cVar 9)) (cLst aNil))) sNil)
    (sSeq (sPar 7 8 (cCallN m_share_routes (aCons (cVar 1) (aCons (cVar 2) aNil))) (cCallN m_few_routes (aCons (cVar 1) (aCons (cVar 2) aNil))))
    (sSeq (sSet 5 (c2 addD (cC (.int 2)) (cCall m_law_take (aCons (cVar 0) (aCons (c2 powD (cC (.int 10)) (cC (.int 9))) aNil)))))
    (sSeq (sIf (tOr' (tNot' (tTru (cCall m_is_share_routes (aCons (cVar 1) (aCons (cVar 2) (aCons (cVar 7) aNil)))))) (tNot' (tTru (cCallN m_is_few_routes (aCons (cVar 1) (aCons (cVar 2) (aCons (cVar 8) aNil))))))) (sRet (cC (.bl false))) sNil)
    (sSeq (sIf (tOr' (tCmp neD (cCallN m_how_few_routes (aCons (cVar 1) (aCons (cVar 2) aNil))) (c1 lenD (cVar 8))) (tCmp gtD (c1 lenD (cVar 8)) (c1 lsetD (cVar 7)))) (sRet (cC (.bl false))) sNil)
    (sSeq (sFor (iSeq (cTup (aCons (cVar 7) (aCons (cVar 8) aNil)))) (gN 6)
    (sSeq (sParN [12, 13] (cAll [(false, (c1 lenD (cVar 6))), (false, (cCall m_law_take (aCons (cVar 0) (aCons (cVar 5) aNil))))]))
    (sSeq (sSet 9 (cCall m_shares_of (aCons (cVar 13) (aCons (c1 tupleD (cLc (iRg (aCons (c2 subD (cVar 12) (cC (.int 1))) aNil)) (gN 17) (fun _ m => .ok true m) (cCall m_law_take (aCons (cVar 0) (aCons (cVar 5) aNil))))) (aCons (cVar 5) aNil)))))
    (sSeq (sIf (tNot' (tTru (cCall (m_law_same 16) (aCons (cLst (aCons (cCall m_told_number (aCons (cVar 9) (aCons (cVar 5) aNil))) (aCons (c1 lenD (cVar 9)) aNil))) (aCons (cLst (aCons (cVar 13) (aCons (cVar 12) aNil))) aNil))))) (sRet (cC (.bl false))) sNil)
    (sSeq (sIf (tCmp neD (cLc (iSeq (cVar 6)) (gN 15) (tCmp ninD (cVar 15) (cCall m_routes (aCons (cVar 1) aNil))) (cVar 15)) (cLst aNil)) (sRet (cC (.bl false))) sNil)
    (sSeq (sFor (iSeq (cVar 2)) (gN 10)
    (sSeq (sSet 14 (c1 tupleD (cLc (iSeq (cCall m_heard_at (aCons (cVar 6) (aCons (cVar 10) aNil)))) (gN 16) (fun _ m => .ok true m) (cTup (aCons (cVar 16) (aCons (c2 ixD (cVar 9) (cVar 16)) aNil))))))
    (sSeq (sIf (tOr' (tCmp geD (c1 lenD (cVar 14)) (cVar 12)) (tCmp isnD (cCall m_learned (aCons (cVar 5) (aCons (cVar 12) (aCons (cVar 14) aNil)))) (cC .non))) (sRet (cC (.bl false))) sNil)
    (sSeq (sSet 4 (cLc (iSeq (cTup (aCons (cVar 13) (aCons (cC (.int 0)) (aCons (c2 subD (cVar 5) (cC (.int 1))) aNil))))) (gN 16) (fun _ m => .ok true m) (cCall m_how_many_shares (aCons (cVar 5) (aCons (cVar 12) (aCons (cVar 14) (aCons (cVar 16) aNil)))))))
    (sIf (tOr' (tNot' (tTru (cCall (m_law_same 16) (aCons (cVar 4) (aCons (c2 mulD (cLst (aCons (c2 ixD (cVar 4) (cC (.int 0))) aNil)) (cC (.int 3))) aNil))))) (tCmp ltD (c2 ixD (cVar 4) (cC (.int 0))) (cC (.int 1)))) (sRet (cC (.bl false))) sNil)))))
    (sSeq (sSet 11 (c1 tupleD (cLc (iRg (aCons (cVar 12) aNil)) (gN 16) (fun _ m => .ok true m) (cTup (aCons (cVar 16) (aCons (c2 ixD (cVar 9) (cVar 16)) aNil))))))
    (sIf (tCmp neD (cCall m_learned (aCons (cVar 5) (aCons (cVar 12) (aCons (cVar 11) aNil)))) (cVar 13)) (sRet (cC (.bl false))) sNil))))))))
    (sRet (cC (.bl true)))))))))))))
abbrev s_law_case_right : Stmt := topS 40
theorem S_law_case_right : FnScope ["_law_box_here", "_law_net_so", "_law_bands_so", "_law_some", "_law_got", "_law_top_so", "_law_lots_so", "_law_paths_so", "_law_few_so", "_law_own", "_law_band_so", "_law_every_so", "_law_many_so", "_law_number_so", "_law_heard_so", "_law_bit", "_law_k", "_law_lap"] ["_law_box_here", "_law_net_so", "_law_bands_so"] (defScope s_law_case_right) := ⟨rfl, rfl, rfl, by decide +kernel, rfl, by decide +kernel, by decide +kernel⟩
theorem o_law_case_right (B : Bn mg) (C_meets : Fn P w K mg base CX0 "meets" 3 ["net", "band"] false m_meets) (C_ear_band : Fn P w K mg base CX0 "ear_band" 18 ["net", "bands"] false m_ear_band) (C_unheard : Fn P w K mg base CX0 "unheard" 19 ["net", "bands"] false m_unheard) (C_law_same : Fn P w K mg base CX0 "_law_same" 17 ["_law_got", "_law_due_so"] false (m_law_same 16)) (C_routes : Fn P w K mg base CX0 "routes" 3 ["net"] true m_routes) (C_share_routes : Fn P w K mg base (L2.CX P w) "share_routes" 21 ["net", "bands"] false m_share_routes) (C_few_routes : Fn P w K mg base (L2.CX P w) "few_routes" 21 ["net", "bands"] false m_few_routes) (C_law_take : Fn P w K mg base CX0 "_law_take" 1 ["_law_box_here", "_law_below_so"] false m_law_take) (C_is_share_routes : Fn P w K mg base CX0 "is_share_routes" 19 ["net", "bands", "thing"] false m_is_share_routes) (C_is_few_routes : Fn P w K mg base (L2.CX P w) "is_few_routes" 23 ["net", "bands", "thing"] false m_is_few_routes) (C_how_few_routes : Fn P w K mg base (L2.CX P w) "how_few_routes" 22 ["net", "bands"] false m_how_few_routes) (C_shares_of : Fn P w K mg base CX0 "shares_of" 1 ["number", "dice", "modulus"] false m_shares_of) (C_told_number : Fn P w K mg base CX0 "told_number" 1 ["shares", "modulus"] false m_told_number) (C_heard_at : Fn P w K mg base CX0 "heard_at" 2 ["paths", "band"] false m_heard_at) (C_learned : Fn P w K mg base CX0 "learned" 2 ["modulus", "many", "heard"] false m_learned) (C_how_many_shares : Fn P w K mg base CX0 "how_many_shares" 2 ["modulus", "many", "heard", "number"] false m_how_many_shares) {fa : Addr} {fd : FuncData} (F : FnP K "_law_case_right" s_law_case_right fa fd) : FnOk P w K mg base CX0 24 fa fd ["_law_box_here", "_law_net_so", "_law_bands_so"] (spD K mg false 3 m_law_case_right) :=
  have S := S_law_case_right
  fn_ok (k := 23) (n := 15) (f := false) (ω' := []) F S rfl rfl fun cdv A outer s H E M hr =>
    have hu : A.units + 3 + 64 < cLine := hr.units
    svs_cons (sv_set 3 S.nd (EB.ev (ev_lcM [("_law_own", 9)] rfl S.nd (iv_seq (ev_var 2)) (blkOk_by (N := ["_law_box_here", "_law_net_so", "_law_bands_so", "_law_some", "_law_got", "_law_top_so", "_law_lots_so", "_law_paths_so", "_law_few_so", "_law_own", "_law_band_so", "_law_every_so", "_law_many_so", "_law_number_so", "_law_heard_so", "_law_bit", "_law_k", "_law_lap"]) (sc := defScope s_law_case_right) (by decide +kernel)) (fun _ _ _ _ _ => gv_name 9 S.nd) (fun _ _ _ _ _ => tts_one (tv_val (EV.bv (EB.ev (ev_fn C_meets (hr.mono (by decide)) (av_cons (ev_var 1) (av_cons (ev_var 9) av_nil)) (len_cons (len_cons len_nil))))))) (fun _ _ _ _ _ => ev_var 9))))
      (svs_cons (sv_set 4 S.nd (EB.ev (ev_lst (av_cons (EB.ev (ev_fn C_unheard (hr.mono (by decide)) (av_cons (ev_var 1) (av_cons (ev_var 2) av_nil)) (len_cons (len_cons len_nil)))) (av_cons (EB.ev (ev_fn C_ear_band (hr.mono (by decide)) (av_cons (ev_var 1) (av_cons (ev_var 2) av_nil)) (len_cons (len_cons len_nil)))) av_nil)))))
      (svs_cons (sv_if (tv_not (tv_val (EV.bv (EB.ev (ev_fn C_law_same (hr.mono (by decide)) (av_cons (ev_var 4) (av_cons (EB.ev (ev_lst (av_cons (bv_cmp (bop_eq hu) (EV.bv (ev_var 3)) (EV.bv (EB.ev (ev_lst av_nil))) (nomark _)) (av_cons (EB.ev (ev_if (tv_cmpB (bop_ne hu) (EV.bv (ev_var 3)) (EV.bv (EB.ev (ev_lst av_nil))) (nomark _)) (EV.eb (ev_ix (EV.bv (ev_var 3)) (EV.bv (ev_int)))) (EV.eb (ev_non)))) av_nil)))) av_nil)) (len_cons (len_cons len_nil))))))) (svs_one (sv_ret (EV.eb (ev_bl)))) (svs_nil))
      (svs_cons (sv_if (tv_cmpB (bop_ne hu) (EV.bv (ev_var 3)) (EV.bv (EB.ev (ev_lst av_nil))) (nomark _)) (svs_one (sv_ret (EV.eb (bv_cmp (bop_eq hu) (EV.bv (EB.ev (ev_lcM [("_law_own", 9)] rfl S.nd (iv_seq (EB.ev (EV.eb (EB.frz (ev_fn C_routes (hr.mono (by decide)) (av_cons (ev_var 1) av_nil) (len_cons len_nil)))))) (blkOk_by (N := ["_law_box_here", "_law_net_so", "_law_bands_so", "_law_some", "_law_got", "_law_top_so", "_law_lots_so", "_law_paths_so", "_law_few_so", "_law_own", "_law_band_so", "_law_every_so", "_law_many_so", "_law_number_so", "_law_heard_so", "_law_bit", "_law_k", "_law_lap"]) (sc := defScope s_law_case_right) (by decide +kernel)) (fun _ _ _ _ _ => gv_name 9 S.nd) (fun _ _ _ _ _ => tts_one (tv_cmpB (bop_eq hu) (EV.bv (EB.ev (ev_lcM [("_law_bit", 15)] rfl S.nd (iv_seq (ev_var 9)) (blkOk_by (by rfl)) (fun _ _ _ _ _ => gv_name 15 S.nd) (fun _ _ _ _ _ => tts_one (tv_cmpB (bop_in hu) (EV.bv (ev_var 15)) (EV.bv (ev_ix (EV.bv (ev_var 3)) (EV.bv (ev_int)))) rfl)) (fun _ _ _ _ _ => ev_var 15)))) (EV.bv (EB.ev (ev_lst av_nil))) (nomark _))) (fun _ _ _ _ _ => ev_var 9)))) (EV.bv (EB.ev (ev_lst av_nil))) (nomark _))))) (svs_nil))
      (svs_cons (sv_par 7 8 false false (ps_par rfl S.nd rfl rfl (by decide) rfl rfl (pa_cons (EV.eb (EB.ev (ev_fnN C_share_routes (hr.mono (by decide)) (av_cons (ev_var 1) (av_cons (ev_var 2) av_nil)) (len_cons (len_cons len_nil))))) (pa_cons (EV.eb (EB.ev (ev_fnN C_few_routes (hr.mono (by decide)) (av_cons (ev_var 1) (av_cons (ev_var 2) av_nil)) (len_cons (len_cons len_nil))))) pa_nil)) (by rfl)))
      (svs_cons (sv_set 5 S.nd (EB.ev (ev_op opD_add (ev_int) (EB.ev (ev_fn C_law_take (hr.mono (by decide)) (av_cons (ev_var 0) (av_cons (EB.ev (ev_op opD_pow (ev_int) (ev_int))) av_nil)) (len_cons (len_cons len_nil)))))))
      (svs_cons (sv_if (tv_bool (wv_or (tv_not (tv_val (EV.bv (EB.ev (ev_fn C_is_share_routes (hr.mono (by decide)) (av_cons (ev_var 1) (av_cons (ev_var 2) (av_cons (ev_var 7) av_nil))) (len_cons (len_cons (len_cons len_nil)))))))) (wv_or1 (tv_not (tv_val (EV.bv (EB.ev (ev_fnN C_is_few_routes (hr.mono (by decide)) (av_cons (ev_var 1) (av_cons (ev_var 2) (av_cons (ev_var 8) av_nil))) (len_cons (len_cons (len_cons len_nil))))))))))) (svs_one (sv_ret (EV.eb (ev_bl)))) (svs_nil))
      (svs_cons (sv_if (tv_bool (wv_or (tv_cmpB (bop_ne hu) (EV.bv (EB.ev (ev_fnN C_how_few_routes (hr.mono (by decide)) (av_cons (ev_var 1) (av_cons (ev_var 2) av_nil)) (len_cons (len_cons len_nil))))) (EV.bv (ev_len B (EV.bv (ev_var 8)))) (nomark _)) (wv_or1 (tv_cmpB (bop_gt hu) (EV.bv (ev_len B (EV.bv (ev_var 8)))) (EV.bv (ev_lset B rfl hu (EV.bv (ev_var 7)))) (nomark _))))) (svs_one (sv_ret (EV.eb (ev_bl)))) (svs_nil))
      (svs_cons (sv_for PassesOwn.never rfl (iv_seq (ev_tup (av_cons (ev_var 7) (av_cons (ev_var 8) av_nil)))) (gv_name 6 S.nd) (svs_cons (sv_parN [12, 13] _ rfl rfl (pa_cons (EV.eb (ev_len B (EV.bv (ev_var 6)))) (pa_cons (EV.eb (EB.ev (ev_fn C_law_take (hr.mono (by decide)) (av_cons (ev_var 0) (av_cons (ev_var 5) av_nil)) (len_cons (len_cons len_nil))))) pa_nil)) (pgs_cons (pg_name S.nd rfl (by first | exact Or.inl rfl | exact Or.inr rfl)) (pgs_cons (pg_name S.nd rfl (by first | exact Or.inl rfl | exact Or.inr rfl)) pgs_nil)))
      (svs_cons (sv_set 9 S.nd (EB.ev (ev_fn C_shares_of (hr.mono (by decide)) (av_cons (ev_var 13) (av_cons (ev_tuple B (EV.bv (EB.ev (ev_lcM [("_law_lap", 17)] rfl S.nd (iv_range1 (av_cons (EB.ev (ev_op opD_sub (ev_var 12) (ev_int))) av_nil) (len_cons len_nil) B.range) (blkOk_by (N := ["_law_box_here", "_law_net_so", "_law_bands_so", "_law_some", "_law_got", "_law_top_so", "_law_lots_so", "_law_paths_so", "_law_few_so", "_law_own", "_law_band_so", "_law_every_so", "_law_many_so", "_law_number_so", "_law_heard_so", "_law_bit", "_law_k", "_law_lap"]) (sc := defScope s_law_case_right) (by decide +kernel)) (fun _ _ _ _ _ => gv_name 17 S.nd) (fun _ _ _ _ _ => tts_nil) (fun _ _ _ _ _ => EB.ev (ev_fn C_law_take (hr.mono (by decide)) (av_cons (ev_var 0) (av_cons (ev_var 5) av_nil)) (len_cons (len_cons len_nil)))))))) (av_cons (ev_var 5) av_nil))) (len_cons (len_cons (len_cons len_nil))))))
      (svs_cons (sv_if (tv_not (tv_val (EV.bv (EB.ev (ev_fn C_law_same (hr.mono (by decide)) (av_cons (EB.ev (ev_lst (av_cons (EB.ev (ev_fn C_told_number (hr.mono (by decide)) (av_cons (ev_var 9) (av_cons (ev_var 5) av_nil)) (len_cons (len_cons len_nil)))) (av_cons (ev_len B (EV.bv (ev_var 9))) av_nil)))) (av_cons (EB.ev (ev_lst (av_cons (ev_var 13) (av_cons (ev_var 12) av_nil)))) av_nil)) (len_cons (len_cons len_nil))))))) (svs_one (sv_ret (EV.eb (ev_bl)))) (svs_nil))
      (svs_cons (sv_if (tv_cmpB (bop_ne hu) (EV.bv (EB.ev (ev_lcM [("_law_bit", 15)] rfl S.nd (iv_seq (ev_var 6)) (blkOk_by (N := ["_law_box_here", "_law_net_so", "_law_bands_so", "_law_some", "_law_got", "_law_top_so", "_law_lots_so", "_law_paths_so", "_law_few_so", "_law_own", "_law_band_so", "_law_every_so", "_law_many_so", "_law_number_so", "_law_heard_so", "_law_bit", "_law_k", "_law_lap"]) (sc := defScope s_law_case_right) (by decide +kernel)) (fun _ _ _ _ _ => gv_name 15 S.nd) (fun _ _ _ _ _ => tts_one (tv_cmpB (bop_nin hu) (EV.bv (ev_var 15)) (EV.bv (EB.ev (EV.eb (EB.frz (ev_fn C_routes (hr.mono (by decide)) (av_cons (ev_var 1) av_nil) (len_cons len_nil)))))) rfl)) (fun _ _ _ _ _ => ev_var 15)))) (EV.bv (EB.ev (ev_lst av_nil))) (nomark _)) (svs_one (sv_ret (EV.eb (ev_bl)))) (svs_nil))
      (svs_cons (sv_for PassesOwn.never rfl (iv_seq (ev_var 2)) (gv_name 10 S.nd) (svs_cons (sv_set 14 S.nd (ev_tuple B (EV.bv (EB.ev (ev_lcM [("_law_k", 16)] rfl S.nd (iv_seq (EB.ev (ev_fn C_heard_at (hr.mono (by decide)) (av_cons (ev_var 6) (av_cons (ev_var 10) av_nil)) (len_cons (len_cons len_nil))))) (blkOk_by (N := ["_law_box_here", "_law_net_so", "_law_bands_so", "_law_some", "_law_got", "_law_top_so", "_law_lots_so", "_law_paths_so", "_law_few_so", "_law_own", "_law_band_so", "_law_every_so", "_law_many_so", "_law_number_so", "_law_heard_so", "_law_bit", "_law_k", "_law_lap"]) (sc := defScope s_law_case_right) (by decide +kernel)) (fun _ _ _ _ _ => gv_name 16 S.nd) (fun _ _ _ _ _ => tts_nil) (fun _ _ _ _ _ => ev_tup (av_cons (ev_var 16) (av_cons (ev_ix (EV.bv (ev_var 9)) (EV.bv (ev_var 16))) av_nil))))))))
      (svs_cons (sv_if (tv_bool (wv_or (tv_cmpB (bop_ge hu) (EV.bv (ev_len B (EV.bv (ev_var 14)))) (EV.bv (ev_var 12)) (nomark _)) (wv_or1 (tv_cmpB (bop_isn) (EV.bv (EB.ev (ev_fn C_learned (hr.mono (by decide)) (av_cons (ev_var 5) (av_cons (ev_var 12) (av_cons (ev_var 14) av_nil))) (len_cons (len_cons (len_cons len_nil)))))) (EV.bv (ev_non)) (nomark _))))) (svs_one (sv_ret (EV.eb (ev_bl)))) (svs_nil))
      (svs_cons (SV.frzA 4 (sv_setLcM 4 [("_law_k", 16)] rfl S.nd (iv_seq (ev_tup (av_cons (ev_var 13) (av_cons (ev_int) (av_cons (EB.ev (ev_op opD_sub (ev_var 5) (ev_int))) av_nil))))) (blkOk_by (N := ["_law_box_here", "_law_net_so", "_law_bands_so", "_law_some", "_law_got", "_law_top_so", "_law_lots_so", "_law_paths_so", "_law_few_so", "_law_own", "_law_band_so", "_law_every_so", "_law_many_so", "_law_number_so", "_law_heard_so", "_law_bit", "_law_k", "_law_lap"]) (sc := defScope s_law_case_right) (by decide +kernel)) (fun _ _ _ _ _ => gv_name 16 S.nd) (fun _ _ _ _ _ => tts_nil) (fun _ _ _ _ _ => EB.ev (ev_fn C_how_many_shares (hr.mono (by decide)) (av_cons (ev_var 5) (av_cons (ev_var 12) (av_cons (ev_var 14) (av_cons (ev_var 16) av_nil)))) (len_cons (len_cons (len_cons (len_cons len_nil)))))) (sw_true rfl rfl rfl (by decide +kernel))))
      (svs_one (sv_if (tv_bool (wv_or (tv_not (tv_val (EV.bv (EB.ev (ev_fn C_law_same (hr.mono (by decide)) (av_cons (ev_var 4) (av_cons (EB.ev (ev_op opD_mul (EB.ev (ev_lst (av_cons (ev_ix (EV.bv (ev_var 4)) (EV.bv (ev_int))) av_nil))) (ev_int))) av_nil)) (len_cons (len_cons len_nil))))))) (wv_or1 (tv_cmpB (bop_lt hu) (EV.bv (ev_ix (EV.bv (ev_var 4)) (EV.bv (ev_int)))) (EV.bv (ev_int)) (nomark _))))) (svs_one (sv_ret (EV.eb (ev_bl)))) (svs_nil)))))))
      (svs_cons (sv_set 11 S.nd (ev_tuple B (EV.bv (EB.ev (ev_lcM [("_law_k", 16)] rfl S.nd (iv_range1 (av_cons (ev_var 12) av_nil) (len_cons len_nil) B.range) (blkOk_by (N := ["_law_box_here", "_law_net_so", "_law_bands_so", "_law_some", "_law_got", "_law_top_so", "_law_lots_so", "_law_paths_so", "_law_few_so", "_law_own", "_law_band_so", "_law_every_so", "_law_many_so", "_law_number_so", "_law_heard_so", "_law_bit", "_law_k", "_law_lap"]) (sc := defScope s_law_case_right) (by decide +kernel)) (fun _ _ _ _ _ => gv_name 16 S.nd) (fun _ _ _ _ _ => tts_nil) (fun _ _ _ _ _ => ev_tup (av_cons (ev_var 16) (av_cons (ev_ix (EV.bv (ev_var 9)) (EV.bv (ev_var 16))) av_nil))))))))
      (svs_one (sv_if (tv_cmpB (bop_ne hu) (EV.bv (EB.ev (ev_fn C_learned (hr.mono (by decide)) (av_cons (ev_var 5) (av_cons (ev_var 12) (av_cons (ev_var 11) av_nil))) (len_cons (len_cons (len_cons len_nil)))))) (EV.bv (ev_var 13)) (nomark _)) (svs_one (sv_ret (EV.eb (ev_bl)))) (svs_nil))))))))))
      (svs_one (sv_ret (EV.eb (ev_bl))))))))))))
def m_law_by_hand_right : List D → Mu → R D := fnC 9 ((sSeq (sAsg (cCall0 m_law_nets_by_hand) (gT 5 (gsCons (gN 1) (gsCons (gN 2) (gsCons (gN 3) (gsCons (gN 4) (gsCons (gN 5) gsNil)))))))
    (sSeq (sParN [6, 7] (cAll [(false, (cBox (cLst (aCons (cC (.int 0)) (aCons (cC (.int 5)) (aCons (cC (.int 0)) aNil)))))), (false, (cTup (aCons (cTup (aCons (cC (.int 1)) aNil)) (aCons (cTup (aCons (cC (.int 2)) aNil)) (aCons (cTup (aCons (cC (.int 3)) aNil)) aNil)))))]))
    (sSeq (sSet 0 (cLst (aCons (cTup (aCons (cVar 1) (aCons (cVar 7) aNil))) (aCons (cTup (aCons (cVar 1) (aCons (cTup (aCons (cTup (aCons (cC (.int 1)) (aCons (cC (.int 2)) aNil))) (aCons (cTup (aCons (cC (.int 3)) aNil)) aNil))) aNil))) (aCons (cTup (aCons (cVar 1) (aCons (cTup (aCons (cTup (aCons (cC (.int 1)) (aCons (cC (.int 2)) (aCons (cC (.int 3)) aNil)))) aNil)) aNil))) (aCons (cTup (aCons (cVar 2) (aCons (cTup (aCons (cTup (aCons (cC (.int 1)) aNil)) (aCons (cTup (aCons (cC (.int 2)) aNil)) aNil))) aNil))) aNil))))))
    (sSeq (sSet 0 (c2 addD (cVar 0) (cLst (aCons (cTup (aCons (cVar 3) (aCons (cTup (aCons (cTup aNil) (aCons (cTup (aCons (cC (.int 1)) aNil)) aNil))) aNil))) (aCons (cTup (aCons (cVar 4) (aCons (cTup (aCons (cTup aNil) (aCons (cTup (aCons (cC (.int 1)) aNil)) aNil))) aNil))) (aCons (cTup (aCons (cVar 5) (aCons (cTup (aCons (cTup aNil) aNil)) aNil))) aNil))))))
    (sRet (c1 allD (cLc (iSeq (cVar 0)) (gN 8) (fun _ m => .ok true m) (cCall m_law_case_right (aCons (cVar 6) (aCons (c2 ixD (cVar 8) (cC (.int 0))) (aCons (c2 ixD (cVar 8) (cC (.int 1))) aNil))))))))))))
abbrev s_law_by_hand_right : Stmt := topS 41
theorem S_law_by_hand_right : FnScope ["_law_rows_so", "_law_three_so", "_law_bridge_so", "_law_direct_so", "_law_none_so", "_law_two_so", "_law_box_here", "_law_single_so", "_law_own"] [] (defScope s_law_by_hand_right) := ⟨rfl, rfl, rfl, by decide +kernel, rfl, by decide +kernel, by decide +kernel⟩
theorem o_law_by_hand_right (B : Bn mg) (C_law_nets_by_hand : Fn P w K mg base CX0 "_law_nets_by_hand" 1 [] true m_law_nets_by_hand) (C_law_case_right : Fn P w K mg base CX0 "_law_case_right" 24 ["_law_box_here", "_law_net_so", "_law_bands_so"] false m_law_case_right) {fa : Addr} {fd : FuncData} (F : FnP K "_law_by_hand_right" s_law_by_hand_right fa fd) : FnOk P w K mg base CX0 25 fa fd [] (spD K mg false 0 m_law_by_hand_right) :=
  have S := S_law_by_hand_right
  fn_ok (k := 24) (n := 9) (f := false) (ω' := []) F S rfl rfl fun cdv A outer s H E M hr =>
    have hu : A.units + 3 + 64 < cLine := hr.units
    svs_cons (sv_asg (EB.ev (EV.eb (EB.frz (ev_fn0 C_law_nets_by_hand (hr.mono (by decide)))))) (gv_tup rfl (gvs_cons (gv_name 1 S.nd) (gvs_cons (gv_name 2 S.nd) (gvs_cons (gv_name 3 S.nd) (gvs_cons (gv_name 4 S.nd) (gvs_cons (gv_name 5 S.nd) (gvs_nil))))))))
      (svs_cons (sv_parN [6, 7] _ rfl rfl (pa_cons (EV.eb (ev_box (ev_lst (av_cons (ev_int) (av_cons (ev_int) (av_cons (ev_int) av_nil)))))) (pa_cons (EV.eb (ev_tup (av_cons (ev_tup (av_cons (ev_int) av_nil)) (av_cons (ev_tup (av_cons (ev_int) av_nil)) (av_cons (ev_tup (av_cons (ev_int) av_nil)) av_nil))))) pa_nil)) (pgs_cons (pg_name S.nd rfl (by first | exact Or.inl rfl | exact Or.inr rfl)) (pgs_cons (pg_name S.nd rfl (by first | exact Or.inl rfl | exact Or.inr rfl)) pgs_nil)))
      (svs_cons (sv_set 0 S.nd (EB.ev (ev_lst (av_cons (ev_tup (av_cons (ev_var 1) (av_cons (ev_var 7) av_nil))) (av_cons (ev_tup (av_cons (ev_var 1) (av_cons (ev_tup (av_cons (ev_tup (av_cons (ev_int) (av_cons (ev_int) av_nil))) (av_cons (ev_tup (av_cons (ev_int) av_nil)) av_nil))) av_nil))) (av_cons (ev_tup (av_cons (ev_var 1) (av_cons (ev_tup (av_cons (ev_tup (av_cons (ev_int) (av_cons (ev_int) (av_cons (ev_int) av_nil)))) av_nil)) av_nil))) (av_cons (ev_tup (av_cons (ev_var 2) (av_cons (ev_tup (av_cons (ev_tup (av_cons (ev_int) av_nil)) (av_cons (ev_tup (av_cons (ev_int) av_nil)) av_nil))) av_nil))) av_nil)))))))
      (svs_cons (sv_set 0 S.nd (EB.ev (ev_op opD_add (ev_var 0) (EB.ev (ev_lst (av_cons (ev_tup (av_cons (ev_var 3) (av_cons (ev_tup (av_cons (ev_tup av_nil) (av_cons (ev_tup (av_cons (ev_int) av_nil)) av_nil))) av_nil))) (av_cons (ev_tup (av_cons (ev_var 4) (av_cons (ev_tup (av_cons (ev_tup av_nil) (av_cons (ev_tup (av_cons (ev_int) av_nil)) av_nil))) av_nil))) (av_cons (ev_tup (av_cons (ev_var 5) (av_cons (ev_tup (av_cons (ev_tup av_nil) av_nil)) av_nil))) av_nil))))))))
      (svs_one (sv_ret (EV.eb (ev_all B rfl (EV.bv (EB.ev (ev_lcM [("_law_own", 8)] rfl S.nd (iv_seq (ev_var 0)) (blkOk_by (N := ["_law_rows_so", "_law_three_so", "_law_bridge_so", "_law_direct_so", "_law_none_so", "_law_two_so", "_law_box_here", "_law_single_so", "_law_own"]) (sc := defScope s_law_by_hand_right) (by decide +kernel)) (fun _ _ _ _ _ => gv_name 8 S.nd) (fun _ _ _ _ _ => tts_nil) (fun _ _ _ _ _ => EB.ev (ev_fn C_law_case_right (hr.mono (by decide)) (av_cons (ev_var 6) (av_cons (ev_ix (EV.bv (ev_var 8)) (EV.bv (ev_int))) (av_cons (ev_ix (EV.bv (ev_var 8)) (EV.bv (ev_int))) av_nil))) (len_cons (len_cons (len_cons len_nil)))))))))))))))
def m_law_right : List D → Mu → R D := fnC 2 ((sSeq (sFor (iRg (aCons (cC (.int 6)) aNil)) (gN 1)
    (sSeq (sSet 2 (cCall m_law_fan (aCons (cVar 0) (aCons (c2 addD (cC (.int 2)) (cCall m_law_take (aCons (cVar 0) (aCons (cC (.int 5)) aNil)))) (aCons (cC (.int 6)) aNil)))))
    (sIf (tNot' (tTru (cCall m_law_case_right (aCons (cVar 0) (aCons (cVar 2) (aCons (cCall m_law_bands (aCons (cVar 0) (aCons (cVar 2) (aCons (cC (.int 4)) (aCons (cC (.int 2)) aNil))))) aNil)))))) (sRet (cC (.bl false))) sNil)))
    (sRet (cC (.bl true)))))
abbrev s_law_right : Stmt := topS 42
theorem S_law_right : FnScope ["_law_box_here", "_law_turn", "_law_net_so"] ["_law_box_here"] (defScope s_law_right) := ⟨rfl, rfl, rfl, by decide +kernel, rfl, by decide +kernel, by decide +kernel⟩
theorem o_law_right (B : Bn mg) (C_law_fan : Fn P w K mg base CX0 "_law_fan" 2 ["_law_box_here", "_law_many_so", "_law_lines_so"] false m_law_fan) (C_law_take : Fn P w K mg base CX0 "_law_take" 1 ["_law_box_here", "_law_below_so"] false m_law_take) (C_law_case_right : Fn P w K mg base CX0 "_law_case_right" 24 ["_law_box_here", "_law_net_so", "_law_bands_so"] false m_law_case_right) (C_law_bands : Fn P w K mg base CX0 "_law_bands" 4 ["_law_box_here", "_law_net_so", "_law_many_so", "_law_most_so"] false m_law_bands) {fa : Addr} {fd : FuncData} (F : FnP K "_law_right" s_law_right fa fd) : FnOk P w K mg base CX0 25 fa fd ["_law_box_here"] (spD K mg false 1 m_law_right) :=
  have S := S_law_right
  fn_ok (k := 24) (n := 2) (f := false) (ω' := []) F S rfl rfl fun cdv A outer s H E M hr =>
    have hu : A.units + 3 + 64 < cLine := hr.units
    svs_cons (sv_for PassesOwn.never rfl (iv_range1 (av_cons (ev_int) av_nil) (len_cons len_nil) B.range) (gv_name 1 S.nd) (svs_cons (sv_set 2 S.nd (EB.ev (ev_fn C_law_fan (hr.mono (by decide)) (av_cons (ev_var 0) (av_cons (EB.ev (ev_op opD_add (ev_int) (EB.ev (ev_fn C_law_take (hr.mono (by decide)) (av_cons (ev_var 0) (av_cons (ev_int) av_nil)) (len_cons (len_cons len_nil)))))) (av_cons (ev_int) av_nil))) (len_cons (len_cons (len_cons len_nil))))))
      (svs_one (sv_if (tv_not (tv_val (EV.bv (EB.ev (ev_fn C_law_case_right (hr.mono (by decide)) (av_cons (ev_var 0) (av_cons (ev_var 2) (av_cons (EB.ev (ev_fn C_law_bands (hr.mono (by decide)) (av_cons (ev_var 0) (av_cons (ev_var 2) (av_cons (ev_int) (av_cons (ev_int) av_nil)))) (len_cons (len_cons (len_cons (len_cons len_nil)))))) av_nil))) (len_cons (len_cons (len_cons len_nil)))))))) (svs_one (sv_ret (EV.eb (ev_bl)))) (svs_nil)))))
      (svs_one (sv_ret (EV.eb (ev_bl))))
def m_law : List D → Mu → R D := fnC 2 ((sSeq (sIf (tNot' (tTru (cCall0 m_law_by_hand_right))) (sRet (cC (.bl false))) sNil)
    (sSeq (sSet 1 (cCall m_law_cells (aCons (cVar 0) (aCons (cC (.int 3)) aNil))))
    (sRet (c1 allD (cLc (iRg (aCons (c1 lenD (cVar 1)) aNil)) (gN 2) (fun _ m => .ok true m) (cCall m_law_right (aCons (cBox (cCall m_law_box (aCons (cVar 1) (aCons (cVar 2) aNil)))) aNil))))))))
abbrev s_law : Stmt := topS 43
theorem S_law : FnScope ["_law_script", "_law_cells_here", "_law_k"] ["_law_script"] (defScope s_law) := ⟨rfl, rfl, rfl, by decide +kernel, rfl, by decide +kernel, by decide +kernel⟩
theorem o_law (B : Bn mg) (C_law_by_hand_right : Fn P w K mg base CX0 "_law_by_hand_right" 25 [] false m_law_by_hand_right) (C_law_cells : Fn P w K mg base CX0 "_law_cells" 1 ["_law_script", "_law_most_so"] true m_law_cells) (C_law_right : Fn P w K mg base CX0 "_law_right" 25 ["_law_box_here"] false m_law_right) (C_law_box : Fn P w K mg base CX0 "_law_box" 1 ["_law_script", "_law_k"] true m_law_box) {fa : Addr} {fd : FuncData} (F : FnP K "law" s_law fa fd) : FnOk P w K mg base CX0 26 fa fd ["_law_script"] (spD K mg false 1 m_law) :=
  have S := S_law
  fn_ok (k := 25) (n := 2) (f := false) (ω' := []) F S rfl rfl fun cdv A outer s H E M hr =>
    have hu : A.units + 3 + 64 < cLine := hr.units
    svs_cons (sv_if (tv_not (tv_val (EV.bv (EB.ev (ev_fn0 C_law_by_hand_right (hr.mono (by decide))))))) (svs_one (sv_ret (EV.eb (ev_bl)))) (svs_nil))
      (svs_cons (sv_set 1 S.nd (EB.ev (EV.eb (EB.frz (ev_fn C_law_cells (hr.mono (by decide)) (av_cons (ev_var 0) (av_cons (ev_int) av_nil)) (len_cons (len_cons len_nil)))))))
      (svs_one (sv_ret (EV.eb (ev_all B rfl (EV.bv (EB.ev (ev_lcM [("_law_k", 2)] rfl S.nd (iv_range1 (av_cons (ev_len B (EV.bv (ev_var 1))) av_nil) (len_cons len_nil) B.range) (blkOk_by (N := ["_law_script", "_law_cells_here", "_law_k"]) (sc := defScope s_law) (by decide +kernel)) (fun _ _ _ _ _ => gv_name 2 S.nd) (fun _ _ _ _ _ => tts_nil) (fun _ _ _ _ _ => EB.ev (ev_fn C_law_right (hr.mono (by decide)) (av_cons (ev_box (ev_fn C_law_box (hr.mono (by decide)) (av_cons (ev_var 1) (av_cons (ev_var 2) av_nil)) (len_cons (len_cons len_nil)))) av_nil) (len_cons len_nil)))))))))))
end
end Lw
end
section
set_option Elab.async false
set_option linter.all false
set_option maxRecDepth 100000
set_option maxHeartbeats 4000000
namespace Lw
open PySem L2 PySem.W Pv
def d_is_number : He.DefD := ⟨("is_number", none), "is_number", "is_number", defArgs s_is_number, defBody s_is_number, defScope s_is_number, [], []⟩
def d_tupled : He.DefD := ⟨("tupled", none), "tupled", "tupled", defArgs s_tupled, defBody s_tupled, defScope s_tupled, [], []⟩
def d_rises : He.DefD := ⟨("rises", none), "rises", "rises", defArgs s_rises, defBody s_rises, defScope s_rises, [], []⟩
def d_behind_of : He.DefD := ⟨("behind_of", none), "behind_of", "behind_of", defArgs s_behind_of, defBody s_behind_of, defScope s_behind_of, [], []⟩
def d_is_route : He.DefD := ⟨("is_route", none), "is_route", "is_route", defArgs s_is_route, defBody s_is_route, defScope s_is_route, [], []⟩
def d_is_past : He.DefD := ⟨("is_past", none), "is_past", "is_past", defArgs s_is_past, defBody s_is_past, defScope s_is_past, [], []⟩
def d_routes_past : He.DefD := ⟨("routes_past", none), "routes_past", "routes_past", defArgs s_routes_past, defBody s_routes_past, defScope s_routes_past, [], []⟩
def d_routes : He.DefD := ⟨("routes", none), "routes", "routes", defArgs s_routes, defBody s_routes, defScope s_routes, [], []⟩
def d_a_route_past : He.DefD := ⟨("a_route_past", none), "a_route_past", "a_route_past", defArgs s_a_route_past, defBody s_a_route_past, defScope s_a_route_past, [], []⟩
def d_meets : He.DefD := ⟨("meets", none), "meets", "meets", defArgs s_meets, defBody s_meets, defScope s_meets, [], []⟩
def d_ear_band : He.DefD := ⟨("ear_band", none), "ear_band", "ear_band", defArgs s_ear_band, defBody s_ear_band, defScope s_ear_band, [], []⟩
def d_unheard : He.DefD := ⟨("unheard", none), "unheard", "unheard", defArgs s_unheard, defBody s_unheard, defScope s_unheard, [], []⟩
def d_check_ears : He.DefD := ⟨("check_ears", none), "check_ears", "check_ears", defArgs s_check_ears, defBody s_check_ears, defScope s_check_ears, [], []⟩
def d_share_routes : He.DefD := ⟨("share_routes", none), "share_routes", "share_routes", defArgs s_share_routes, defBody s_share_routes, defScope s_share_routes, [], []⟩
def d_is_share_routes : He.DefD := ⟨("is_share_routes", none), "is_share_routes", "is_share_routes", defArgs s_is_share_routes, defBody s_is_share_routes, defScope s_is_share_routes, [], []⟩
def d_heard_at : He.DefD := ⟨("heard_at", none), "heard_at", "heard_at", defArgs s_heard_at, defBody s_heard_at, defScope s_heard_at, [], []⟩
def d_few_routes : He.DefD := ⟨("few_routes", none), "few_routes", "few_routes", defArgs s_few_routes, defBody s_few_routes, defScope s_few_routes, [], []⟩
def d_how_few_routes : He.DefD := ⟨("how_few_routes", none), "how_few_routes", "how_few_routes", defArgs s_how_few_routes, defBody s_how_few_routes, defScope s_how_few_routes, [], []⟩
def d_is_few_routes : He.DefD := ⟨("is_few_routes", none), "is_few_routes", "is_few_routes", defArgs s_is_few_routes, defBody s_is_few_routes, defScope s_is_few_routes, [], []⟩
def d_told_number : He.DefD := ⟨("told_number", none), "told_number", "told_number", defArgs s_told_number, defBody s_told_number, defScope s_told_number, [], []⟩
def d_shares_of : He.DefD := ⟨("shares_of", none), "shares_of", "shares_of", defArgs s_shares_of, defBody s_shares_of, defScope s_shares_of, [], []⟩
def d_how_many_shares : He.DefD := ⟨("how_many_shares", none), "how_many_shares", "how_many_shares", defArgs s_how_many_shares, defBody s_how_many_shares, defScope s_how_many_shares, [], []⟩
def d_learned : He.DefD := ⟨("learned", none), "learned", "learned", defArgs s_learned, defBody s_learned, defScope s_learned, [], []⟩
def d_law_box : He.DefD := ⟨("_law_box", none), "_law_box", "_law_box", defArgs s_law_box, defBody s_law_box, defScope s_law_box, [], []⟩
def d_law_take : He.DefD := ⟨("_law_take", none), "_law_take", "_law_take", defArgs s_law_take, defBody s_law_take, defScope s_law_take, [], []⟩
def d_law_cells : He.DefD := ⟨("_law_cells", none), "_law_cells", "_law_cells", defArgs s_law_cells, defBody s_law_cells, defScope s_law_cells, [], []⟩
def d_law_same : He.DefD := ⟨("_law_same", none), "_law_same", "_law_same", defArgs s_law_same, defBody s_law_same, defScope s_law_same, [], []⟩
def d_law_mixed : He.DefD := ⟨("_law_mixed", none), "_law_mixed", "_law_mixed", defArgs s_law_mixed, defBody s_law_mixed, defScope s_law_mixed, [], []⟩
def d_law_band : He.DefD := ⟨("_law_band", none), "_law_band", "_law_band", defArgs s_law_band, defBody s_law_band, defScope s_law_band, [], []⟩
def d_law_bands : He.DefD := ⟨("_law_bands", none), "_law_bands", "_law_bands", defArgs s_law_bands, defBody s_law_bands, defScope s_law_bands, [], []⟩
def d_law_fan : He.DefD := ⟨("_law_fan", none), "_law_fan", "_law_fan", defArgs s_law_fan, defBody s_law_fan, defScope s_law_fan, [], []⟩
def d_law_nets_by_hand : He.DefD := ⟨("_law_nets_by_hand", none), "_law_nets_by_hand", "_law_nets_by_hand", defArgs s_law_nets_by_hand, defBody s_law_nets_by_hand, defScope s_law_nets_by_hand, [], []⟩
def d_law_case_right : He.DefD := ⟨("_law_case_right", none), "_law_case_right", "_law_case_right", defArgs s_law_case_right, defBody s_law_case_right, defScope s_law_case_right, [], []⟩
def d_law_by_hand_right : He.DefD := ⟨("_law_by_hand_right", none), "_law_by_hand_right", "_law_by_hand_right", defArgs s_law_by_hand_right, defBody s_law_by_hand_right, defScope s_law_by_hand_right, [], []⟩
def d_law_right : He.DefD := ⟨("_law_right", none), "_law_right", "_law_right", defArgs s_law_right, defBody s_law_right, defScope s_law_right, [], []⟩
def d_law : He.DefD := ⟨("law", none), "law", "law", defArgs s_law, defBody s_law, defScope s_law, [], []⟩
def fn : List He.DefD := [d_is_number, d_tupled, d_rises, d_behind_of, d_is_route, d_is_past, d_routes_past, d_routes, d_a_route_past, d_meets, d_ear_band, d_unheard, d_check_ears, d_share_routes, d_is_share_routes, d_heard_at, d_few_routes, d_how_few_routes, d_is_few_routes, d_told_number, d_shares_of, d_how_many_shares, d_learned, d_law_box, d_law_take, d_law_cells, d_law_same, d_law_mixed, d_law_band, d_law_bands, d_law_fan, d_law_nets_by_hand, d_law_case_right, d_law_by_hand_right, d_law_right, d_law]
def ck : List Ck := [fun K => xc0B K "Unfit"]
def fa : List He.Fa := [.glo "is_number", .glo "tupled", .glo "rises", .glo "behind_of", .glo "is_route", .glo "is_past", .glo "routes_past", .glo "routes", .glo "a_route_past", .glo "meets", .glo "ear_band", .glo "unheard", .glo "check_ears", .glo "share_routes", .glo "is_share_routes", .glo "heard_at", .glo "few_routes", .glo "how_few_routes", .glo "is_few_routes", .glo "told_number", .glo "shares_of", .glo "how_many_shares", .glo "learned", .glo "_law_box", .glo "_law_take", .glo "_law_cells", .glo "_law_same", .glo "_law_mixed", .glo "_law_band", .glo "_law_bands", .glo "_law_fan", .glo "_law_nets_by_hand", .glo "_law_case_right", .glo "_law_by_hand_right", .glo "_law_right", .glo "law", .free "len", .free "range", .free "tuple", .free "list", .free "all", .free "any", .free "sum", .free "int", .free "abs", .free "isinstance", .free "sorted", .free "set", .free "zip", .free "enumerate", .free "bool", .free "str", .free "min", .free "max", .free "dict", .int "PAIR" 2, .glo "Unfit", .free "super"]
abbrev R0 : PySem.W.OpenRow := PySem.W.OpenLaw.row PySem.Challenge.rw_surelyposted_k67_whole_nobody_hears
abbrev hk : PySem.W.Hook := hookX 4 fa fn ck
def ob (s : PySem.W.SharedT) : He.AlD := obsXG 4 fa fn ck (HandSHeadRun.getT s)
theorem ob_eq (s : PySem.W.SharedT) : ob s = hk.obs s.abs := obsXG_eq (HandSHeadRun.getT_eq s)
def loose0 : List Str := ["is_number", "tupled", "rises", "behind_of", "is_route", "is_past", "routes_past", "routes", "a_route_past", "meets", "ear_band", "unheard", "check_ears", "share_routes", "is_share_routes", "heard_at", "few_routes", "how_few_routes", "is_few_routes", "told_number", "shares_of", "how_many_shares", "learned", "_law_box", "_law_take", "_law_cells", "_law_same", "_law_mixed"]
def loose1 : List Str := ["_law_band", "_law_bands", "_law_fan", "_law_nets_by_hand", "_law_case_right", "_law_by_hand_right", "_law_right", "PAIR", "Unfit"]
abbrev loose : List Str := loose0 ++ loose1
theorem run (w : World) : HandSHeadRun.RunEq R0 (PySem.W.view R0.prog [43]) hk ob 2160 loose w := by
  intro os
  kernel_rfl
end Lw
end
section
set_option linter.all false
set_option maxRecDepth 100000
namespace Lw
open PySem L2 PySem.W Pv Rt
theorem at3_0 {α : Type} {a b c : α} : atI [a, b, c] 0 = some a := (rfl)
theorem at3_1 {α : Type} {a b c : α} : atI [a, b, c] 1 = some b := (rfl)
theorem at3_2 {α : Type} {a b c : α} : atI [a, b, c] 2 = some c := (rfl)
theorem take_ok {t n : Nat} {m : Mu} {k : Int} (h : Bx (t + 1) n m) (hk : 0 < k) (hk' : k ≤ 1000000000000000000000000000000000000000000000000000000000000) : WR (m_law_take [.box n, .int k] m) fun d m' => ∃ r, d = .int r ∧ 0 ≤ r ∧ r < k ∧ Bx t n m' ∧ m'.length = m.length := by
  obtain ⟨a, b, c, hm, ha, hb, hc, ht⟩ := h
  have hn : n < m.length := by
    rcases Nat.lt_or_ge n m.length with z | z
    · exact z
    · rw [List.getElem?_eq_none z] at hm; cases hm
  have mo : mulOk (b + 48271 * (c + 1)) (39373 + (c + 1)) = true := mulOk_r (by omega) (by omega)
  have mc' : mulOk 48271 (c + 1) = true := mulOk_l (by omega) (by omega)
  have hq : (b + 48271 * (c + 1)) * (39373 + (c + 1)) % 2147483647 % 40009 < 40009 := Int.emod_lt_of_pos _ (by decide)
  have hq0 : 0 ≤ (b + 48271 * (c + 1)) * (39373 + (c + 1)) % 2147483647 % 40009 := Int.emod_nonneg _ (by decide)
  have hr := fun z => Int.emod_lt_of_pos z hk
  have hm2 : m[n] = [.int a, .int b, .int c] := by rw [List.getElem?_eq_getElem hn] at hm; exact Option.some.inj hm
  have hr' := fun z => Int.emod_nonneg z (Int.ne_of_gt hk)
  have lg := log2_lt (Int.le_of_lt hk) hk'
  have m3 : ∀ z, mulOk z ((b + 48271 * (c + 1)) * (39373 + (c + 1)) % 2147483647 % 40009 + 7) = true := fun z => mulOk_r (by omega) (by omega)
  have m4 : ∀ z, mulOk z 48271 = true := fun z => mulOk_r (by omega) (by omega)
  by_cases h0 : 0 < a
  · simp [m_law_take, hm, hm2, at3_0, at3_1, at3_2, h0, ixN, hk, hn, lg, Bx]
    exact ⟨hr' a, hr a, _, _, _, ⟨rfl, rfl, rfl⟩, Int.ediv_nonneg ha (Int.le_of_lt hk), hb, hc, by omega⟩
  · simp [m_law_take, hm, hm2, at3_0, at3_1, at3_2, h0, ixN, hk, hn, lg, Bx, mo, mc', m3, m4]
    exact ⟨by decide +kernel, by decide +kernel, hr' _, hr _, _, _, _, ⟨rfl, rfl, rfl⟩, ha, hb, by omega, by omega⟩
/-- plain data, of depth at most n, no row too long -/
inductive Sm : Nat → D → Prop
  | non {n : Nat} : Sm n .non
  | bl {n : Nat} {b : Bool} : Sm n (.bl b)
  | int {n : Nat} {i : Int} : Sm n (.int i)
  | str {n : Nat} {x : Str} : Sm n (.str x)
  | lst {n : Nat} {xs : List D} (h : ∀ x ∈ xs, Sm n x) (hl : xs.length ≤ 16777216) : Sm (n + 1) (.lst xs)
  | tup {n : Nat} {xs : List D} (h : ∀ x ∈ xs, Sm n x) (hl : xs.length ≤ 16777216) : Sm (n + 1) (.tup xs)
theorem same_zip {m : Mu} {ct : GC} {tt : TC} {ce : EC} {Γ : Gam} {xs : List D} (hs : ∀ x ∈ xs, WO (ct (.tup [x, x]) Γ) fun Γ1 => WR (tt Γ1 m) fun k m1 => k = true ∧ m1 = m ∧ WR (ce Γ1 m) fun y m2 => y = .bl true ∧ m2 = m) :
    WR (lcGo ct tt ce Γ (zipI xs xs) m) fun ys m' => ys = xs.map (fun _ => .bl true) ∧ m' = m := by
  refine wr_lcGo (fun ds acc m' => ∃ l r, xs = l ++ r ∧ ds = zipI r r ∧ acc = l.map (fun _ => .bl true) ∧ m' = m) ?_ _ [] m ⟨[], xs, rfl, rfl, rfl, rfl⟩ ?_
  · rintro d ds acc m' ⟨l, r, hx, hd, ha, rfl⟩
    cases r with
    | nil => cases hd
    | cons y r =>
      rw [zipI] at hd
      cases hd
      refine (hs y (by rw [hx]; simp)).mono fun Γ1 h1 => h1.mono fun k m1 ⟨hk, hm, h2⟩ => ?_
      subst hk hm
      rw [if_pos rfl]
      refine h2.mono fun z m2 ⟨hz, hm⟩ => ?_
      exact ⟨l ++ [y], r, by simp [hx], rfl, by simp [ha, hz], hm⟩
  · rintro ys m' ⟨l, r, hx, hd, ha, rfl⟩
    cases r with
    | nil => simp at hx ha; subst hx; exact ⟨ha, rfl⟩
    | cons y r => rw [zipI] at hd; cases hd
theorem all_true {xs : List D} : blsOf (xs.map fun _ => .bl true) = some (xs.map fun _ => true) := by
  induction xs with
  | nil => rfl
  | cons a as ih => rw [List.map_cons, blsOf, ih]; rfl
theorem zipI_len (xs : List D) : (zipI xs xs).length = xs.length := by rw [zipI_length, Nat.min_self]
theorem wo_all_true {m : Mu} {xs : List D} {Q : D → Prop} : WO (allD m (.lst (xs.map fun _ => .bl true))) Q = Q (.bl true) := by
  show WO (Option.map (fun bs => D.bl (bs.all id)) (blsOf (xs.map fun _ => .bl true))) Q = _
  rw [all_true, Option.map_some, wo_some]
  congr; induction xs <;> simp_all
theorem same_ok (m : Mu) : ∀ (n : Nat) (d : D), Sm n d → WR (m_law_same (n + 1) [d, d] m) fun r m' => r = .bl true ∧ m' = m := by
  intro n
  induction n with
  | zero =>
    intro d h
    cases h <;> simp [m_law_same, isi2D, isiD, isi, isNone, eqD, D.pl, D.eqv, notD, truD]
  | succ n ih =>
    intro d h
    cases h with
    | non | bl | int | str => simp [m_law_same, isi2D, isiD, isi, isNone, eqD, D.pl, D.eqv, notD, truD]
    | lst h hl =>
      rw [m_law_same]
      simp [isi2D, isiD, isi, isNone, szOk_of, zipI_len, hl]
      refine (same_zip fun x hx => ?_).mono ?_
      · simp [gT, gsCons, gsNil, gN]
        exact ih x (h x hx)
      · rintro ys m' ⟨rfl, rfl⟩
        rw [wo_all_true]; exact ⟨rfl, rfl⟩
    | tup h hl =>
      rw [m_law_same]
      simp [isi2D, isiD, isi, isNone, szOk_of, zipI_len, hl]
      refine (same_zip fun x hx => ?_).mono ?_
      · simp [gT, gsCons, gsNil, gN]
        exact ih x (h x hx)
      · rintro ys m' ⟨rfl, rfl⟩
        rw [wo_all_true]; exact ⟨rfl, rfl⟩
theorem box_ok {m : Mu} {cs : List Int} {k : Int} (h0 : 0 ≤ k) (h1 : k < cs.length) : WR (m_law_box [.lst (cs.map .int), .int k] m) fun d m' => ∃ a b : Int, d = .lst [.int a, .int b, .int 0] ∧ 0 ≤ a ∧ 0 ≤ b ∧ m' = m := by
  obtain ⟨c, hc, _, hg⟩ := atI_nat h0 h1
  have ha : atI (cs.map D.int) k = some (.int c) := by
    unfold atI at hc ⊢; rw [List.length_map]
    cases hx : ixN cs.length k with
    | none => rw [hx] at hc; cases hc
    | some j => rw [hx] at hc; have hc : cs[j]? = some c := hc; show (cs.map D.int)[j]? = _; rw [List.getElem?_map, hc]; rfl
  have mb : ∀ z (b : Bool), mulOk z (if b = true then 1 else 0) = true := fun z b => mulOk_r (by cases b <;> decide) (by cases b <;> decide)
  have mb2 : ∀ z (b : Prop) [Decidable b], mulOk z (if b then 1 else 0) = true := fun z b _ => mulOk_r (by split <;> decide) (by split <;> decide)
  have mk : ∀ z, mulOk 39373 z = true := fun z => mulOk_l (by decide) (by decide)
  have hp : 0 ≤ c % 2305843009213693951 := Int.emod_nonneg _ (by decide)
  simp [m_law_box, ha, h1, mb, mb2, mk, szOk_of]
  refine ⟨by decide +kernel, _, _, ⟨rfl, rfl⟩, ?_, ?_⟩
  · split <;> split <;> simp <;> omega
  · omega
theorem cutG_lo {ns : List Int} {p : Nat} : cutG ns none (some (p : Int)) = ns.take p := by
  unfold cutG; rw [HT.sIx_none, HT.sIx_nat, List.drop_zero, Nat.sub_zero]
  rcases Nat.le_total p ns.length with h | h
  · rw [Nat.min_eq_left h]
  · rw [Nat.min_eq_right h, List.take_of_length_le (Nat.le_refl _), List.take_of_length_le h]
theorem cutG_hi {ns : List Int} {p q : Nat} : cutG ns (some (p : Int)) (some (q : Int)) = (ns.drop p).take (min q ns.length - min p ns.length) := by
  unfold cutG; rw [HT.sIx_nat, HT.sIx_nat]
  rcases Nat.le_total p ns.length with h | h
  · rw [Nat.min_eq_left h]
  · rw [Nat.min_eq_right h, List.drop_of_length_le (Nat.le_refl _), List.drop_of_length_le h]
theorem cutG_63 {ns : List Int} {p : Nat} : cutG ns (some (p : Int)) (some 63) = (ns.drop p).take (min 63 ns.length - min p ns.length) := cutG_hi (q := 63)
theorem cells_ok {m : Mu} {ns : List Int} {p : Nat} (hp : 0 < p) (hp' : p ≤ 63) : WR (m_law_cells [.scr ns, .int p] m) fun d m' => ∃ cs : List Int, d = .lst (cs.map .int) ∧ 0 < cs.length ∧ cs.length ≤ p ∧ m' = m := by
  have key : ∀ cs : List Int, 0 < cs.length → cs.length ≤ p → (p < ns.length → cs.length = p) → WS (loopS (gT 2 (gsCons (gN 3) (gsCons (gN 4) gsNil))) (sSeq (sSet 5 (c2 modD (c1 intD (cVar 3)) (cVar 1)))
    (sPut 2 (c2 addD (c2 ixD (cVar 2) (cVar 5)) (c2 mulD (cVar 4) (c2 addD (cVar 3) (cC (.int 2))))) (cVar 5))) (enumI 0 (((ns.drop p).take (min 63 ns.length - min p ns.length)).map D.int)) [.scr ns, .int p, .lst (cs.map .int), .non, .non, .non] m)
    (fun Γ m' => ∃ cs : List Int, Γ.getD 2 .non = .lst (cs.map .int) ∧ 0 < cs.length ∧ cs.length ≤ p ∧ m' = m) (fun _ _ => False) := by
    intro cs h0 h1 h2
    refine ws_loop (fun ds Γ m' => ∃ (cs : List Int) (x y z : D) (k : Nat) (is : List Int), ds = enumI k (is.map .int) ∧ Γ = [.scr ns, .int p, .lst (cs.map .int), x, y, z] ∧ 0 < cs.length ∧ cs.length ≤ p ∧ (is ≠ [] → cs.length = p) ∧ k + is.length ≤ 63 ∧ m' = m) ?_ ?_ _ _ _ ⟨cs, _, _, _, 0, _, rfl, rfl, h0, h1, ?_, ?_, rfl⟩
    · rintro d ds Γ m' ⟨cs, x, y, z, k, is, hd, rfl, h0, h1, h2, h3, rfl⟩
      cases is with
      | nil => cases hd
      | cons i is =>
        rw [List.map_cons, enumI] at hd
        cases hd
        have hl := h2 (by simp)
        have hk0 : 0 ≤ (k : Int) % p := Int.emod_nonneg _ (by omega)
        have hk1 : (k : Int) % p < cs.length := by rw [hl]; exact Int.emod_lt_of_pos _ (by omega)
        obtain ⟨c, hc, _, hg⟩ := atI_nat hk0 hk1
        have ha : atI (cs.map D.int) ((k : Int) % p) = some (.int c) := by
          unfold atI at hc ⊢; rw [List.length_map]
          cases hx : ixN cs.length ((k : Int) % p) with
          | none => rw [hx] at hc; cases hc
          | some j => rw [hx] at hc; have hc : cs[j]? = some c := hc; show (cs.map D.int)[j]? = _; rw [List.getElem?_map, hc]; rfl
        have hx : ixN cs.length ((k : Int) % p) = some ((k : Int) % p).toNat := by unfold ixN; rw [if_pos hk0, if_pos hk1]
        have mk : mulOk i ((k : Int) + 2) = true := mulOk_r (by omega) (by simp at h3; omega)
        have hp0 : (0 : Int) < p := by omega
        simp [gT, gsCons, gsNil, gN, ha, hx, hp0, mk, hp]
        simp at h3
        exact ⟨cs.set ((k : Int) % p).toNat (c + i * (k + 2)), _, _, _, k + 1, is, rfl, ⟨by rw [List.map_set], rfl, rfl, rfl⟩, by simpa using h0, by simpa using h1, fun _ => by simpa using hl, by omega⟩
    · rintro Γ m' ⟨cs, x, y, z, k, is, hd, rfl, h0, h1, h2, h3, rfl⟩
      exact ⟨cs, rfl, h0, h1, rfl⟩
    · intro hne
      apply h2
      rcases Nat.lt_or_ge p ns.length with z | z
      · exact z
      · exact (hne (by rw [List.drop_of_length_le z]; simp)).elim
    · simp; omega
  unfold m_law_cells
  by_cases hn : ns = []
  · subst hn
    have := key [0] (by simp) (by simp; omega) (by simp)
    simp [cutG_lo, szOk_of, cutG_63] at this ⊢
    refine this.mono ?_ (fun _ _ h => h.elim)
    rintro Γ m' ⟨cs, hc, h0, h1, rfl⟩
    exact ⟨cs, hc, h0, h1, rfl⟩
  · have hl : 0 < ns.length := List.length_pos_iff.mpr hn
    have := key (ns.take p) (by simp; omega) (by simp; omega) (by simp; omega)
    have hz : (List.map D.int (ns.take p)).isEmpty = false := by
      cases hh : ns.take p with
      | nil => have := congrArg List.length hh; rw [List.length_take, List.length_nil] at this; omega
      | cons a b => rfl
    have hz2 : ¬ (p = 0 ∨ ns = []) := by rintro (h | h) <;> simp_all
    have hz3 : ¬ (ns.take p = []) := by intro h; have := congrArg List.length h; rw [List.length_take, List.length_nil] at this; omega
    simp [cutG_lo, szOk_of, cutG_63, hz, hz2, hz3] at this ⊢
    refine this.mono ?_ (fun _ _ h => h.elim)
    rintro Γ m' ⟨cs, hc, h0, h1, rfl⟩
    exact ⟨cs, hc, h0, h1, rfl⟩
theorem rg1_ok {z : Int} (h : 0 ≤ z) (h' : z < 4611686018427387904) : rg2 [.int z] = some (rangeI 0 z.toNat) := by
  show (if rgOk 0 z = true then some (rangeI 0 z.toNat) else none) = _
  rw [if_pos]
  simp only [rgOk, Bool.and_eq_true, decide_eq_true_eq]
  omega
theorem cutG_upto {α : Type} {xs : List α} {p : Int} (h : 0 ≤ p) (h' : p ≤ xs.length) : cutG xs none (some p) = xs.take p.toNat := by
  obtain ⟨k, rfl⟩ : ∃ k : Nat, p = k := ⟨p.toNat, by omega⟩
  unfold cutG; rw [HT.sIx_none, HT.sIx_nat, List.drop_zero, Nat.sub_zero, Nat.min_eq_left (by omega)]; rfl
theorem cutG_from {α : Type} {xs : List α} {p : Int} (h : 0 ≤ p) (h' : p ≤ xs.length) : cutG xs (some p) none = xs.drop p.toNat := by
  obtain ⟨k, rfl⟩ : ∃ k : Nat, p = k := ⟨p.toNat, by omega⟩
  unfold cutG; rw [HT.sIx_none, HT.sIx_nat, Nat.min_eq_left (by omega), List.take_of_length_le (by simp)]; rfl
theorem mixed_ok {t n : Nat} {m : Mu} {xs : List D} (h : Bx (t + xs.length) n m) (hl : xs.length ≤ 1000) : WR (m_law_mixed [.box n, .lst xs] m) fun d m' => ∃ ys : List D, d = .lst ys ∧ ys.Perm xs ∧ Bx t n m' ∧ m'.length = m.length := by
  unfold m_law_mixed
  simp only [wr_fnF, ws_seq, ws_par, ws_for, wr_irg, wr_acons, wr_anil, wr_c1, wr_var, wr_lst, List.replicate, List.cons_append, List.nil_append, List.getD_cons_zero, List.getD_cons_succ, wo_list_l, List.length_nil, show szOk 0 = true from rfl, if_true, List.set_cons_zero, List.set_cons_succ, wo_len_l, rg1_ok (z := xs.length) (by omega) (by omega), wo_some, Int.toNat_natCast]
  refine ws_loop (fun ds Γ m' => ∃ (rs ys : List D) (x y : D), Γ = [.box n, .lst xs, x, .lst rs, .lst ys, y] ∧ (ys ++ rs).Perm xs ∧ rs.length = ds.length ∧ Bx (t + ds.length) n m' ∧ m'.length = m.length) ?_ ?_ _ _ _ ⟨xs, [], _, _, rfl, .refl _, by rw [rangeI_length], by rw [rangeI_length]; exact h, rfl⟩
  · rintro d ds Γ m' ⟨rs, ys, x, y, rfl, hp, hr, hb, hm⟩
    have hr' : rs.length = ds.length + 1 := by simpa using hr
    have hlen := hp.length_eq
    simp at hlen
    simp
    refine (take_ok (t := t + ds.length) (k := rs.length) (hb.mono (by simp; omega)) (by omega) (by omega)).mono ?_
    rintro z m2 ⟨r, rfl, h0, h1, hb2, hm2⟩
    obtain ⟨a, ea, hmem, hget⟩ := atI_nat h0 h1
    have hlt : r.toNat < rs.length := by omega
    have hsz : szOk (ys.length + 1) = true := szOk_of (by omega)
    simp [ea, hsz, cutG_upto h0 (Int.le_of_lt h1), cutG_from (show 0 ≤ r + 1 by omega) (show r + 1 ≤ rs.length by omega)]
    have e2 : (r + 1).toNat = r.toNat + 1 := by omega
    rw [e2]
    refine ⟨szOk_of (by omega), _, _, ⟨rfl, rfl⟩, ?_, by simp; omega, hb2, by omega⟩
    rw [List.append_assoc]
    have : rs = rs.take r.toNat ++ a :: rs.drop (r.toNat + 1) := by
      rw [List.getElem?_eq_getElem hlt] at hget
      cases hget
      rw [List.getElem_cons_drop, List.take_append_drop]
    refine List.Perm.trans ?_ hp
    conv => rhs; rw [this]
    refine List.Perm.append_left ys ?_
    exact (List.perm_middle (l₁ := rs.take r.toNat)).symm
  · rintro Γ m' ⟨rs, ys, x, y, rfl, hp, hr, hb, hm⟩
    have : rs = [] := List.length_eq_zero_iff.mp (by simpa using hr)
    subst this
    simp
    exact ⟨by simpa using hp, hb.mono (by simp), hm⟩
/-- a comprehension without a test, each item by a function -/
theorem lc_map {ct : GC} {ce : EC} {Γ : Gam} {m : Mu} {xs : List D} (g : D → D) (hs : ∀ x ∈ xs, WO (ct x Γ) fun Γ1 => WR (ce Γ1 m) fun y m2 => y = g x ∧ m2 = m) :
    WR (lcGo ct (fun _ m => .ok true m) ce Γ xs m) fun ys m' => ys = xs.map g ∧ m' = m := by
  refine wr_lcGo (fun ds acc m' => ∃ l r, xs = l ++ r ∧ ds = r ∧ acc = l.map g ∧ m' = m) ?_ _ [] m ⟨[], xs, rfl, rfl, rfl, rfl⟩ ?_
  · rintro d ds acc m' ⟨l, r, hx, hd, ha, rfl⟩
    subst hd
    refine (hs d (by rw [hx]; simp)).mono fun Γ1 h1 => ?_
    rw [wr_ok, if_pos rfl]
    refine h1.mono fun y m2 ⟨hy, hm⟩ => ?_
    exact ⟨l ++ [d], ds, by rw [hx]; simp, rfl, by rw [ha, hy]; simp, hm⟩
  · rintro ys m' ⟨l, r, hx, hd, ha, rfl⟩
    subst hd
    simp at hx ha
    subst hx
    exact ⟨ha, rfl⟩
theorem behind_ok {d : D} {n : Int} {ls : List Ln} {m : Mu} (hd : NetD d n ls) (g : Good n ls) (hn : n ≤ 1000) (hl : ls.length ≤ 1000) : m_behind_of [d] m = .ok (.dct false (behD n ls)) m := by
  have h2 := g.two
  have hr : rg2 [.int n] = some (rangeI 0 n.toNat) := rg1_ok (by omega) (by omega)
  have hall : (rangeI 0 n.toNat).all isI = true := by rw [rangeI_zero]; exact List.all_eq_true.mpr fun d hd => by obtain ⟨i, _, rfl⟩ := List.mem_map.mp hd; rfl
  have hiv : (rangeI 0 n.toNat).map ival = (List.range n.toNat).map fun (i : Nat) => (i : Int) := by rw [rangeI_zero, List.map_map]; rfl
  have hnd : ((rangeI 0 n.toNat).map ival).Nodup := by
    rw [hiv]; exact List.pairwise_map.mpr (List.nodup_range.imp fun h e => h (by omega))
  have hlen : szOk (rangeI 0 n.toNat).length = true := by rw [rangeI_length]; exact szOk_of (by omega)
  have key : ∀ enc : Ln → D, (∀ p, pairOf (enc p) = some (.int p.1, .int p.2)) → behGo (((rangeI 0 n.toNat).map ival).map fun k => (k, [])) (ls.map enc) = some ((((rangeI 0 n.toNat).map ival).map fun k => (k, ([] : List D))).map fun r => (r.1, r.2 ++ (beh ls r.1).map .int)) := fun enc he => behGo_ok enc he ls _ fun p hp => by
    have := g.rg p hp
    rw [hiv, List.map_map, List.map_map]
    exact List.mem_map.mpr ⟨p.1.toNat, List.mem_range.mpr (by omega), by simp only [Function.comp_def]; omega⟩
  have fin : ((((rangeI 0 n.toNat).map ival).map fun k => (k, ([] : List D))).map fun r => (r.1, r.2 ++ (beh ls r.1).map .int)).map (fun r => ((D.int r.1 : D), D.lst r.2)) = behD n ls := by
    rw [hiv]; simp [behD, Function.comp_def]
  have hz : ∀ enc : Ln → D, szOk (ls.map enc).length = true := fun enc => by rw [List.length_map]; exact szOk_of (by omega)
  have g1 : ((rangeI 0 n.toNat).all isI && decide (((rangeI 0 n.toNat).map ival).Nodup) && szOk (rangeI 0 n.toNat).length) = true := by
    rw [hall, hlen, decide_eq_true hnd]; rfl
  cases hd with
  | t =>
    have e1 : iRg (aCons (c2 ixD (cVar 0) (cC (.int 0))) aNil) [.tup [.int n, .tup (ls.map eP)], .non, .non, .non, .non] m = .ok (rangeI 0 n.toNat) m := by
      show R.of (rg2 [.int n]) m = _
      rw [hr]; rfl
    have e2 : iSeq (c2 ixD (cVar 0) (cC (.int 1))) [.tup [.int n, .tup (ls.map eP)], .non, .non, .non, .non] m = .ok (ls.map eP) m := rfl
    show endR (sBehind _ _ [.tup [.int n, .tup (ls.map eP)], .non, .non, .non, .non] m) = _
    unfold sBehind
    rw [e1]
    simp only [e2]
    rw [g1, hz eP, Bool.and_self, if_pos rfl, key eP fun p => rfl]
    simp only []
    rw [fin]; rfl
  | l =>
    have e1 : iRg (aCons (c2 ixD (cVar 0) (cC (.int 0))) aNil) [.lst [.int n, .lst (ls.map eQ)], .non, .non, .non, .non] m = .ok (rangeI 0 n.toNat) m := by
      show R.of (rg2 [.int n]) m = _
      rw [hr]; rfl
    have e2 : iSeq (c2 ixD (cVar 0) (cC (.int 1))) [.lst [.int n, .lst (ls.map eQ)], .non, .non, .non, .non] m = .ok (ls.map eQ) m := rfl
    show endR (sBehind _ _ [.lst [.int n, .lst (ls.map eQ)], .non, .non, .non, .non] m) = _
    unfold sBehind
    rw [e1]
    simp only [e2]
    rw [g1, hz eQ, Bool.and_self, if_pos rfl, key eQ fun p => rfl]
    simp only []
    rw [fin]; rfl
theorem routes_past_ok {d bd : D} {n : Int} {ls : List Ln} {bs : List Int} {m : Mu} (hd : NetD d n ls) (hb : BandD bd bs) (g : Good n ls) (hn : n ≤ 10) (hl : ls.length ≤ 1000) : m_routes_past [d, bd] m = .ok (.lst ((rts n ls bs).map eT)) m := by
  have h2 := g.two
  refine WR.eq ?_
  unfold m_routes_past
  simp [behind_ok hd g (by omega) hl, szOk_of]
  refine ws_while (fun k Γ m' => ∃ (fnd rws : List (List Int)) (x y : D), Γ = [d, bd, .dct false (behD n ls), .lst (fnd.map eT), .lst (rws.map eT), x, y] ∧ (∀ r ∈ rws, IsRow ls bs r) ∧ k = (rws.map (szr n ls bs)).sum ∧ fnd.length + k ≤ 986410 ∧ (fnd ++ rws.flatMap (ways n ls bs)).Perm (ways n ls bs [0]) ∧ m' = m) ?_ _ ((([[0]] : List (List Int)).map (szr n ls bs)).sum) _ _ ?_ ?_
  · rintro k Γ m' ⟨fnd, rws, x, y, rfl, hrow, rfl, hk, hp, rfl⟩
    rcases List.eq_nil_or_concat rws with rfl | ⟨init, row, rfl⟩
    · simp
      refine ⟨sortOk_eT fnd, ?_⟩
      simp only [List.flatMap_nil, List.append_nil] at hp
      exact rts_of g (hp.nodup_iff.mpr (ways_nodup g _)) fun r => by rw [hp.mem_iff, ways_rte g]
    · obtain ⟨l, hlast⟩ := (hrow row (by simp)).ne
      have hl2 := (hrow row (by simp)).last g hlast
      have hrow' : ∀ r ∈ init, IsRow ls bs r := fun r hr => hrow r (by simp [hr])
      have hsum : ((init ++ [row]).map (szr n ls bs)).sum = (init.map (szr n ls bs)).sum + szr n ls bs row := by simp
      have hinit := sum_pos (f := szr n ls bs) (xs := init) fun r _ => sz_pos _ _
      have e1 : (fnd.map eT ++ [D.tup (row.map D.int)]) = (fnd ++ [row]).map eT := by simp [eT]
      rw [List.concat_eq_append] at hk hp
      rw [hsum] at hk
      by_cases he : l = n - 1
      · subst he
        have hz := szr_end (n := n) (ls := ls) (b := bs) hlast
        have hw := ways_end (n := n) (ls := ls) (b := bs) hlast
        simp [eT, eT_last hlast, hd.ix0, szOk_of (show fnd.length + 1 ≤ 16777216 by omega)]
        refine ⟨(init.map (szr n ls bs)).sum, by omega, fnd ++ [row], init, ⟨e1, rfl⟩, hrow', rfl, by simp; omega, ?_⟩
        rw [List.flatMap_append, List.flatMap_cons, List.flatMap_nil, List.append_nil, hw] at hp
        refine List.Perm.trans ?_ hp
        rw [List.append_assoc]
        exact List.Perm.append_left _ List.perm_append_comm
      · have hne : row.getLast? ≠ some (n - 1) := by rw [hlast]; exact fun z => he (Option.some.inj z)
        have hz := szr_go g (hrow row (by simp)) hne
        have hw := ways_go g (hrow row (by simp)) hne
        have hel := ext_len g (hrow row (by simp))
        have hbl : (beh ls l).length ≤ 1000 := by
          unfold beh; rw [List.length_map]; exact Nat.le_trans (List.length_filter_le ..) hl
        have hlc : lcGo (gN 6) (tAnd' (tCmp ninD (cVar 6) (cVar 5)) (tCmp ninD (cVar 6) (cVar 1))) (cTup (aStar (cVar 5) (aCons (cVar 6) aNil))) [d, bd, .dct false (behD n ls), .lst (fnd.map eT), .lst (init.map eT), .tup (row.map .int), y] ((beh ls l).map .int) m' = .ok (((beh ls l).filter fun x => !row.contains x && !bs.contains x).map fun x => eT (row ++ [x])) m' := by
          refine wr_lcE D.int _ _ fun x hx => ?_
          have hlen := (hrow row (by simp)).len g
          simp [wo_nin_i, hb.nin, szOk_of (show row.length + 1 ≤ 16777216 by omega)]
          by_cases q : row.contains x = true
          · simp at q; simp [q]
          · simp at q; simp [q, eT]
        rw [← ext_beh hlast] at hlc
        have hei : init.length + (ext ls bs row).length ≤ 16777216 := by omega
        simp [eT, eT_last hlast, hd.ix0, he, dfind_beh hl2.1 hl2.2, szOk_of (show (beh ls l).length ≤ 16777216 by omega), hlc, szOk_of hei]
        refine ⟨(init.map (szr n ls bs)).sum + ((ext ls bs row).map fun x => szr n ls bs (row ++ [x])).sum, by omega, fnd, init ++ (ext ls bs row).map (fun x => row ++ [x]), ⟨rfl, ?_⟩, ?_, ?_, by omega, ?_⟩
        · rw [List.map_append, List.map_map]
          congr 1
          exact List.map_congr_left fun x _ => by simp [eT]
        · intro r hr
          rcases List.mem_append.mp hr with q | q
          · exact hrow' r q
          · obtain ⟨x, hx, rfl⟩ := List.mem_map.mp q
            exact (hrow row (by simp)).ext hx
        · simp [Function.comp_def]
        · refine List.Perm.trans ?_ hp
          rw [List.flatMap_append, List.flatMap_append, List.flatMap_cons, List.flatMap_nil, List.append_nil, hw, List.flatMap_map]
  · have := szr_le g hn (IsRow.one (ls := ls) (b := bs)) (by simp)
    simp; omega
  · have := szr_le g hn (IsRow.one (ls := ls) (b := bs)) (by simp)
    exact ⟨[], [[0]], _, _, rfl, by simp [IsRow.one], rfl, by simpa using this, by simp, rfl⟩
theorem a_route_past_ok {d bd : D} {n : Int} {ls : List Ln} {bs : List Int} {m : Mu} (hd : NetD d n ls) (hb : BandD bd bs) (g : Good n ls) (hn : n ≤ 10) (hl : ls.length ≤ 1000) : m_a_route_past [d, bd] m = .ok (match arp n ls bs with | some r => eT r | none => .non) m := by
  have h2 := g.two
  refine WR.eq ?_
  unfold m_a_route_past
  simp [behind_ok hd g (by omega) hl, szOk_of, hd.ix0, show (keyD (.int 0)).isSome = true from rfl]
  have key : ∀ {k : Nat} {found : As} {edge : List Int}, Bfs ls bs k found edge → found.length ≤ n.toNat := fun B => by
    have := len_le (n := n.toNat) B.nd fun x hx => by
      obtain ⟨⟨h, r⟩, hr, rfl⟩ := List.mem_map.mp hx
      have := (B.best h r hr).1.1.last g (B.best h r hr).1.2
      simp only []; omega
    simpa using this
  refine ws_while (fun k Γ m' => ∃ (j : Nat) (found : As) (edge : List Int) (x y z w : D), Γ = [d, bd, .dct false (behD n ls), .int (n - 1), .dct false (encA found), .lst (edge.map .int), x, y, z, w] ∧ Bfs ls bs j found edge ∧ k = 2 * (n.toNat - found.length) + (if edge = [] then 0 else 1) ∧ m' = m) ?_ _ _ _ _ ?_ ⟨0, [(0, [0])], [0], _, _, _, _, rfl, .start, rfl, rfl⟩
  · rintro k Γ m' ⟨j, found, edge, x, y, z, w, rfl, B, rfl, rfl⟩
    have hf := key B
    simp [dfind_enc]
    by_cases he : edge = []
    · subst he
      simp [dfind_enc, B.fin g (.inl rfl)]
      cases arp n ls bs <;> rfl
    · have hpos : 0 < edge.length := List.length_pos_iff.mpr he
      simp [hpos]
      cases hk : lk found (n - 1) with
      | some r =>
        have hm : n - 1 ∈ found.map (·.1) := by
          by_cases q : n - 1 ∈ found.map (·.1)
          · exact q
          · rw [lk_none.mpr q] at hk; cases hk
        have := B.fin g (.inr hm)
        rw [hk] at this
        simp [← this, dfind_enc, hk]
      | none =>
        simp
        refine ws_loopE D.int (fun l Γ m2 => ∃ (later : As) (y z w : D), Γ = [d, bd, .dct false (behD n ls), .int (n - 1), .dct false (encA found), .lst (edge.map .int), .dct false (encA later), y, z, w] ∧ Lat bs found (l.flatMap fun a => (beh ls a).map fun h => (a, h)) later ∧ m2 = m') ?_ ?_ ⟨[], _, _, _, rfl, .nil, rfl⟩
        · rintro l a r hle Γ m2 ⟨later, y, z, w, rfl, L, rfl⟩
          have ha : a ∈ edge := by rw [hle]; simp
          obtain ⟨q, hq, hql⟩ := (B.edg a).mp ha
          have hlk := (lk_mem B.nd).mpr hq
          have harg := (B.best a q hq).1.1.last g (B.best a q hq).1.2
          have hqlen := (B.best a q hq).1.1.len g
          simp [dfind_beh harg.1 harg.2]
          refine ws_loopE D.int (fun l2 Γ m3 => ∃ (later : As) (z w : D), Γ = [d, bd, .dct false (behD n ls), .int (n - 1), .dct false (encA found), .lst (edge.map .int), .dct false (encA later), .int a, z, w] ∧ Lat bs found ((l.flatMap fun a => (beh ls a).map fun h => (a, h)) ++ l2.map fun h => (a, h)) later ∧ m3 = m2) ?_ ?_ ⟨later, _, _, rfl, by simpa using L, rfl⟩
          · rintro l2 h r2 hl2 Γ m3 ⟨later, z, w, rfl, L, rfl⟩
            have hsplit : ∀ (ps : List Ln), ps ++ (l2 ++ [h]).map (fun h => (a, h)) = (ps ++ l2.map fun h => (a, h)) ++ [(a, h)] := fun ps => by simp
            simp [dfind_enc, hb.nin]
            cases hkh : lk found h with
            | some s =>
              have hm : h ∈ found.map (·.1) := by
                by_cases q : h ∈ found.map (·.1)
                · exact q
                · rw [lk_none.mpr q] at hkh; cases hkh
              simp
              exact ⟨later, rfl, by have := L.skip (a := a) (h := h) (.inl hm); simpa using this⟩
            | none =>
              have hm := lk_none.mp hkh
              simp
              by_cases hbs : h ∈ bs
              · simp [hbs]
                exact ⟨later, rfl, by have := L.skip (a := a) (h := h) (.inr hbs); simpa using this⟩
              · have e1 : D.tup (q.map D.int ++ [D.int h]) = eT (q ++ [h]) := by simp [eT]
                have hlat : later.length ≤ 10 := by
                  have := len_le (n := n.toNat) L.nd fun x hx => by
                    obtain ⟨⟨h', r'⟩, hr', rfl⟩ := List.mem_map.mp hx
                    obtain ⟨a', q', h1, _⟩ := L.src h' r' hr'
                    have : (a', h') ∈ ls := by
                      rcases List.mem_append.mp h1 with u | u
                      · obtain ⟨a2, _, u⟩ := List.mem_flatMap.mp u
                        obtain ⟨h2, hh, e⟩ := List.mem_map.mp u
                        cases e; exact mem_beh.mp hh
                      · obtain ⟨h2, hh, e⟩ := List.mem_map.mp u
                        cases e
                        exact mem_beh.mp (by rw [hl2]; exact List.mem_append_left _ hh)
                    have := g.rg _ this
                    simp only [] at this ⊢; omega
                  simp at this; omega
                have L2 := L.go B.nd hq hm hbs
                have hz : szOk ((encA later).length + 1) = true := szOk_of (by unfold encA; rw [List.length_map]; omega)
                have e2 : ((lk later h).map eT).getD (eT (q ++ [h])) = eT ((lk later h).getD (q ++ [h])) := by cases lk later h <;> rfl
                simp [hbs, hlk, eT, szOk_of (show q.length + 1 ≤ 16777216 by omega), hz]
                rw [e1, ws_putD (t := false) (kvs := encA later) rfl]
                simp [dfind_enc, e2, ltOk_eT, eT_lt, hz]
                have e3 : (if ltL ((lk later h).getD (q ++ [h])) (q ++ [h]) = true then eT ((lk later h).getD (q ++ [h])) else eT (q ++ [h])) = eT (if ltL ((lk later h).getD (q ++ [h])) (q ++ [h]) = true then (lk later h).getD (q ++ [h]) else q ++ [h]) := by split <;> rfl
                rw [e3, putD_enc]
                exact ⟨_, rfl, by simpa using L2⟩
          · rintro Γ m3 ⟨later, z, w, rfl, L, rfl⟩
            refine ⟨later, ⟨_, _, _, rfl⟩, ?_, rfl⟩
            simpa using L
        · rintro Γ m2 ⟨later, y, z, w, rfl, L, rfl⟩
          have B2 := B.next L fun a h => by
            simp only [List.mem_flatMap, List.mem_map]
            constructor
            · rintro ⟨a', ha', h', hh', e⟩; cases e; exact ⟨ha', mem_beh.mp hh'⟩
            · rintro ⟨ha, hh⟩; exact ⟨a, ha, h, mem_beh.mpr hh, rfl⟩
          have hf2 := key B2
          rw [List.length_append] at hf2
          have m1 : mergeD [] (encA found) = encA found := by
            have := merge_enc found [] (by simpa using B.nd)
            simpa [encA] using this
          have m3 : mergeD (encA found) (encA later) = encA (found ++ later) := merge_enc later found B2.nd
          have l1 : (encA found).length = found.length := by unfold encA; simp
          have l2 : (encA later).length = later.length := by unfold encA; simp
          have kl : (encA later).map (·.1) = (later.map (·.1)).map D.int := by unfold encA; rw [List.map_map, List.map_map]; rfl
          simp [l1, l2, m1, m3, szOk_of (show later.length ≤ 16777216 by omega)]
          refine ⟨by omega, by omega, 2 * (n.toNat - (found ++ later).length) + (if later.map (·.1) = [] then 0 else 1), ?_, j + 1, found ++ later, later.map (·.1), ⟨rfl, ?_⟩, B2, rfl⟩
          · rw [List.length_append]
            by_cases z : later = []
            · subst z; simp [he]
            · have : 0 < later.length := List.length_pos_iff.mpr z
              simp [he, z]; omega
          · exact kl
  · simp; omega
theorem cutG_1 {α : Type} (x : α) (xs : List α) : cutG (x :: xs) (some 1) none = xs := cutG_from (p := 1) (by omega) (by simp; omega)
theorem routes_ok {d : D} {n : Int} {ls : List Ln} {m : Mu} (hd : NetD d n ls) (g : Good n ls) (hn : n ≤ 10) (hl : ls.length ≤ 1000) : m_routes [d] m = .ok (.lst ((rts n ls []).map eT)) m := by
  refine WR.eq ?_
  unfold m_routes
  have := routes_past_ok (m := m) hd (BandD.t []) g hn hl
  simp at this
  simp [szOk_of, this]
theorem sort_ints (xs : List Int) : ∃ ys : List Int, isort (xs.map .int) = ys.map .int ∧ ys.Perm xs ∧ (ys.map D.int).Pairwise leD' := by
  have hI : (xs.map D.int).all isI = true := List.all_eq_true.mpr fun d hd => by obtain ⟨x, _, rfl⟩ := List.mem_map.mp hd; rfl
  have hso : sortOk (xs.map D.int) = true := by
    refine sortOk_sub (xs := xs.map D.int) (fun _ h => h) ?_
    unfold sortOk alkP
    simp only [Bool.and_eq_true, Bool.not_eq_true', List.any_eq_false]
    refine ⟨⟨plAll_I hI, List.all_eq_true.mpr fun x hx => List.all_eq_true.mpr fun y hy => ?_⟩, fun x hx => ?_⟩
    · obtain ⟨a, _, rfl⟩ := List.mem_map.mp hx
      obtain ⟨b, _, rfl⟩ := List.mem_map.mp hy
      simp [D.alk]
    · obtain ⟨a, _, rfl⟩ := List.mem_map.mp hx
      simp [isNone]
  have hp := isort_perm (xs.map D.int)
  have hI2 : (isort (xs.map D.int)).all isI = true := List.all_eq_true.mpr fun d hd => List.all_eq_true.mp hI d (hp.mem_iff.mp hd)
  have e := isI_map hI2
  refine ⟨(isort (xs.map D.int)).map ival, e, ?_, ?_⟩
  · have := hp.map ival
    rw [List.map_map] at this
    have q : xs.map (ival ∘ D.int) = xs := by conv => rhs; rw [← List.map_id xs]
                                              exact List.map_congr_left fun _ _ => rfl
    rwa [q] at this
  · rw [← e]
    obtain ⟨h1, h2, _⟩ := sortOk_pl hso
    exact isort_sorted h1 h2 fun y hy => hy
theorem sortOk_ints (xs : List Int) : sortOk (xs.map D.int) = true := by
  unfold sortOk alkP
  simp only [Bool.and_eq_true, Bool.not_eq_true', List.any_eq_false]
  refine ⟨⟨plAll_ints _ _, List.all_eq_true.mpr fun x hx => List.all_eq_true.mpr fun y hy => ?_⟩, fun x hx => ?_⟩
  · obtain ⟨a, _, rfl⟩ := List.mem_map.mp hx
    obtain ⟨b, _, rfl⟩ := List.mem_map.mp hy
    simp [D.alk]
  · obtain ⟨a, _, rfl⟩ := List.mem_map.mp hx
    simp [isNone]
/-- a band: inner houses, ascending -/
structure Band (n : Int) (bs : List Int) : Prop where
  nd : bs.Nodup
  inn : ∀ h ∈ bs, h ∈ inner n
  asc : (bs.map D.int).Pairwise leD'
theorem Band.zero {n : Int} {bs : List Int} (h : Band n bs) : 0 ∉ bs := fun z => by have := mem_inner.mp (h.inn 0 z); omega
theorem Band.len {n : Int} {bs : List Int} (h : Band n bs) : bs.length ≤ (n - 2).toNat := by
  have : (bs.map fun x => x - 1).length ≤ (n - 2).toNat := len_le (List.pairwise_map.mpr (h.nd.imp fun h e => h (by omega))) fun x hx => by
    obtain ⟨y, hy, rfl⟩ := List.mem_map.mp hx
    have := mem_inner.mp (h.inn y hy)
    omega
  simpa using this
theorem cutG_take {α : Type} {xs : List α} {r : Int} (h : 0 ≤ r) : cutG xs none (some r) = xs.take r.toNat := by
  obtain ⟨k, rfl⟩ : ∃ k : Nat, r = k := ⟨r.toNat, by omega⟩
  unfold cutG; rw [HT.sIx_none, HT.sIx_nat, List.drop_zero, Nat.sub_zero]
  rcases Nat.le_total k xs.length with z | z
  · rw [Nat.min_eq_left z]; rfl
  · rw [Nat.min_eq_right z, List.take_of_length_le (Nat.le_refl _), List.take_of_length_le (by simpa using z)]
theorem mixed_ints {t n : Nat} {m : Mu} {xs : List Int} (h : Bx (t + xs.length) n m) (hl : xs.length ≤ 1000) : WR (m_law_mixed [.box n, .lst (xs.map .int)] m) fun d m' => ∃ ys : List Int, d = .lst (ys.map .int) ∧ ys.Perm xs ∧ Bx t n m' ∧ m'.length = m.length := by
  refine (mixed_ok (xs := xs.map .int) (by simpa using h) (by simpa using hl)).mono ?_
  rintro d m' ⟨ys, rfl, hp, hb, hm⟩
  have hI : ys.all isI = true := List.all_eq_true.mpr fun d hd => by obtain ⟨x, _, rfl⟩ := List.mem_map.mp (hp.mem_iff.mp hd); rfl
  refine ⟨ys.map ival, by rw [← isI_map hI], ?_, hb, hm⟩
  have := hp.map ival
  rw [List.map_map] at this
  have q : xs.map (ival ∘ D.int) = xs := by conv => rhs; rw [← List.map_id xs]
                                            exact List.map_congr_left fun _ _ => rfl
  rwa [q] at this
theorem band_ok {t b : Nat} {m : Mu} {n : Int} {L : D} {most : Int} (h : Bx (t + 200) b m) (h2 : 2 ≤ n) (hn : n ≤ 100) (h0 : 0 ≤ most) (hm : most ≤ 1000) :
    WR (m_law_band [.box b, .tup [.int n, L], .int most] m) fun d m' => ∃ bs : List Int, d = .tup (bs.map .int) ∧ Band n bs ∧ bs.length ≤ most.toNat ∧ Bx t b m' ∧ m'.length = m.length := by
  unfold m_law_band
  have hli : (inner n).length ≤ 98 := by rw [len_inner]; omega
  have hlc : lcGo (gN 4) (fun _ m => .ok true m) (cVar 4) [.box b, .tup [.int n, L], .int most, .non, .non] ((inner n).map .int) m = .ok ((inner n).map .int) m := by
    refine wr_lcEM D.int D.int fun x hx => ?_
    simp
  simp [atI, ixN, rg_inner h2 (by omega), szOk_of (show (inner n).length ≤ 16777216 by omega), hlc]
  refine (mixed_ints (t := t + 1) (h.mono (by omega)) (by omega)).mono ?_
  rintro d m1 ⟨ys, rfl, hp, hb1, hm1⟩
  refine (take_ok (t := t) (k := most + 1) hb1 (by omega) (by omega)).mono ?_
  rintro d m2 ⟨r, rfl, hr0, hr1, hb2, hm2⟩
  obtain ⟨zs, e1, e2, e3⟩ := sort_ints (ys.take r.toNat)
  simp [cutG_take hr0, ← List.map_take, sortOk_ints, e1]
  refine ⟨zs, rfl, ⟨?_, fun h hh => ?_, by simpa using e3⟩, ?_, hb2, by omega⟩
  · exact e2.nodup_iff.mpr ((hp.nodup_iff.mpr (nodup_inner n)).sublist (List.take_sublist ..))
  · exact hp.mem_iff.mp (List.mem_of_mem_take (e2.mem_iff.mp hh))
  · rw [e2.length_eq, List.length_take]; omega
theorem sm_int {k : Nat} {i : Int} : Sm k (.int i) := .int
theorem sm_ints {k : Nat} {xs : List Int} (h : xs.length ≤ 16777216) : Sm (k + 1) (.tup (xs.map .int)) := .tup (fun d hd => by obtain ⟨x, _, rfl⟩ := List.mem_map.mp hd; exact .int) (by simpa using h)
theorem sm_eP {k : Nat} (p : Ln) : Sm (k + 1) (eP p) := .tup (fun d hd => by simp at hd; rcases hd with rfl | rfl <;> exact .int) (by simp)
theorem sm_eQ {k : Nat} (p : Ln) : Sm (k + 1) (eQ p) := .lst (fun d hd => by simp at hd; rcases hd with rfl | rfl <;> exact .int) (by simp)
theorem sm_net {k : Nat} {n : Int} {ls : List Ln} (h : ls.length ≤ 16777216) : Sm (k + 3) (.tup [.int n, .tup (ls.map eP)]) := .tup (fun d hd => by
  simp at hd
  rcases hd with rfl | rfl
  · exact .int
  · exact .tup (fun d hd => by obtain ⟨p, _, rfl⟩ := List.mem_map.mp hd; exact sm_eP p) (by simpa using h)) (by simp)
theorem sm_netQ {k : Nat} {n : Int} {ls : List Ln} (h : ls.length ≤ 16777216) : Sm (k + 3) (.lst [.int n, .lst (ls.map eQ)]) := .lst (fun d hd => by
  simp at hd
  rcases hd with rfl | rfl
  · exact .int
  · exact .lst (fun d hd => by obtain ⟨p, _, rfl⟩ := List.mem_map.mp hd; exact sm_eQ p) (by simpa using h)) (by simp)
theorem same_eq {m : Mu} {d : D} (h : Sm 15 d) : m_law_same 16 [d, d] m = .ok (.bl true) m := WR.eq (same_ok m 15 d h)
theorem sm_list {k : Nat} {xs : List D} (h : ∀ x ∈ xs, Sm k x) (hl : xs.length ≤ 16777216) : Sm (k + 1) (.lst xs) := .lst h hl
theorem sm_eT {k : Nat} {r : List Int} (h : r.length ≤ 16777216) : Sm (k + 1) (eT r) := sm_ints h
theorem sm_eL {k : Nat} {r : List Int} (h : r.length ≤ 16777216) : Sm (k + 1) (eL r) := .lst (fun d hd => by obtain ⟨x, _, rfl⟩ := List.mem_map.mp hd; exact .int) (by simpa using h)
theorem sm_bands {k : Nat} {bss : List (List Int)} (h : bss.length ≤ 16777216) (hr : ∀ r ∈ bss, r.length ≤ 16777216) : Sm (k + 2) (.tup (bss.map eT)) := .tup (fun d hd => by obtain ⟨x, hx, rfl⟩ := List.mem_map.mp hd; exact sm_eT (hr x hx)) (by simpa using h)
theorem sm_bandsL {k : Nat} {bss : List (List Int)} (h : bss.length ≤ 16777216) (hr : ∀ r ∈ bss, r.length ≤ 16777216) : Sm (k + 2) (.lst (bss.map eL)) := .lst (fun d hd => by obtain ⟨x, hx, rfl⟩ := List.mem_map.mp hd; exact sm_eL (hr x hx)) (by simpa using h)
mutual
/-- the same with tuples for lists -/
def toT : D → D
  | .lst xs => .tup (toTAll xs)
  | .tup xs => .tup (toTAll xs)
  | d => d
def toTAll : List D → List D
  | [] => []
  | x :: xs => toT x :: toTAll xs
end
theorem toTAll_map : ∀ xs : List D, toTAll xs = xs.map toT
  | [] => by simp [toTAll]
  | x :: xs => by simp [toTAll, toTAll_map xs]
theorem tupled_ok (m : Mu) : ∀ (n : Nat) (d : D), Sm n d → WR (m_tupled (n + 1) [d] m) fun r m' => r = toT d ∧ m' = m := by
  intro n
  induction n with
  | zero =>
    intro d h
    cases h <;> simp [m_tupled, isi2D, isi, toT]
  | succ n ih =>
    intro d h
    cases h with
    | non | bl | int | str => simp [m_tupled, isi2D, isi, toT]
    | lst h hl | tup h hl =>
      rw [m_tupled]
      simp [isi2D, isi, szOk_of, hl]
      refine (lc_map toT fun x hx => ?_).mono ?_
      · simp
        exact ih x (h x hx)
      · rintro ys m' ⟨rfl, rfl⟩
        simp [toT, toTAll_map]
theorem tupled_eq {m : Mu} {d : D} (h : Sm 15 d) : m_tupled 16 [d] m = .ok (toT d) m := WR.eq (tupled_ok m 15 d h)
theorem toT_eT (r : List Int) : toT (eT r) = eT r := by simp [toT, toTAll_map, eT]
theorem toT_eL (r : List Int) : toT (eL r) = eT r := by simp [toT, toTAll_map, eT, eL]
theorem tupled_bands {d : D} {bss : List (List Int)} {m : Mu} (hd : BandsD d bss) (h : bss.length ≤ 1000) (hr : ∀ r ∈ bss, r.length ≤ 1000) : m_tupled 16 [d] m = .ok (.tup (bss.map eT)) m := by
  have hr' : ∀ r ∈ bss, r.length ≤ 16777216 := fun r hx => by have := hr r hx; omega
  cases hd with
  | t =>
    rw [tupled_eq (sm_bands (k := 13) (by omega) hr')]
    simp [toT, toTAll_map, Function.comp_def, toT_eT]
  | l =>
    rw [tupled_eq (sm_bandsL (k := 13) (by omega) hr')]
    simp [toT, toTAll_map, Function.comp_def, toT_eL]
/-- a few bands of the net, each once -/
theorem bands_ok {t b : Nat} {m : Mu} {n : Int} {L : D} {many most : Int} (h : Bx (t + 200 * many.toNat + 1) b m) (h2 : 2 ≤ n) (hn : n ≤ 100) (hk : 1 ≤ many) (hk' : many ≤ 50) (h0 : 0 ≤ most) (hm : most ≤ 1000) :
    WR (m_law_bands [.box b, .tup [.int n, L], .int many, .int most] m) fun d m' => ∃ bss : List (List Int), d = .tup (bss.map eT) ∧ bss ≠ [] ∧ bss.length ≤ many.toNat ∧ (∀ r ∈ bss, Band n r ∧ r.length ≤ most.toNat) ∧ bss.Nodup ∧ (bss.map eT).Pairwise leD' ∧ Bx t b m' ∧ m'.length = m.length := by
  unfold m_law_bands
  simp
  refine (take_ok (t := t + 200 * many.toNat) (k := many) h (by omega) (by omega)).mono ?_
  rintro d m1 ⟨r, rfl, hr0, hr1, hb1, hm1⟩
  simp [rg1_ok (z := 1 + r) (by omega) (by omega), rangeI_length]
  refine ⟨szOk_of (by omega), ?_⟩
  refine wr_lcGo (fun es acc m' => ∃ rs : List (List Int), ∃ k : Nat, es = rangeI k ((1 + r).toNat - k) ∧ k ≤ (1 + r).toNat ∧ acc = rs.map eT ∧ rs.length = k ∧ (∀ r ∈ rs, Band n r ∧ r.length ≤ most.toNat) ∧ Bx (t + 200 * (many.toNat - k)) b m' ∧ m'.length = m.length) ?_ _ [] m1 ⟨[], 0, by simp, by omega, rfl, rfl, by simp, by simpa using hb1, by omega⟩ ?_
  · rintro e es acc m' ⟨rs, k, hd, hk2, rfl, hrl, hrs, hb, hml⟩
    have hk' : (1 + r).toNat - k = ((1 + r).toNat - (k + 1)) + 1 := by
      rcases Nat.lt_or_ge k (1 + r).toNat with z | z
      · omega
      · rw [show (1 + r).toNat - k = 0 by omega] at hd; cases hd
    rw [hk', rangeI] at hd
    cases hd
    simp
    refine (band_ok (t := t + 200 * (many.toNat - (k + 1))) (hb.mono (by omega)) h2 hn h0 hm).mono ?_
    rintro d m2 ⟨bs, rfl, hbd, hbl, hb2, hm2⟩
    refine ⟨rs ++ [bs], k + 1, by simp, by omega, by simp [eT], by simp [hrl], ?_, hb2, by omega⟩
    intro q hq
    rcases List.mem_append.mp hq with z | z
    · exact hrs q z
    · rw [List.mem_singleton.mp z]; exact ⟨hbd, hbl⟩
  · rintro ys m' ⟨rs, k, hd, hk2, hys, hrl, hrs, hb, hml⟩
    have hkk : k = (1 + r).toNat := by
      have := congrArg List.length hd
      rw [rangeI_length] at this
      simp at this; omega
    simp at hys
    subst hys
    have hz : rs ≠ [] := by rintro rfl; simp at hrl; omega
    simp [setOk_eT (show rs.length ≤ 60 by omega), uniT_eq]
    refine ⟨uniT rs, rfl, ?_, ?_, ?_, nodup_uniT rs, asc_uniT rs, hb.mono (by omega), hml⟩
    · obtain ⟨x, xs, rfl⟩ := List.exists_cons_of_ne_nil hz
      exact List.ne_nil_of_mem (mem_uniT.mpr List.mem_cons_self)
    · have := len_uniT rs; omega
    · intro q hq
      exact hrs q (mem_uniT.mp hq)
theorem good_snoc {n : Int} {ls : List Ln} {p : Ln} (g : Good n ls) (hp : p ∉ ls) (h : 0 ≤ p.1 ∧ p.1 < n ∧ 0 ≤ p.2 ∧ p.2 < n ∧ p.1 ≠ p.2) : Good n (ls ++ [p]) where
  two := g.two
  nd := List.nodup_append.mpr ⟨g.nd, by simp, fun a ha c hc e => by simp at hc; subst hc; exact hp (e ▸ ha)⟩
  rg := fun q hq => by
    rcases List.mem_append.mp hq with z | z
    · exact g.rg q z
    · simp at z; subst z; exact h
theorem good_if {n : Int} {ls : List Ln} {p : Ln} {q : Prop} [Decidable q] (g : Good n ls) (hp : p ∉ ls) (h : 0 ≤ p.1 ∧ p.1 < n ∧ 0 ≤ p.2 ∧ p.2 < n ∧ p.1 ≠ p.2) : Good n (ls ++ if q then [p] else []) := by
  split
  · exact good_snoc g hp h
  · simpa using g
theorem mul01 {m : Mu} {p : Ln} {q : Prop} [Decidable q] {Q : D → Prop} : WO (mulD m (.lst [eP p]) (.int (if q then 1 else 0))) Q = Q (.lst ((if q then [p] else []).map eP)) := by
  by_cases h : q
  · rw [if_pos h, if_pos h]; show WO (some (D.lst [eP p])) Q = _; rw [wo_some]; rfl
  · rw [if_neg h, if_neg h]; show WO (some (D.lst [])) Q = _; rw [wo_some]; rfl
theorem wo_addL {m : Mu} {xs ys : List D} {Q : D → Prop} (h : xs.length + ys.length ≤ 16777216) : WO (addL m (.lst xs) (.lst ys)) Q = Q (.lst (xs ++ ys)) := by
  show WO (if szOk (xs.length + ys.length) = true then some (D.lst (xs ++ ys)) else none) Q = _
  rw [szOk_of h, if_pos rfl, wo_some]
theorem fan_ok {t b : Nat} {m : Mu} {many lines : Int} (h : Bx (t + 3 * many.toNat + 2 * lines.toNat + 1) b m) (h2 : 2 ≤ many) (hm : many ≤ 100) (hl0 : 0 ≤ lines) (hl : lines ≤ 100) :
    WR (m_law_fan [.box b, .int many, .int lines] m) fun d m' => ∃ ls : List Ln, d = .tup [.int many, .tup (ls.map eP)] ∧ Good many ls ∧ ls.length ≤ 400 ∧ (ls.map eP).Pairwise leD' ∧ Bx t b m' ∧ m'.length = m.length := by
  unfold m_law_fan
  have hli : (inner many).length = (many - 2).toNat := len_inner many
  simp [rg_inner h2 (by omega), szOk_of]
  refine ws_loopE D.int (fun l Γ m' => ∃ (ls : List Ln) (x y z w : D), Γ = [.box b, .int many, .int lines, .lst (ls.map eP), x, y, z, w] ∧ Good many ls ∧ ls.length ≤ 2 * l.length ∧ (∀ p ∈ ls, (p.1 = 0 ∧ p.2 ∈ l) ∨ (p.2 = many - 1 ∧ p.1 ∈ l)) ∧ Bx (t + 2 * ((inner many).length - l.length) + 2 * lines.toNat + 1) b m' ∧ m'.length = m.length) ?_ ?_ ⟨[], _, _, _, _, rfl, ⟨h2, by simp, by simp⟩, Nat.le_refl _, by simp, h.mono (by simp; omega), rfl⟩
  · rintro l k r hlr Γ m' ⟨ls, x, y, z, w, rfl, g, hls, hp, hb, hml⟩
    have hk : k ∈ inner many := by rw [hlr]; simp
    have hk2 := mem_inner.mp hk
    have hkl : k ∉ l := by
      have := nodup_inner many
      rw [hlr] at this
      intro z
      exact (List.nodup_append.mp this).2.2 k z k (by simp) rfl
    have hlen : l.length + 1 ≤ (inner many).length := by rw [hlr]; simp
    simp [szOk_of]
    refine (take_ok (t := t + 2 * ((inner many).length - l.length) + 2 * lines.toNat) (k := 4) hb (by omega) (by omega)).mono ?_
    rintro d m1 ⟨r1, rfl, h10, h11, hb1, hl1⟩
    simp
    have hlf : ∀ (q : Prop) [Decidable q] (p : Ln), (if q then [p] else []).length ≤ 1 := fun q _ p => by split <;> simp
    have e1 : D.tup [.int 0, .int k] = eP (0, k) := rfl
    have e2 : D.tup [.int k, .int (many - 1)] = eP (k, many - 1) := rfl
    have hl1' := hlf (0 < r1) (0, k)
    rw [e1, mul01, wo_add_l]
    refine ⟨szOk_of (by rw [List.length_map, List.length_map]; omega), ?_⟩
    refine (take_ok (t := t + 2 * ((inner many).length - (l.length + 1)) + 2 * lines.toNat + 1) (k := 4) (hb1.mono (by omega)) (by omega) (by omega)).mono ?_
    rintro d m2 ⟨r2, rfl, h20, h21, hb2, hl2⟩
    have hl2' := hlf (0 < r2) (k, many - 1)
    simp only [wo_gt, wo_intb, e2, decide_eq_true_eq]
    rw [mul01, wo_addL (by rw [List.length_append, List.length_map, List.length_map, List.length_map]; omega), ← List.map_append, ← List.map_append]
    have g1 : Good many (ls ++ if 0 < r1 then [(0, k)] else []) := good_if g (fun z => by
      rcases hp _ z with ⟨_, q⟩ | ⟨q, _⟩
      · exact hkl q
      · simp at q; omega) ⟨by simp, by simp; omega, by simp; omega, by simp; omega, by simp; omega⟩
    refine ⟨_, rfl, good_if g1 (fun z => ?_) ⟨by simp; omega, by simp; omega, by simp; omega, by show many - 1 < many; omega, by simp; omega⟩, ?_, ?_, hb2, by omega⟩
    · rcases List.mem_append.mp z with z | z
      · rcases hp _ z with ⟨q, _⟩ | ⟨_, q⟩
        · simp at q; omega
        · exact hkl q
      · split at z
        · simp at z; omega
        · cases z
    · rw [List.length_append, List.length_append]; omega
    · intro a c hac
      rcases List.mem_append.mp hac with z | z
      · rcases List.mem_append.mp z with z | z
        · rcases hp _ z with ⟨q, q'⟩ | ⟨q, q'⟩
          · exact .inl ⟨q, .inl q'⟩
          · exact .inr ⟨q, .inl q'⟩
        · split at z
          · simp at z; exact .inl ⟨z.1, .inr z.2⟩
          · cases z
      · split at z
        · simp at z; exact .inr ⟨z.2, .inr z.1⟩
        · cases z
  · rintro Γ m' ⟨ls, x, y, z, w, rfl, g, hls, hp, hb, hml⟩
    simp
    refine (take_ok (t := t + 2 * lines.toNat) (k := lines + 1) (hb.mono (by omega)) (by omega) (by omega)).mono ?_
    rintro d m1 ⟨r1, rfl, h10, h11, hb1, hl1⟩
    simp [rg1_ok (z := r1) (by omega) (by omega), rangeI_zero]
    have hls0 : ls.length ≤ 196 := by omega
    refine ws_loopE (fun (i : Nat) => D.int i) (fun l Γ m' => ∃ (ls : List Ln) (x y z w : D), Γ = [.box b, .int many, .int lines, .lst (ls.map eP), x, y, z, w] ∧ Good many ls ∧ ls.length ≤ 196 + l.length ∧ Bx (t + 2 * (r1.toNat - l.length)) b m' ∧ m'.length = m.length) ?_ ?_ ⟨ls, _, _, _, _, rfl, g, by simpa using hls0, hb1.mono (by simp; omega), by omega⟩
    · rintro l i r hl Γ m' ⟨ls, x, y, z, w, rfl, g, hls, hb, hml⟩
      have hlen : l.length + 1 ≤ r1.toNat := by
        have := congrArg List.length hl
        simp at this; omega
      simp
      refine (take_ok (t := t + 2 * (r1.toNat - l.length) - 1) (hb.mono (by omega)) (by omega) (by omega)).mono ?_
      rintro d m1 ⟨s1, rfl, h10, h11, hb1, hl1⟩
      refine (take_ok (t := t + 2 * (r1.toNat - (l.length + 1))) (hb1.mono (by omega)) (by omega) (by omega)).mono ?_
      rintro d m2 ⟨s2, rfl, h20, h21, hb2, hl2⟩
      have e : D.tup [.int s1, .int s2] = eP (s1, s2) := rfl
      simp [szOk_of, e, wo_nin_PL]
      by_cases hne : s1 = s2
      · simp [hne]
        exact ⟨ls, rfl, g, by omega, hb2, by omega⟩
      · simp [hne]
        by_cases hin : (s1, s2) ∈ ls
        · simp [hin]
          exact ⟨ls, rfl, g, by omega, hb2, by omega⟩
        · simp [hin, szOk_of (show ls.length + 1 ≤ 16777216 by omega)]
          exact ⟨ls ++ [(s1, s2)], by simp, good_snoc g hin ⟨h10, h11, h20, h21, hne⟩, by simp; omega, hb2, by omega⟩
    · rintro Γ m' ⟨ls, x, y, z, w, rfl, g, hls, hb, hml⟩
      simp at hls hb
      obtain ⟨ls', e1, e2, e3⟩ := sort_eP ls
      have hso : sortOk (ls.map eP) = true := by rw [map_eP]; exact sortOk_eT _
      simp [hso, szOk_of, e1]
      exact ⟨ls', rfl, ⟨g.two, e2.nodup_iff.mpr g.nd, fun p hp => g.rg p (e2.mem_iff.mp hp)⟩, by rw [e2.length_eq]; omega, by simpa using e3, hb, hml⟩
theorem meets_ok {d bd : D} {n : Int} {ls : List Ln} {bs : List Int} {m : Mu} (hd : NetD d n ls) (hb : BandD bd bs) (g : Good n ls) (hn : n ≤ 10) (hl : ls.length ≤ 1000) : m_meets [d, bd] m = .ok (.bl (rts n ls bs).isEmpty) m := by
  have e1 := a_route_past_ok (m := m) hd hb g hn hl
  refine WR.eq ?_
  unfold m_meets
  simp only [wr_fnC, ws_ret, wr_c2, wr_call, wr_acons, wr_anil, wr_var, List.replicate, List.cons_append, List.nil_append, List.append_nil, List.getD_cons_zero, List.getD_cons_succ, e1, wr_ok, wr_c]
  cases h : arp n ls bs with
  | none =>
    rw [arp_none.mp h]
    simp
    rfl
  | some r =>
    have : rts n ls bs ≠ [] := fun z => by rw [arp_none.mpr z] at h; cases h
    cases hq : rts n ls bs with
    | nil => exact absurd hq this
    | cons => simp [eT]; rfl
/-- the bands that hear all -/
def ears (n : Int) (ls : List Ln) (bss : List (List Int)) : List (List Int) := bss.filter fun b => (rts n ls b).isEmpty
def earD (n : Int) (ls : List Ln) (bss : List (List Int)) : D := match ears n ls bss with
  | [] => .non
  | b :: _ => eT b
theorem ear_band_ok {d e : D} {n : Int} {ls : List Ln} {bss : List (List Int)} {m : Mu} (hd : NetD d n ls) (he : BandsD e bss) (g : Good n ls) (hn : n ≤ 10) (hl : ls.length ≤ 1000) (h : bss.length ≤ 1000) (hr : ∀ r ∈ bss, r.length ≤ 1000) : m_ear_band [d, e] m = .ok (earD n ls bss) m := by
  have e1 := tupled_bands (m := m) he h hr
  refine WR.eq ?_
  unfold m_ear_band
  have hlc : lcGo (gN 3) (tTru (cCall m_meets (aCons (cVar 0) (aCons (cVar 3) aNil)))) (cVar 3) [d, e, .non, .non] (bss.map eT) m = .ok ((ears n ls bss).map eT) m := by
    refine wr_lcE eT _ _ fun b hb => ?_
    have e2 := meets_ok (m := m) hd (BandD.t b) g hn hl
    simp only [wo_gn, List.set_cons_zero, List.set_cons_succ, wr_tru, wr_call, wr_acons, wr_anil, wr_var, List.getD_cons_zero, List.getD_cons_succ]
    rw [show eT b = D.tup (b.map .int) from rfl, e2, wr_ok, wo_tru_b]
    simp
  simp only [wr_fnC, ws_seq, ws_set, wr_lc, wr_iseq, wr_call, wr_acons, wr_anil, wr_var, List.replicate, List.cons_append, List.nil_append, List.getD_cons_zero, List.getD_cons_succ, e1, wr_ok, wo_items_t, List.length_map, szOk_of (show bss.length ≤ 16777216 by omega), if_true, hlc, List.set_cons_zero, List.set_cons_succ, ws_ret]
  unfold earD
  cases ears n ls bss with
  | nil => simp
  | cons b t => simp [atI, ixN]
theorem unheard_ok {d e : D} {n : Int} {ls : List Ln} {bss : List (List Int)} {m : Mu} (hd : NetD d n ls) (he : BandsD e bss) (g : Good n ls) (hn : n ≤ 10) (hl : ls.length ≤ 1000) (h : bss.length ≤ 1000) (hr : ∀ r ∈ bss, r.length ≤ 1000) : m_unheard [d, e] m = .ok (.bl (ears n ls bss).isEmpty) m := by
  have e1 := ear_band_ok (m := m) hd he g hn hl h hr
  refine WR.eq ?_
  unfold m_unheard
  simp only [wr_fnC, ws_ret, wr_c2, wr_call, wr_acons, wr_anil, wr_var, List.replicate, List.cons_append, List.nil_append, List.append_nil, List.getD_cons_zero, List.getD_cons_succ, e1, wr_ok, wr_c]
  unfold earD
  cases ears n ls bss with
  | nil => simp; rfl
  | cons b t => simp [eT]; rfl
theorem plAll_of : ∀ {k : Nat} {xs : List D}, (∀ x ∈ xs, x.pl k = true) → plAll k xs = true
  | _, [], _ => by simp [plAll]
  | k, x :: xs, h => by
    rw [plAll, h x List.mem_cons_self, plAll_of fun y hy => h y (List.mem_cons_of_mem _ hy)]; rfl
theorem Sm.pl : ∀ {n : Nat} {d : D}, Sm n d → ∀ {k : Nat}, n ≤ k → d.pl k = true := by
  intro n d h
  induction h with
  | non | bl | int | str => intro k hk; simp [D.pl]
  | lst h hl ih | tup h hl ih =>
    intro k hk
    cases k with
    | zero => omega
    | succ k => rw [D.pl]; exact plAll_of fun x hx => ih x hx (by omega)
theorem eqvAll_of : ∀ {xs : List D}, (∀ x ∈ xs, x.eqv x = true) → eqvAll xs xs = true
  | [], _ => by simp [eqvAll]
  | x :: xs, h => by
    rw [eqvAll, h x List.mem_cons_self, eqvAll_of fun y hy => h y (List.mem_cons_of_mem _ hy)]; rfl
theorem Sm.eqv {n : Nat} {d : D} (h : Sm n d) : d.eqv d = true := by
  induction h with
  | non | bl | int | str => simp [D.eqv]
  | lst h hl ih | tup h hl ih => rw [D.eqv]; exact eqvAll_of ih
/-! pairs of bands that meet all routes (the program) -/
def e2 (p : List Int × List Int) : D := .tup [eT p.1, eT p.2]
/-! small things on encodings -/
theorem zipI_maps {α β : Type} (f : α → D) (g : β → D) : ∀ (xs : List α) (ys : List β), zipI (xs.map f) (ys.map g) = (xs.zip ys).map fun p => .tup [f p.1, g p.2]
  | [], _ => by simp [zipI]
  | _ :: _, [] => by simp [zipI]
  | x :: xs, y :: ys => by simp [zipI, zipI_maps f g xs ys]
theorem bsd_len {d : D} {bss : List (List Int)} {m : Mu} {Q : D → Prop} (h : BandsD d bss) : WO (lenD m d) Q = Q (.int bss.length) := by cases h <;> simp
/-! is_route -/
theorem is_number_int {i : Int} {m : Mu} : m_is_number [.int i] m = .ok (.bl true) m := rfl
theorem numbers_ok {Γ : Gam} {k : Nat} {r : List Int} {m : Mu} (hk : k < Γ.length) : lcGo (gN k) (fun _ m => .ok true m) (cCall m_is_number (aCons (cVar k) aNil)) Γ (r.map .int) m = .ok ((r.map fun _ => true).map .bl) m := by
  rw [List.map_map]
  refine wr_lcEM D.int _ fun x hx => ?_
  simp only [wo_gn, wr_call, wr_acons, wr_anil, wr_var]
  rw [show (Γ.set k (.int x)).getD k .non = .int x by rw [List.getD_eq_getElem?_getD, List.getElem?_set_self hk]; rfl, is_number_int, wr_ok]
  exact ⟨by trivial, rfl⟩
theorem tupled_netL {d : D} {n : Int} {ls : List Ln} {m : Mu} (hd : NetD d n ls) (hl : ls.length ≤ 1000) : m_tupled 16 [d] m = .ok (.tup [.int n, .tup (ls.map eP)]) m := by
  have toE : ∀ ls : List Ln, toT (.tup (ls.map eP)) = .tup (ls.map eP) := fun ls => by
    simp [toT, toTAll_map, Function.comp_def, eP]
  cases hd with
  | t =>
    rw [tupled_eq (sm_net (k := 12) (by omega))]
    simp [toT, toTAll, toTAll_map, Function.comp_def, eP]
  | l =>
    rw [tupled_eq (sm_netQ (k := 12) (by omega))]
    simp [toT, toTAll, toTAll_map, Function.comp_def, eP, eQ]
theorem all_tt {α : Type} {r : List α} : (r.map fun _ => true).all id = true := by simp
theorem is_route_ok {d : D} {n : Int} {ls : List Ln} {r : List Int} {m : Mu} (hd : NetD d n ls) (g : Good n ls) (hl : ls.length ≤ 1000) (hr : r.length ≤ 1000) : m_is_route [d, eT r] m = .ok (.bl ((rts n ls []).contains r)) m := by
  have e1 := tupled_netL (m := m) hd hl
  have hlook : (rts n ls []).contains r = decide (2 ≤ r.length ∧ r.head? = some 0 ∧ r.getLast? = some (n - 1) ∧ r.Nodup ∧ ∀ p ∈ r.zip r.tail, p ∈ ls) := by
    rw [Bool.eq_iff_iff, List.contains_iff_mem, decide_eq_true_eq]; exact mem_rts_look g
  have hnum := numbers_ok (Γ := [d, eT r, .non, .non, .non]) (k := 4) (r := r) (m := m) (by simp)
  refine WR.eq ?_
  unfold m_is_route
  simp only [wr_fnC, ws_seq, ws_if, wr_tor, wr_tnot, wr_tru, wr_c1, wr_var, List.replicate, List.cons_append, List.nil_append, List.getD_cons_zero, List.getD_cons_succ]
  rw [show eT r = .tup (r.map .int) from rfl]
  rw [show eT r = .tup (r.map .int) from rfl] at hnum
  simp only [show ∀ xs : List D, isiD .tuple m (.tup xs) = some (.bl true) from fun _ => rfl, wo_some, wo_tru_b, Bool.not_true, Bool.false_eq_true, if_false, wr_tcmp, wr_c2, wr_c1, wr_var, List.getD_cons_zero, List.getD_cons_succ, wo_len_t, List.length_map, wr_c, wo_lt, wo_bl]
  by_cases h2 : (r.length : Int) < 2
  · simp only [decide_eq_true h2, if_true, ws_ret, wr_c]
    refine ⟨?_, by trivial⟩
    rw [hlook, decide_eq_false (fun z => by omega)]
  · simp only [decide_eq_false h2, Bool.false_eq_true, if_false, wr_lc, wr_iseq, wr_var, List.getD_cons_zero, List.getD_cons_succ, wo_items_t, List.length_map, szOk_of (show r.length ≤ 16777216 by omega), if_true, hnum, wr_ok, wo_all, all_tt, wo_tru_b, Bool.not_true, Bool.false_eq_true, if_false, ws_nil]
    obtain ⟨a, t, rfl⟩ : ∃ a t, r = a :: t := by cases r with | nil => simp at h2 | cons a t => exact ⟨a, t, rfl⟩
    have ht : t ≠ [] := fun z => by subst z; simp at h2
    obtain ⟨l, hlast⟩ : ∃ l, (a :: t).getLast? = some l := ⟨_, List.getLast?_eq_some_getLast (by simp)⟩
    have hix : atI ((a :: t).map D.int) 0 = some (.int a) := by simp [atI, ixN]
    simp only [ws_seq, ws_if, wr_tor, wr_tcmp, wr_c2, wr_c1, wr_var, wr_c, List.getD_cons_zero, List.getD_cons_succ, wo_neg, wo_ix_t, hix, eT_last hlast, hd.ix0, wo_some, wo_nei, wo_sub, wo_bl, wo_len_t, List.length_map, wo_lsetT, wo_lt]
    by_cases ha : a = 0
    · subst ha
      simp only [beq_self_eq_true, Bool.not_true, Bool.false_eq_true, if_false]
      by_cases hll : l = n - 1
      · subst hll
        simp only [beq_self_eq_true, Bool.not_true, Bool.false_eq_true, if_false]
        have hok : setOk ((0 :: t).map D.int) = true := setOk_ints (by omega)
        have hnl : decide (((nubD ((0 :: t).map D.int)).length : Int) < ((0 :: t).length : Int)) = decide (¬ (0 :: t).Nodup) := by
          rw [Bool.eq_iff_iff, decide_eq_true_eq, decide_eq_true_eq, ← nub_lt]; omega
        refine ⟨hok, ?_⟩
        rw [hnl]
        by_cases hnd : (0 :: t).Nodup
        · simp only [show decide (¬ (0 :: t).Nodup) = false from decide_eq_false (fun z => z hnd), Bool.false_eq_true, if_false, ws_nil, ws_set, wr_c2, wr_call, wr_acons, wr_anil, wr_var, wr_c, List.getD_cons_zero, List.getD_cons_succ, e1, wr_ok, wo_ix_t, show ∀ x y : D, atI [x, y] 1 = some y from fun _ _ => rfl, wo_some, List.set_cons_zero, List.set_cons_succ, ws_ret, wr_c1, wr_lc, wr_zpN, wr_sl, wr_osome, wr_onone, wo_asint, wo_sl_t, cutG_1, List.map_cons, wo_zipN]
          have hzz : zipI (D.int 0 :: t.map D.int) (t.map D.int) = ((0 :: t).zip t).map eP := by rw [← zipI_ints]; rfl
          have hlc : ∀ L : D, L = .tup (ls.map eP) → lcGo (gN 3) (fun _ m => .ok true m) (c2 inD (cVar 3) (cVar 2)) [d, .tup (.int 0 :: t.map .int), L, .non, .non] (((0 :: t).zip t).map eP) m = .ok ((((0 :: t).zip t).map fun p => ls.contains p).map .bl) m := fun L hL => by
            subst hL
            rw [List.map_map]
            refine wr_lcEM eP _ fun p hp => ?_
            simp only [wo_gn, List.set_cons_zero, List.set_cons_succ, wr_c2, wr_var, List.getD_cons_zero, List.getD_cons_succ]
            rw [wo_in_P]
            exact ⟨by trivial, rfl⟩
          rw [hzz, List.length_map, szOk_of (by simp at hr ⊢; omega), if_pos rfl, hlc _ rfl, wr_ok, wo_all]
          refine ⟨?_, by trivial⟩
          rw [hlook]
          congr 1
          rw [Bool.eq_iff_iff, decide_eq_true_eq, List.all_eq_true]
          simp only [List.mem_map, id_eq, forall_exists_index, and_imp, forall_apply_eq_imp_iff₂]
          constructor
          · intro h
            exact ⟨by omega, rfl, hlast, hnd, fun p hp => by simpa using h p hp⟩
          · rintro ⟨-, -, -, -, h⟩ p hp
            simpa using h p hp
        · simp only [decide_eq_true hnd, if_true, ws_ret, wr_c]
          refine ⟨?_, by trivial⟩
          rw [hlook, decide_eq_false (fun z => hnd z.2.2.2.1)]
      · rw [show (l == n - 1) = false by simpa using hll]
        simp only [Bool.not_false, if_true, ws_ret, wr_c]
        refine ⟨?_, by trivial⟩
        rw [hlook, decide_eq_false (fun z => hll (by rw [hlast] at z; exact Option.some.inj z.2.2.1))]
    · rw [show (a == 0) = false by simpa using ha]
      simp only [Bool.not_false, if_true, ws_ret, wr_c]
      refine ⟨?_, by trivial⟩
      rw [hlook, decide_eq_false (fun z => ha (by simpa using z.2.1))]
/-! routes for shares (the program) -/
theorem is_past_row {e : D} {b r : List Int} {m : Mu} (he : BandD e b) {x : D} (hx : BandD x r) (hr : r.length ≤ 1000) : m_is_past [x, e] m = .ok (.bl (pastB b r)) m := by
  refine WR.eq ?_
  unfold m_is_past
  have hlc : lcGo (gN 2) (fun _ m => .ok true m) (c2 inD (cVar 2) (cVar 1)) [x, e, .non] (r.map .int) m = .ok ((r.map fun h => b.contains h).map .bl) m := by
    rw [List.map_map]
    refine wr_lcEM D.int _ fun y hy => ?_
    simp only [wo_gn, List.set_cons_zero, List.set_cons_succ, wr_c2, wr_var, List.getD_cons_zero, List.getD_cons_succ]
    cases he <;> simp [wo_in_i, wo_in_l]
  have hi : ∀ {Q : List D → Prop}, WO (itemsD m x) Q = Q (r.map .int) := fun {Q} => by cases hx <;> simp
  simp only [wr_fnC, ws_ret, wr_c1, wr_lc, wr_iseq, wr_var, List.replicate, List.cons_append, List.nil_append, List.getD_cons_zero, List.getD_cons_succ, hi, List.length_map, szOk_of (show r.length ≤ 16777216 by omega), if_true, hlc, wr_ok, wo_any]
  simp [pastB]
def rtOf (n : Int) (ls : List Ln) (b : List Int) : List Int := (arp n ls b).getD []
theorem check_ears_ok {d e : D} {n : Int} {ls : List Ln} {bss : List (List Int)} {m : Mu} (hd : NetD d n ls) (he : BandsD e bss) (g : Good n ls) (hn : n ≤ 10) (hl : ls.length ≤ 1000) (h : bss.length ≤ 1000) (hr : ∀ r ∈ bss, r.length ≤ 1000) (hE : (ears n ls bss).isEmpty = true) : m_check_ears [d, e] m = .ok .non m := by
  have e1 := unheard_ok (m := m) hd he g hn hl h hr
  refine WR.eq ?_
  unfold m_check_ears
  simp only [wr_fnC, ws_if, wr_tnot, wr_tru, wr_call, wr_acons, wr_anil, wr_var, List.replicate, List.cons_append, List.append_nil, List.nil_append, List.getD_cons_zero, List.getD_cons_succ, e1, wr_ok, wo_tru_b, hE]
  simp
theorem ears_none {n : Int} {ls : List Ln} {bss : List (List Int)} (hE : (ears n ls bss).isEmpty = true) {b : List Int} (hb : b ∈ bss) : arp n ls b = some (rtOf n ls b) := by
  unfold rtOf
  cases hq : arp n ls b with
  | some r => rfl
  | none =>
    rw [List.isEmpty_iff] at hE
    unfold ears at hE
    rw [List.filter_eq_nil_iff] at hE
    exact absurd (List.isEmpty_iff.mpr (arp_none.mp hq)) (hE b hb)
theorem share_routes_ok {d e : D} {n : Int} {ls : List Ln} {bss : List (List Int)} {m : Mu} (hd : NetD d n ls) (he : BandsD e bss) (g : Good n ls) (hn : n ≤ 10) (hl : ls.length ≤ 1000) (h : bss.length ≤ 1000) (hr : ∀ r ∈ bss, r.length ≤ 1000) (hE : (ears n ls bss).isEmpty = true) : m_share_routes [d, e] m = .ok (.tup ((bss.map (rtOf n ls)).map eT)) m := by
  have e1 := check_ears_ok (m := m) hd he g hn hl h hr hE
  have e2 := tupled_bands (m := m) he (by omega) hr
  refine WR.eq ?_
  unfold m_share_routes
  have hlc : lcGo (gN 2) (fun _ m => .ok true m) (cCall m_a_route_past (aCons (cVar 0) (aCons (cVar 2) aNil))) [d, e, .non] (bss.map eT) m = .ok ((bss.map (rtOf n ls)).map eT) m := by
    rw [List.map_map]
    refine wr_lcEM eT _ fun b hb => ?_
    have e3 := a_route_past_ok (m := m) hd (BandD.t b) g hn hl
    rw [ears_none hE hb] at e3
    have e3' : m_a_route_past [d, eT b] m = .ok (eT (rtOf n ls b)) m := e3
    simp only [wo_gn, List.set_cons_zero, List.set_cons_succ, wr_call, wr_acons, wr_anil, wr_var, List.getD_cons_zero, List.getD_cons_succ, e3', wr_ok]
    exact ⟨by trivial, by rfl⟩
  simp only [wr_fnC, ws_seq, ws_drop, wr_call, wr_acons, wr_anil, wr_var, List.replicate, List.cons_append, List.nil_append, List.getD_cons_zero, List.getD_cons_succ, e1, wr_ok, ws_ret, wr_c1, wr_lc, wr_iseq, e2, wo_items_t, List.length_map, szOk_of (show bss.length ≤ 16777216 by omega), if_true, hlc, wo_tuple_l]
  simp
theorem bsd_zipT {d : D} {bss : List (List Int)} (h : BandsD d bss) (xs : List D) : ∃ enc : List Int → D, (∀ b, BandD (enc b) b) ∧ ∀ Q : List D → Prop, WO (zipAD [.tup xs, d]) Q = Q (zipI xs (bss.map enc)) := by
  cases h with
  | t => exact ⟨eT, fun b => .t b, fun Q => wo_zipA_tt⟩
  | l => exact ⟨eL, fun b => .l b, fun Q => wo_zipA_tl⟩
theorem isr_ok {d e : D} {n : Int} {ls : List Ln} {bss rs : List (List Int)} {m : Mu} (hd : NetD d n ls) (he : BandsD e bss) (g : Good n ls) (hl : ls.length ≤ 1000) (h : rs.length ≤ 1000) (hb : rs.length = bss.length) (hr : ∀ r ∈ rs, r ∈ rts n ls [] ∧ r.length ≤ 1000) : m_is_share_routes [d, e, .tup (rs.map eT)] m = .ok (.bl ((rs.zip bss).all fun p => pastB p.2 p.1)) m := by
  obtain ⟨enc, henc, hz⟩ := bsd_zipT he (rs.map eT)
  refine WR.eq ?_
  unfold m_is_share_routes
  have hlc : lcGo (gN 5) (fun _ m => .ok true m) (cCall m_is_route (aCons (cVar 0) (aCons (cVar 5) aNil))) [d, e, .tup (rs.map eT), .non, .non, .non] (rs.map eT) m = .ok ((rs.map fun _ => true).map .bl) m := by
    rw [List.map_map]
    refine wr_lcEM eT _ fun r hr' => ?_
    have := is_route_ok (m := m) hd g hl (hr r hr').2
    rw [List.contains_iff_mem.mpr (hr r hr').1] at this
    simp only [wo_gn, List.set_cons_zero, List.set_cons_succ, wr_call, wr_acons, wr_anil, wr_var, List.getD_cons_zero, List.getD_cons_succ, this, wr_ok]
    exact ⟨by trivial, by rfl⟩
  have hlc2 : lcGo (gT 2 (gsCons (gN 3) (gsCons (gN 4) gsNil))) (fun _ m => .ok true m) (cCall m_is_past (aCons (cVar 3) (aCons (cVar 4) aNil))) [d, e, .tup (rs.map eT), .non, .non, .non] ((rs.zip bss).map fun p => .tup [eT p.1, enc p.2]) m = .ok (((rs.zip bss).map fun p => pastB p.2 p.1).map .bl) m := by
    rw [List.map_map]
    refine wr_lcEM _ _ fun p hp => ?_
    have := is_past_row (m := m) (henc p.2) (BandD.t p.1) (hr p.1 (List.of_mem_zip hp).1).2
    have this' : m_is_past [eT p.1, enc p.2] m = _ := this
    simp only [wo_gT, List.length_cons, List.length_nil, true_and, wo_gsCons, wo_gn, wo_gsNil, List.set_cons_zero, List.set_cons_succ, wr_call, wr_acons, wr_anil, wr_var, List.getD_cons_zero, List.getD_cons_succ, this', wr_ok]
    try simp
  have hzl : szOk ((rs.zip bss).map fun p => D.tup [eT p.1, enc p.2]).length = true := szOk_of (by simp; omega)
  simp only [wr_fnC, ws_seq, ws_if, wr_tor, wr_tnot, wr_tru, wr_c1, wr_var, List.replicate, List.cons_append, List.nil_append, List.getD_cons_zero, List.getD_cons_succ, show ∀ xs : List D, isiD .tuple m (.tup xs) = some (.bl true) from fun _ => rfl, wo_some, wo_tru_b, Bool.not_true, Bool.false_eq_true, if_false, wr_tcmp, wr_c2, wo_len_t, bsd_len he, wo_nei, wo_bl, List.length_map, hb, beq_self_eq_true, wr_lc, wr_iseq, wo_items_t]
  rw [szOk_of (show bss.length ≤ 16777216 by omega)]
  simp only [if_true, hlc, wr_ok, wo_all, all_tt, wo_tru_b, Bool.not_true, Bool.false_eq_true, if_false, ws_nil, ws_ret, wr_c1, wr_lc, wr_izpA, wr_acons, wr_anil, wr_var, List.getD_cons_zero, List.getD_cons_succ, hz, zipI_maps, hzl, hlc2]
  refine ⟨?_, by trivial⟩
  rw [List.all_map]; rfl
/-- the places of the rows that a band meets -/
def hrd (b : List Int) (rs : List (List Int)) : List Int := ((sfx 0 rs).filter fun p => !pastB b p.2.1).map fun p => (p.1 : Int)
theorem heard_at_ok {d e : D} {b : List Int} {rs : List (List Int)} {m : Mu} (hd : BandsD d rs) (he : BandD e b) (h : rs.length ≤ 1000) (hr : ∀ r ∈ rs, r.length ≤ 1000) : m_heard_at [d, e] m = .ok (.tup ((hrd b rs).map .int)) m := by
  have hlc : ∀ enc : List Int → D, (∀ b, BandD (enc b) b) → lcGo (gT 2 (gsCons (gN 2) (gsCons (gN 3) gsNil))) (tNot' (tTru (cCall m_is_past (aCons (cVar 3) (aCons (cVar 1) aNil))))) (cVar 2) [d, e, .non, .non] ((sfx 0 rs).map fun p => .tup [.int p.1, enc p.2.1]) m = .ok ((hrd b rs).map .int) m := fun enc henc => by
    unfold hrd
    rw [List.map_map]
    refine wr_lcE _ _ _ fun p hp => ?_
    have := is_past_row (m := m) he (henc p.2.1) (hr p.2.1 (mem_sfx hp).2.2.2.1)
    simp only [wo_gT, List.length_cons, List.length_nil, true_and, wo_gsCons, wo_gn, wo_gsNil, List.set_cons_zero, List.set_cons_succ, wr_tnot, wr_tru, wr_call, wr_acons, wr_anil, wr_var, List.getD_cons_zero, List.getD_cons_succ, this, wr_ok, wo_tru_b]
    simp
  refine WR.eq ?_
  unfold m_heard_at
  have hz : ∀ enc : List Int → D, szOk ((sfx 0 rs).map fun p => D.tup [.int p.1, enc p.2.1]).length = true := fun enc => szOk_of (by rw [List.length_map, len_sfx]; omega)
  cases hd with
  | t =>
    have hE : ∀ Q : List D → Prop, WO (enAD (.tup (rs.map eT))) Q = Q ((sfx 0 rs).map fun p => .tup [.int p.1, eT p.2.1]) := fun Q => by rw [wo_enA_t, enumI_sfx]
    simp only [wr_fnC, ws_ret, wr_c1, wr_lc, wr_ienA, wr_var, List.replicate, List.cons_append, List.nil_append, List.getD_cons_zero, List.getD_cons_succ, hE, hz eT, if_true, hlc eT fun b => .t b, wr_ok, wo_tuple_l]
    simp
  | l =>
    have hE : ∀ Q : List D → Prop, WO (enAD (.lst (rs.map eL))) Q = Q ((sfx 0 rs).map fun p => .tup [.int p.1, eL p.2.1]) := fun Q => by rw [wo_enA_l, enumI_sfx]
    simp only [wr_fnC, ws_ret, wr_c1, wr_lc, wr_ienA, wr_var, List.replicate, List.cons_append, List.nil_append, List.getD_cons_zero, List.getD_cons_succ, hE, hz eL, if_true, hlc eL fun b => .l b, wr_ok, wo_tuple_l]
    simp
/-! small plain data -/
/-- rising -/
def asc (r : List Int) : Bool := (r.zip r.tail).all fun p => decide (p.1 < p.2)
theorem cutG_tl {α : Type} (xs : List α) : cutG xs (some 1) none = xs.tail := by
  cases xs with
  | nil => rfl
  | cons x xs => rw [show (1 : Int) = ((1 : Nat) : Int) from rfl, cutG_fromN (by simp)]; rfl
def ascT (rs : List (List Int)) : Bool := (rs.zip rs.tail).all fun p => ltL p.1 p.2
theorem ascT_iff : ∀ {rs : List (List Int)}, ascT rs = true ↔ AscL rs
  | [] => by simp [ascT, AscL]
  | [_] => by simp [ascT, AscL]
  | x :: y :: r => by
    have ih := ascT_iff (rs := y :: r)
    have e : ascT (x :: y :: r) = (ltL x y && ascT (y :: r)) := by simp [ascT]
    rw [e, Bool.and_eq_true, ih]
    unfold AscL
    rw [List.pairwise_cons (a := x)]
    constructor
    · rintro ⟨h1, h2⟩
      refine ⟨fun z hz => ?_, h2⟩
      rcases List.mem_cons.mp hz with rfl | hz
      · exact h1
      · exact ltL_trans h1 ((List.pairwise_cons.mp h2).1 z hz)
    · rintro ⟨h1, h2⟩
      exact ⟨h1 y (by simp), h2⟩
theorem wo_lt_T {m : Mu} {x y : List Int} {Q : D → Prop} : WO (ltD m (eT x) (eT y)) Q = Q (.bl (ltL x y)) := by
  have h1 : (eT x).pl PLN = true := pl_eT (n := 39)
  have h2 : (eT y).pl PLN = true := pl_eT (n := 39)
  have h3 : (eT x).alk (eT y) = true := by unfold eT; simp only [D.alk, alk_ints]
  unfold ltD ltOk
  rw [h1, h2, h3, eT_lt]
  show WO (some _) Q = _
  rw [wo_some]
theorem rises_rows {rs : List (List Int)} {m : Mu} (h : rs.length ≤ 1000) : m_rises [.tup (rs.map eT)] m = .ok (.bl (ascT rs)) m := by
  refine WR.eq ?_
  unfold m_rises
  have hlc : lcGo (gT 2 (gsCons (gN 1) (gsCons (gN 2) gsNil))) (fun _ m => .ok true m) (c2 ltD (cVar 1) (cVar 2)) [.tup (rs.map eT), .non, .non] ((rs.zip rs.tail).map fun p => .tup [eT p.1, eT p.2]) m = .ok (((rs.zip rs.tail).map fun p => ltL p.1 p.2).map .bl) m := by
    rw [List.map_map (l := rs.zip rs.tail)]
    refine wr_lcEM _ _ fun p hp => ?_
    simp only [wo_gT, List.length_cons, List.length_nil, true_and, wo_gsCons, wo_gn, wo_gsNil, List.set_cons_zero, List.set_cons_succ, wr_c2, wr_var, List.getD_cons_zero, List.getD_cons_succ, wo_lt_T]
    first | rfl | exact ⟨by trivial, rfl⟩
  have hz : zipI (rs.map eT) (rs.tail.map eT) = (rs.zip rs.tail).map fun p => .tup [eT p.1, eT p.2] := zipI_maps _ _ _ _
  have hzl : szOk ((rs.zip rs.tail).map fun p => D.tup [eT p.1, eT p.2]).length = true := szOk_of (by simp; omega)
  simp only [wr_fnC, ws_ret, wr_c1, wr_lc, wr_izpA, wr_acons, wr_anil, wr_var, wr_sl, wr_onone, wr_osome, wr_c, List.replicate, List.cons_append, List.nil_append, List.getD_cons_zero, List.getD_cons_succ, show asInt (D.int 1) = some 1 from rfl, wo_some, wo_sl_t, cutG_tl, if_true]
  rw [← List.map_tail, wo_zipA_tt, hz, hzl]
  simp only [if_true, hlc, wr_ok, wo_all]
  refine ⟨?_, by trivial⟩
  rw [List.all_map]; rfl
theorem BandsD.items {d : D} {bss : List (List Int)} {m : Mu} (h : BandsD d bss) : ∃ f : List Int → D, (∀ b, BandD (f b) b) ∧ ∀ {Q : List D → Prop}, WO (itemsD m d) Q = Q (bss.map f) := by
  cases h with
  | t => exact ⟨eT, fun b => .t b, by simp⟩
  | l => exact ⟨eL, fun b => .l b, by simp⟩
/-! routes among things -/
def eG (p : List (List Int)) : D := .tup (p.map eT)
theorem wo_items_G {m : Mu} {p : List (List Int)} {Q : List D → Prop} : WO (itemsD m (eG p)) Q = Q (p.map eT) := wo_items_t
theorem atI_k {α : Type} {xs : List α} {k : Nat} {z : α} (h : xs[k]? = some z) : atI xs (k : Int) = some z := by
  have hk := (List.getElem?_eq_some_iff.mp h).1
  unfold atI ixN
  rw [if_pos (by omega), if_pos (by omega)]
  simpa using h
/-! things that may hold errors, told apart from tuples of numbers -/
/-! from house to house -/
structure Sht (n : Int) (ls : List Ln) (b P R : List Int) : Prop where
  nd : (P ++ R).Nodup
  rg : ∀ x ∈ P ++ R, 0 ≤ x ∧ x < n
  cl : ∀ p ∈ P, ∀ q, (p, q) ∈ ls → q ∉ b → q ∈ P ++ R
  pa : ∀ x ∈ P ++ R, ∃ s, Val ls b [0] s ∧ ([0] ++ s).getLast? = some x ∧ ∀ y ∈ s, y ∈ P ++ R
  z : (0 : Int) ∈ P ++ R
theorem Sht.len {n : Int} {ls : List Ln} {b P R : List Int} (h : Sht n ls b P R) (hn : 0 ≤ n) : P.length + R.length ≤ n.toNat := by
  have := len_le (n := n.toNat) h.nd fun x hx => by have := h.rg x hx; omega
  rw [List.length_append] at this; exact this
theorem sfx_at {α : Type} : ∀ {l : List α} {i : Nat} {x : α} {r : List α}, (i + l.length, x, x :: r) ∈ sfx i (l ++ x :: r)
  | [], i, x, r => by simp [sfx]
  | y :: l, i, x, r => by
    rw [List.cons_append, sfx, List.length_cons]
    refine List.mem_cons_of_mem _ ?_
    have := sfx_at (l := l) (i := i + 1) (x := x) (r := r)
    rwa [show i + 1 + l.length = i + (l.length + 1) by omega] at this
/-! three bands, papers for triples (general copies of parts of k20, k22) -/
theorem told2 {m : Mu} {xs : List Int} {k : Int} (hk : 0 < k) : m_told_number [.tup (xs.map .int), .int k] m = .ok (.int (xs.sum % k)) m := by
  simp [m_told_number, fnC, sRet, c2, c1, cVar, sumD', R.bind, R.of, intsOf_map, toS, endR, modD, hk]
theorem shares2 {m : Mu} {xs : List Int} {j k : Int} (hk : 0 < k) (hl : xs.length ≤ 1000) : m_shares_of [.int j, .tup (xs.map .int), .int k] m = .ok (.tup ((xs ++ [(j - xs.sum) % k]).map .int)) m := by
  simp [m_shares_of, fnC, sRet, c2, c1, cVar, sumD', R.bind, R.of, intsOf_map, toS, endR, modD, hk, cTup, aStar, itemsD, aCons, aNil, subD]
  rw [if_pos (szOk_of (by omega))]
theorem sum_back {xs : List Int} {q k : Int} (h0 : 0 ≤ q) (h1 : q < k) : (xs ++ [(q - xs.sum) % k]).sum % k = q := by
  rw [List.sum_append]
  simp only [List.sum_cons, List.sum_nil, Int.add_zero]
  rw [Int.add_emod, Int.emod_emod, ← Int.add_emod]
  rw [show xs.sum + (q - xs.sum) = q by omega]
  exact Int.emod_eq_of_lt h0 h1
theorem mul_repD {m : Mu} {d : D} {K : Nat} {Q : D → Prop} (h : K ≤ 1000) : WO (mulD m (.lst [d]) (.int (K : Nat))) Q = Q (.lst (List.replicate K d)) := by
  show WO (if (Nat.ble (K : Int).toNat 1000000 && szOk (([d] : List D).length * (K : Int).toNat) && decide ((-1000000 : Int) ≤ (K : Int))) = true then some (D.lst (List.replicate (K : Int).toNat [d]).flatten) else none) Q = _
  have e1 : (K : Int).toNat = K := Int.toNat_natCast K
  rw [e1, szOk_of (by simp; omega), decide_eq_true (by omega), Nat.ble_eq_true_of_le (by omega)]
  simp only [Bool.and_self, if_true, wo_some]
  rw [List.flatten_replicate_singleton]
/-! as few routes as can be: sets of bands by laps (plain) -/
theorem leastN {P : Nat → Prop} : ∀ k, P k → ∃ t, t ≤ k ∧ P t ∧ ∀ j, j < t → ¬ P j := by
  intro k
  induction k using Nat.strongRecOn with
  | ind k ih =>
    intro hk
    by_cases h : ∃ j, j < k ∧ P j
    · obtain ⟨j, hj, hp⟩ := h
      obtain ⟨t, h1, h2, h3⟩ := ih j hj hp
      exact ⟨t, by omega, h2, h3⟩
    · exact ⟨k, Nat.le_refl _, hk, fun j hj hp => h ⟨j, hj, hp⟩⟩
abbrev Fd := List (List Int × List (List Int))
def lkF (f : Fd) (k : List Int) : Option (List (List Int)) := (f.find? fun p => p.1 == k).map (·.2)
theorem lkF_some {f : Fd} {k : List Int} {c : List (List Int)} (h : lkF f k = some c) : (k, c) ∈ f := by
  unfold lkF at h
  cases hf : f.find? fun p => p.1 == k with
  | none => rw [hf] at h; cases h
  | some p =>
    rw [hf] at h
    have h1 := List.find?_some hf
    have h2 := List.mem_of_find?_eq_some hf
    simp at h h1
    rw [← h1, ← h]; exact h2
theorem lkF_none {f : Fd} {k : List Int} : lkF f k = none ↔ ∀ c, (k, c) ∉ f := by
  unfold lkF
  rw [Option.map_eq_none_iff, List.find?_eq_none]
  constructor
  · intro h c hc
    exact h _ hc (by simp)
  · intro h p hp e
    refine h p.2 ?_
    have : p.1 = k := by simpa using e
    rw [← this]; exact hp
/-- the places of the bands that a route is past -/
def plc (bss : List (List Int)) (r : List Int) : List Int := ((sfx 0 bss).filter fun p => pastB p.2.1 r).map fun p => (p.1 : Int)
theorem mem_sfx_at : ∀ {bss : List (List Int)} {k j : Nat} {b : List Int}, bss[j]? = some b → ∃ rest, (k + j, b, rest) ∈ sfx k bss
  | x :: r, k, 0, b, h => by
    simp at h; subst h
    exact ⟨x :: r, by rw [sfx]; simp⟩
  | x :: r, k, j + 1, b, h => by
    obtain ⟨rest, hr⟩ := mem_sfx_at (bss := r) (k := k + 1) (j := j) (b := b) (by simpa using h)
    refine ⟨rest, ?_⟩
    rw [sfx, show k + (j + 1) = k + 1 + j by omega]
    exact List.mem_cons_of_mem _ hr
theorem mem_plc {bss : List (List Int)} {r : List Int} {x : Int} : x ∈ plc bss r ↔ ∃ (j : Nat) (b : List Int), bss[j]? = some b ∧ x = j ∧ pastB b r = true := by
  unfold plc
  rw [List.mem_map]
  constructor
  · rintro ⟨p, hp, rfl⟩
    obtain ⟨h1, h2⟩ := List.mem_filter.mp hp
    obtain ⟨-, q2, q3, -, -, rr, q4⟩ := mem_sfx h1
    refine ⟨p.1, p.2.1, ?_, rfl, h2⟩
    rw [Nat.sub_zero, q4] at q3
    have := congrArg (fun z => z[0]?) q3
    simpa using this
  · rintro ⟨j, b, h1, rfl, h2⟩
    obtain ⟨rest, hr⟩ := mem_sfx_at (k := 0) h1
    rw [Nat.zero_add] at hr
    exact ⟨_, List.mem_filter.mpr ⟨hr, h2⟩, rfl⟩
theorem plc_len {bss : List (List Int)} {r : List Int} : (plc bss r).length ≤ bss.length := by
  unfold plc
  rw [List.length_map]
  have := List.length_filter_le (fun p : Nat × List Int × List (List Int) => pastB p.2.1 r) (sfx 0 bss)
  rw [len_sfx] at this
  exact this
def allP (bss : List (List Int)) : List Int := (List.range bss.length).map fun (k : Nat) => (k : Int)
theorem mem_allP {bss : List (List Int)} {x : Int} : x ∈ allP bss ↔ ∃ j : Nat, j < bss.length ∧ x = j := by
  unfold allP
  rw [List.mem_map]
  exact ⟨fun ⟨j, h1, h2⟩ => ⟨j, List.mem_range.mp h1, h2.symm⟩, fun ⟨j, h1, h2⟩ => ⟨j, List.mem_range.mpr h1, h2.symm⟩⟩
theorem asc_allP (bss : List (List Int)) : (allP bss).Pairwise (· < ·) := List.pairwise_map.mpr (List.pairwise_lt_range.imp fun h => by omega)
theorem uni_pw (xs : List Int) : (uni xs).Pairwise (· < ·) := by
  refine (List.Pairwise.and (nodup_uni xs) (List.pairwise_map.mp (asc_uni xs))).imp fun {a b} ⟨h1, h2⟩ => ?_
  unfold leD' at h2
  have h3 : ¬ b < a := by simpa [D.lt] using h2
  omega
theorem pw_eqI : ∀ {xs ys : List Int}, xs.Pairwise (· < ·) → ys.Pairwise (· < ·) → (∀ x, x ∈ xs ↔ x ∈ ys) → xs = ys
  | [], [], _, _, _ => rfl
  | [], y :: ys, _, _, h => by have := (h y).mpr (by simp); simp at this
  | x :: xs, [], _, _, h => by have := (h x).mp (by simp); simp at this
  | x :: xs, y :: ys, hx, hy, h => by
    obtain ⟨a1, a2⟩ := List.pairwise_cons.mp hx
    obtain ⟨b1, b2⟩ := List.pairwise_cons.mp hy
    have e : x = y := by
      rcases List.mem_cons.mp ((h x).mp (by simp)) with z | z
      · exact z
      · rcases List.mem_cons.mp ((h y).mpr (by simp)) with w | w
        · exact w.symm
        · have := a1 y w; have := b1 x z; omega
    subst e
    rw [pw_eqI a2 b2 fun z => ?_]
    constructor
    · intro hz
      rcases List.mem_cons.mp ((h z).mp (by simp [hz])) with w | w
      · have := a1 z hz; omega
      · exact w
    · intro hz
      rcases List.mem_cons.mp ((h z).mpr (by simp [hz])) with w | w
      · have := b1 z hz; omega
      · exact w
def addF (bss : List (List Int)) (found later : Fd) (p : List Int × List (List Int)) (r : List Int) : Fd :=
  if (lkF found (uni (p.1 ++ plc bss r))).isNone && (lkF later (uni (p.1 ++ plc bss r))).isNone then later ++ [(uni (p.1 ++ plc bss r), p.2 ++ [r])] else later
def rowF (W bss : List (List Int)) (found later : Fd) (p : List Int × List (List Int)) : Fd := W.foldl (fun l r => addF bss found l p r) later
def stpF (W bss : List (List Int)) (found : Fd) : Fd := found.foldl (fun l p => rowF W bss found l p) []
def itF (W bss : List (List Int)) : Nat → Fd
  | 0 => [([], [])]
  | t + 1 => stpF W bss (itF W bss t)
/-- what is known of the sets behind t laps -/
structure RF (W bss : List (List Int)) (t : Nat) (f : Fd) : Prop where
  nd : (f.map (·.1)).Nodup
  len : ∀ p ∈ f, p.2.length = t
  sub : ∀ p ∈ f, ∀ r ∈ p.2, r ∈ W
  key : ∀ p ∈ f, p.1 = uni (p.2.flatMap (plc bss))
theorem RF.zero (W bss : List (List Int)) : RF W bss 0 [([], [])] := ⟨by simp, by simp, by simp, by intro p hp; simp at hp; subst hp; exact (pw_eqI (uni_pw _) .nil fun x => by rw [mem_uni]; simp).symm⟩
theorem RF.nil (W bss : List (List Int)) (t : Nat) : RF W bss t [] := ⟨by simp, by simp, by simp, by simp⟩
theorem addF_ok {W bss : List (List Int)} {t : Nat} {found later : Fd} {p : List Int × List (List Int)} {r : List Int} (h1 : RF W bss t found) (h2 : RF W bss (t + 1) later) (hp : p ∈ found) (hr : r ∈ W) : RF W bss (t + 1) (addF bss found later p r) := by
  unfold addF
  split
  · rename_i hc
    rw [Bool.and_eq_true] at hc
    have hn := lkF_none.mp (Option.isNone_iff_eq_none.mp hc.2)
    refine ⟨?_, fun q hq => ?_, fun q hq => ?_, fun q hq => ?_⟩
    · rw [List.map_append, List.nodup_append]
      refine ⟨h2.nd, by simp, fun a ha b hb e => ?_⟩
      simp at hb
      obtain ⟨q, hq, rfl⟩ := List.mem_map.mp ha
      refine hn q.2 ?_
      rw [← hb, ← e]; exact hq
    · rcases List.mem_append.mp hq with z | z
      · exact h2.len q z
      · rw [List.mem_singleton.mp z]; simp [h1.len p hp]
    · rcases List.mem_append.mp hq with z | z
      · exact h2.sub q z
      · rw [List.mem_singleton.mp z]
        intro s hs
        rcases List.mem_append.mp hs with w | w
        · exact h1.sub p hp s w
        · rw [List.mem_singleton.mp w]; exact hr
    · rcases List.mem_append.mp hq with z | z
      · exact h2.key q z
      · rw [List.mem_singleton.mp z]
        refine uni_ext fun x => ?_
        rw [List.mem_append, h1.key p hp, mem_uni, List.flatMap_append, List.mem_append]
        simp
  · exact h2
theorem foldl_inv {α β : Type} {f : β → α → β} {P : β → Prop} : ∀ {xs : List α} {b : β}, P b → (∀ b, P b → ∀ x ∈ xs, P (f b x)) → P (xs.foldl f b)
  | [], _, h, _ => h
  | x :: xs, b, h, hs => by
    rw [List.foldl_cons]
    exact foldl_inv (P := P) (hs b h x (by simp)) fun b hb y hy => hs b hb y (by simp [hy])
theorem rowF_ok {W bss : List (List Int)} {t : Nat} {found later : Fd} {p : List Int × List (List Int)} (h1 : RF W bss t found) (h2 : RF W bss (t + 1) later) (hp : p ∈ found) : RF W bss (t + 1) (rowF W bss found later p) :=
  foldl_inv (P := RF W bss (t + 1)) h2 fun l hl r hr => addF_ok h1 hl hp hr
theorem stpF_ok {W bss : List (List Int)} {t : Nat} {found : Fd} (h1 : RF W bss t found) : RF W bss (t + 1) (stpF W bss found) :=
  foldl_inv (P := RF W bss (t + 1)) (RF.nil W bss _) fun l hl p hp => rowF_ok h1 hl hp
theorem itF_ok (W bss : List (List Int)) : ∀ t, RF W bss t (itF W bss t)
  | 0 => RF.zero W bss
  | t + 1 => stpF_ok (itF_ok W bss t)
theorem addF_keep {bss : List (List Int)} {found later : Fd} {p q : List Int × List (List Int)} {r : List Int} (h : q ∈ later) : q ∈ addF bss found later p r := by
  unfold addF
  split
  · exact List.mem_append_left _ h
  · exact h
theorem addF_has {bss : List (List Int)} {found later : Fd} {p : List Int × List (List Int)} {r : List Int} : (∃ c, (uni (p.1 ++ plc bss r), c) ∈ found) ∨ ∃ c, (uni (p.1 ++ plc bss r), c) ∈ addF bss found later p r := by
  unfold addF
  cases h1 : lkF found (uni (p.1 ++ plc bss r)) with
  | some c => exact .inl ⟨c, lkF_some h1⟩
  | none =>
    cases h2 : lkF later (uni (p.1 ++ plc bss r)) with
    | some c =>
      refine .inr ⟨c, ?_⟩
      rw [if_neg (by simp)]
      exact lkF_some h2
    | none =>
      refine .inr ⟨p.2 ++ [r], ?_⟩
      rw [if_pos (by simp)]
      simp
theorem stpF_has {W bss : List (List Int)} {found : Fd} {p : List Int × List (List Int)} {r : List Int} (hp : p ∈ found) (hr : r ∈ W) : (∃ c, (uni (p.1 ++ plc bss r), c) ∈ found) ∨ ∃ c, (uni (p.1 ++ plc bss r), c) ∈ stpF W bss found := by
  by_cases hf : ∃ c, (uni (p.1 ++ plc bss r), c) ∈ found
  · exact .inl hf
  right
  have keepR : ∀ (p' : List Int × List (List Int)) (later : Fd) q, q ∈ later → q ∈ rowF W bss found later p' := fun p' later q hq => foldl_inv (P := fun l => q ∈ l) hq fun l hl r _ => addF_keep hl
  obtain ⟨A, B, hAB⟩ := List.append_of_mem hp
  obtain ⟨C, E, hCE⟩ := List.append_of_mem hr
  have key : ∃ c, (uni (p.1 ++ plc bss r), c) ∈ rowF W bss found (A.foldl (fun l p => rowF W bss found l p) []) p := by
    unfold rowF
    rw [hCE, List.foldl_append, List.foldl_cons]
    rcases addF_has (bss := bss) (found := found) (later := C.foldl (fun l r => addF bss found l p r) (A.foldl (fun l p => (C ++ r :: E).foldl (fun l r => addF bss found l p r) l) [])) (p := p) (r := r) with z | ⟨c, hc⟩
    · exact absurd z hf
    · exact ⟨c, foldl_inv (P := fun l => _ ∈ l) hc fun l hl r _ => addF_keep hl⟩
  obtain ⟨c, hc⟩ := key
  refine ⟨c, ?_⟩
  have e : stpF W bss found = (A ++ p :: B).foldl (fun l p => rowF W bss found l p) [] := by unfold stpF; rw [← hAB]
  rw [e, List.foldl_append, List.foldl_cons]
  exact foldl_inv (P := fun l => _ ∈ l) hc fun l hl p' _ => keepR p' l _ hl
def Cov (bss F : List (List Int)) : Prop := ∀ b ∈ bss, ∃ r ∈ F, pastB b r = true
theorem cov_uni {bss F : List (List Int)} : uni (F.flatMap (plc bss)) = allP bss ↔ Cov bss F := by
  constructor
  · intro h b hb
    obtain ⟨j, hj⟩ := List.mem_iff_getElem?.mp hb
    have hjl := (List.getElem?_eq_some_iff.mp hj).1
    have : (j : Int) ∈ uni (F.flatMap (plc bss)) := by rw [h]; exact mem_allP.mpr ⟨j, hjl, rfl⟩
    obtain ⟨r, hr, hx⟩ := List.mem_flatMap.mp (mem_uni.mp this)
    obtain ⟨j', b', h1, h2, h3⟩ := mem_plc.mp hx
    have : j = j' := by omega
    subst this
    rw [hj] at h1; cases h1
    exact ⟨r, hr, h3⟩
  · intro h
    refine pw_eqI (uni_pw _) (asc_allP bss) fun x => ?_
    rw [mem_uni, mem_allP, List.mem_flatMap]
    constructor
    · rintro ⟨r, hr, hx⟩
      obtain ⟨j, b, h1, h2, h3⟩ := mem_plc.mp hx
      exact ⟨j, (List.getElem?_eq_some_iff.mp h1).1, h2⟩
    · rintro ⟨j, hj, rfl⟩
      obtain ⟨r, hr, hp⟩ := h _ (List.getElem_mem hj)
      exact ⟨r, hr, mem_plc.mpr ⟨j, _, List.getElem?_eq_getElem hj, rfl, hp⟩⟩
/-- the laps end at the least number of routes -/
structure Few (W bss : List (List Int)) (t : Nat) (c : List (List Int)) : Prop where
  here : lkF (itF W bss t) (allP bss) = some c
  not : ∀ j, j < t → lkF (itF W bss j) (allP bss) = none
  le : t ≤ bss.length
  len : c.length = t
  sub : ∀ r ∈ c, r ∈ W
  cov : Cov bss c
  least : ∀ F : List (List Int), (∀ r ∈ F, r ∈ W) → Cov bss F → t ≤ F.length
theorem few_ex {W bss : List (List Int)} (hc : ∀ b ∈ bss, ∃ r ∈ W, pastB b r = true) : ∃ t c, Few W bss t c := by
  have h0 : ∃ F : List (List Int), F.length = bss.length ∧ (∀ r ∈ F, r ∈ W) ∧ Cov bss F := by
    have : ∀ bs : List (List Int), (∀ b ∈ bs, ∃ r ∈ W, pastB b r = true) → ∃ F : List (List Int), F.length = bs.length ∧ (∀ r ∈ F, r ∈ W) ∧ Cov bs F := by
      intro bs
      induction bs with
      | nil => intro _; exact ⟨[], rfl, by simp, by intro b hb; cases hb⟩
      | cons b bs ih =>
        intro h
        obtain ⟨F, f1, f2, f3⟩ := ih fun b hb => h b (by simp [hb])
        obtain ⟨r, hr, hp⟩ := h b (by simp)
        refine ⟨r :: F, by simp [f1], fun s hs => ?_, fun b' hb' => ?_⟩
        · rcases List.mem_cons.mp hs with rfl | z
          · exact hr
          · exact f2 s z
        · rcases List.mem_cons.mp hb' with rfl | z
          · exact ⟨r, by simp, hp⟩
          · obtain ⟨s, hs, hsp⟩ := f3 b' z
            exact ⟨s, by simp [hs], hsp⟩
    exact this bss hc
  obtain ⟨T, hT, ⟨F, hF1, hF2, hF3⟩, hmin⟩ := leastN (P := fun k => ∃ F : List (List Int), F.length = k ∧ (∀ r ∈ F, r ∈ W) ∧ Cov bss F) bss.length h0
  have hgo : ∀ i, i ≤ T → ∃ c, (uni ((F.take i).flatMap (plc bss)), c) ∈ itF W bss i := by
    intro i
    induction i with
    | zero =>
      intro _
      refine ⟨[], ?_⟩
      have : uni ((F.take 0).flatMap (plc bss)) = [] := by simp; exact pw_eqI (uni_pw _) .nil fun x => by rw [mem_uni]
      rw [this]; simp [itF]
    | succ i ih =>
      intro hi
      obtain ⟨c, hc⟩ := ih (by omega)
      have hiF : i < F.length := by omega
      have htk : F.take (i + 1) = F.take i ++ [F[i]] := by rw [List.take_add_one, List.getElem?_eq_getElem hiF]; rfl
      have hk : uni ((F.take (i + 1)).flatMap (plc bss)) = uni (uni ((F.take i).flatMap (plc bss)) ++ plc bss F[i]) := by
        refine uni_ext fun x => ?_
        rw [htk, List.flatMap_append, List.mem_append, List.mem_append, mem_uni]
        simp
      rw [hk]
      rcases stpF_has (W := W) (bss := bss) hc (hF2 _ (List.getElem_mem hiF)) with ⟨c', hc'⟩ | z
      · exfalso
        have rf := itF_ok W bss i
        have hlen := rf.len _ hc'
        have hkey := rf.key _ hc'
        have hsub := rf.sub _ hc'
        simp only at hlen hkey hsub
        refine hmin (i + (T - (i + 1))) (by omega) ⟨c' ++ F.drop (i + 1), by rw [List.length_append, hlen, List.length_drop, hF1], fun r hr => ?_, fun b hb => ?_⟩
        · rcases List.mem_append.mp hr with w | w
          · exact hsub r w
          · exact hF2 r (List.mem_of_mem_drop w)
        · obtain ⟨r, hr, hp⟩ := hF3 b hb
          rw [← List.take_append_drop (i + 1) F] at hr
          rcases List.mem_append.mp hr with w | w
          · obtain ⟨j, hj⟩ := List.mem_iff_getElem?.mp hb
            have hx : (j : Int) ∈ uni (c'.flatMap (plc bss)) := by
              rw [← hkey, ← hk, mem_uni]
              exact List.mem_flatMap.mpr ⟨r, w, mem_plc.mpr ⟨j, b, hj, rfl, hp⟩⟩
            obtain ⟨s, hs, hsx⟩ := List.mem_flatMap.mp (mem_uni.mp hx)
            obtain ⟨j', b', q1, q2, q3⟩ := mem_plc.mp hsx
            have : j = j' := by omega
            subst this
            rw [hj] at q1; cases q1
            exact ⟨s, List.mem_append_left _ hs, q3⟩
          · exact ⟨r, List.mem_append_right _ w, hp⟩
      · exact z
  obtain ⟨c0, hc0⟩ := hgo T (Nat.le_refl _)
  rw [show F.take T = F by rw [← hF1]; exact List.take_length, cov_uni.mpr hF3] at hc0
  have hno : ∀ j, j < T → lkF (itF W bss j) (allP bss) = none := fun j hj => by
    rw [lkF_none]
    intro c hc
    have rf := itF_ok W bss j
    exact hmin j hj ⟨c, rf.len _ hc, rf.sub _ hc, cov_uni.mp (rf.key _ hc).symm⟩
  cases hl : lkF (itF W bss T) (allP bss) with
  | none => exact absurd hc0 (lkF_none.mp hl c0)
  | some c =>
    have hm := lkF_some hl
    have rf := itF_ok W bss T
    exact ⟨T, c, hl, hno, hT, rf.len _ hm, rf.sub _ hm, cov_uni.mp (rf.key _ hm).symm, fun G g1 g2 => by
      rcases Nat.lt_or_ge G.length T with z | z
      · exact absurd ⟨G, rfl, g1, g2⟩ (hmin _ z)
      · exact z⟩
def bfsF (W bss : List (List Int)) : Nat → Fd → List (List Int)
  | 0, _ => []
  | k + 1, f => match lkF f (allP bss) with
    | some c => c
    | none => bfsF W bss k (stpF W bss f)
def fewR (W bss : List (List Int)) : List (List Int) := sortL (bfsF W bss (bss.length + 1) [([], [])])
theorem bfsF_few {W bss : List (List Int)} {t : Nat} {c : List (List Int)} (h : Few W bss t c) : ∀ j i, j + i = t → ∀ k, j < k → bfsF W bss k (itF W bss i) = c
  | 0, i, e, k + 1, _ => by
    have : i = t := by omega
    subst this
    rw [bfsF, h.here]
  | j + 1, i, e, k + 1, hk => by
    rw [bfsF, h.not i (by omega)]
    exact bfsF_few h j (i + 1) (by omega) k (by omega)
theorem fewR_few {W bss : List (List Int)} {t : Nat} {c : List (List Int)} (h : Few W bss t c) : fewR W bss = sortL c := by
  unfold fewR
  rw [show ([([], [])] : Fd) = itF W bss 0 from rfl, bfsF_few h t 0 (by omega) _ (by have := h.le; omega)]
theorem Few.nodup {W bss : List (List Int)} {t : Nat} {c : List (List Int)} (h : Few W bss t c) : c.Nodup := by
  refine Decidable.byContradiction fun hn => ?_
  have : ∃ A B E : List (List Int), ∃ x, c = A ++ x :: B ++ x :: E := by
    clear h
    induction c with
    | nil => exact absurd .nil hn
    | cons x c ih =>
      by_cases hx : x ∈ c
      · obtain ⟨B, E, rfl⟩ := List.append_of_mem hx
        exact ⟨[], B, E, x, rfl⟩
      · obtain ⟨A, B, E, y, rfl⟩ := ih fun z => hn (List.nodup_cons.mpr ⟨hx, z⟩)
        exact ⟨x :: A, B, E, y, rfl⟩
  obtain ⟨A, B, E, x, rfl⟩ := this
  have := h.least (A ++ x :: B ++ E) (fun r hr => h.sub r (by simp at hr ⊢; grind)) fun b hb => by
    obtain ⟨r, hr, hp⟩ := h.cov b hb
    exact ⟨r, by simp at hr ⊢; grind, hp⟩
  have hl := h.len
  simp at this hl
  omega
/-! few_routes: the walk -/
def eFp (p : List Int × List (List Int)) : D × D := (eT p.1, eG p.2)
def eFd (f : Fd) : List (D × D) := f.map eFp
theorem keyOk_all (r : List Int) : keyOk true (eT r) = true := by
  cases r with
  | nil => rfl
  | cons x r => exact keyOk_eT (by simp)
theorem keys_eFd (f : Fd) : (eFd f).all (fun kv => keyOk true kv.1) = true := by
  rw [List.all_eq_true]
  intro d hd
  obtain ⟨p, _, rfl⟩ := List.mem_map.mp hd
  exact keyOk_all p.1
theorem dfind_eFd (f : Fd) (k : List Int) : dfind (eFd f) (eT k) = (lkF f k).map eG := by
  unfold dfind lkF eFd
  induction f with
  | nil => rfl
  | cons p f ih =>
    rw [List.map_cons, List.find?_cons, List.find?_cons]
    have e : (eFp p).1.eqv (eT k) = (p.1 == k) := by rw [show (eFp p).1 = eT p.1 from rfl, eT_eqv]
    rw [e]
    cases h : (p.1 == k) with
    | true => rfl
    | false => exact ih
theorem putD_eFd {f : Fd} {k : List Int} {c : List (List Int)} (h : lkF f k = none) : putD (eFd f) (eT k) (eG c) = eFd (f ++ [(k, c)]) := by
  unfold putD
  have : (eFd f).any (fun kv => kv.1.eqv (eT k)) = false := by
    rw [List.any_eq_false]
    intro d hd
    obtain ⟨p, hp, rfl⟩ := List.mem_map.mp hd
    have e : (eFp p).1.eqv (eT k) = (p.1 == k) := by rw [show (eFp p).1 = eT p.1 from rfl, eT_eqv]
    rw [e]
    have := lkF_none.mp h p.2
    intro z
    have z : p.1 = k := by simpa using z
    rw [← z] at this
    exact this hp
  rw [this]
  simp only [Bool.false_eq_true, if_false]
  unfold eFd
  rw [List.map_append]; rfl
theorem ws_okS {r : SR} {Qn : Gam → Mu → Prop} {Qr : D → Mu → Prop} (h : WS r Qn fun _ _ => False) : WS (okS r) Qn Qr := by
  cases r with
  | nx Γ m => rw [ws_nx] at h; unfold okS; rw [ws_nx]; exact h
  | rt d m => rw [ws_rt] at h; exact h.elim
  | exc c fs Γ m => exact absurd h (by rw [ws_eq]; exact fun z => z)
  | bad => exact absurd h (by rw [ws_eq]; exact fun z => z)
theorem ws_forI {i : Nat} {ct : GC} {cb : SC} {Γ : Gam} {m : Mu} {f : Fd} {Qn : Gam → Mu → Prop} {Qr : D → Mu → Prop} (h : Γ.getD i .non = .dct true (eFd f)) (hl : WS (loopS ct cb (f.map fun p => D.tup [eT p.1, eG p.2]) Γ m) Qn fun _ _ => False) : WS (sForI i ct cb Γ m) Qn Qr := by
  unfold sForI
  rw [h]
  have e : itemsOf (.dct true (eFd f)) = some (f.map fun p => D.tup [eT p.1, eG p.2]) := by
    show (if (eFd f).all (fun kv => keyOk true kv.1) = true then some ((eFd f).map fun kv => D.tup [kv.1, kv.2]) else none) = _
    rw [if_pos (keys_eFd f)]
    unfold eFd
    rw [List.map_map]; rfl
  rw [e]
  exact ws_okS hl
theorem ws_mv {i j : Nat} {Γ : Gam} {m : Mu} {Qn : Gam → Mu → Prop} {Qr : D → Mu → Prop} : WS (sMv i j Γ m) Qn Qr = Qn ((Γ.set i (Γ.getD j .non)).set j .non) m := ws_nx
theorem RF.few {W bss : List (List Int)} {t : Nat} {f : Fd} (h : RF W bss t f) (hb : bss.length ≤ 8) : f.length ≤ 256 := by
  have h1 := Mg.nodup_le (ys := powL (allP bss)) h.nd fun k hk => by
    obtain ⟨p, hp, rfl⟩ := List.mem_map.mp hk
    rw [mem_powL (asc_allP bss), h.key p hp]
    refine ⟨uni_pw _, fun x hx => ?_⟩
    obtain ⟨r, _, hr⟩ := List.mem_flatMap.mp (mem_uni.mp hx)
    obtain ⟨j, b, h1, h2, _⟩ := mem_plc.mp hr
    exact mem_allP.mpr ⟨j, (List.getElem?_eq_some_iff.mp h1).1, h2⟩
  rw [List.length_map, len_powL] at h1
  have h2 : (allP bss).length ≤ 8 := by unfold allP; rw [List.length_map, List.length_range]; exact hb
  exact Nat.le_trans h1 (Nat.le_trans (Nat.pow_le_pow_right (by decide) h2) (by decide))
def eRp (bss : List (List Int)) (r : List Int) : D := .tup [eT r, .lst ((plc bss r).map .int)]
section
variable {d e : D} {n : Int} {ls : List Ln} {bss : List (List Int)} {m : Mu} (hd : NetD d n ls) (he : BandsD e bss) (g : Good n ls) (hn : n ≤ 10) (hl : ls.length ≤ 1000) (h8 : bss.length ≤ 8) (hr : ∀ r ∈ bss, r.length ≤ 1000)
include hd he g hn hl h8 hr in
theorem few_routes_ok (hE : (ears n ls bss).isEmpty = true) (h0 : ∀ b ∈ bss, (0 : Int) ∉ b) (hrl : (rts n ls []).length ≤ 1000) : m_few_routes [d, e] m = .ok (.tup ((fewR (rts n ls []) bss).map eT)) m := by
  have ce := check_ears_ok (m := m) hd he g hn hl (by omega) hr hE
  have tb := tupled_bands (m := m) he (by omega) hr
  have r1 := routes_ok (m := m) hd g hn hl
  have hcov : ∀ b ∈ bss, ∃ r ∈ rts n ls [], pastB b r = true := fun b hb => by
    unfold ears at hE
    rw [List.isEmpty_iff, List.filter_eq_nil_iff] at hE
    have hne := hE b hb
    have hf := rts_filter (b := []) (c := b) g (h0 b hb)
    rw [List.nil_append] at hf
    cases hq : rts n ls b with
    | nil => rw [hq] at hne; simp at hne
    | cons r rest =>
      have : r ∈ (rts n ls []).filter (pastB b) := by rw [hf, hq]; simp
      obtain ⟨h1, h2⟩ := List.mem_filter.mp this
      exact ⟨r, h1, h2⟩
  obtain ⟨T, c, hF⟩ := few_ex hcov
  rw [fewR_few hF]
  have hr10 : ∀ r ∈ rts n ls [], r.length ≤ 10 := fun r hr => by have := rte_len g ((mem_rts' g).mp hr); omega
  generalize rts n ls [] = W at *
  have hpc : ∀ r, (plc bss r).length ≤ 8 := fun r => Nat.le_trans plc_len h8
  have l1 : ∀ x2 x4 x5 x6 x7 x8 x9 x10 x11 x12 : D, lcGo (gN 6) (fun _ m => .ok true m) (cTup (aCons (cVar 6) (aCons (cLc (iEnA (cVar 3)) (gT 2 (gsCons (gN 11) (gsCons (gN 12) gsNil))) (tTru (cCall m_is_past (aCons (cVar 6) (aCons (cVar 12) aNil)))) (cVar 11)) aNil))) [d, e, x2, .tup (bss.map eT), x4, x5, x6, x7, x8, x9, x10, x11, x12] (W.map eT) m = .ok (W.map (eRp bss)) m := fun x2 x4 x5 x6 x7 x8 x9 x10 x11 x12 => by
    refine wr_lcEM eT _ fun r hr => ?_
    have l2 : lcGo (gT 2 (gsCons (gN 11) (gsCons (gN 12) gsNil))) (tTru (cCall m_is_past (aCons (cVar 6) (aCons (cVar 12) aNil)))) (cVar 11) [d, e, x2, .tup (bss.map eT), x4, x5, eT r, x7, x8, x9, x10, x11, x12] ((sfx 0 bss).map fun p => D.tup [.int p.1, eT p.2.1]) m = .ok ((plc bss r).map .int) m := by
      have := wr_lcE (m := m) (ct := gT 2 (gsCons (gN 11) (gsCons (gN 12) gsNil))) (tt := tTru (cCall m_is_past (aCons (cVar 6) (aCons (cVar 12) aNil)))) (ce := cVar 11) (Γ := [d, e, x2, .tup (bss.map eT), x4, x5, eT r, x7, x8, x9, x10, x11, x12]) (fun p : Nat × List Int × List (List Int) => D.tup [.int p.1, eT p.2.1]) (fun p => pastB p.2.1 r) (fun p => D.int p.1) (xs := sfx 0 bss) fun p hp => by
        have e1 : m_is_past [eT r, eT p.2.1] m = .ok (.bl (pastB p.2.1 r)) m := is_past_row (m := m) (BandD.t p.2.1) (BandD.t r) (by have := hr10 r hr; omega)
        simp only [wr_fnC, wr_fnF, ws_seq, ws_set, ws_ret, ws_if, ws_nil, ws_for, ws_asg, ws_parN, ws_par, setAll_cons, setAll_nil, wr_var, wr_c, wr_c1, wr_c2, wr_call, wr_call0, wr_acons, wr_anil, wr_tor, wr_tand, wr_tnot, wr_tru, wr_tcmp, wr_cAnd, wr_cOr, wr_if, wr_lst, wr_tup, wr_lc, wr_iseq, wr_irg, wr_ok, wr_sl, wr_onone, wr_osome, wo_some, wo_bl, wo_tru_b, wo_tru_l, wo_tru_t, wo_not_b, wo_add, wo_sub, wo_lt, wo_gt, wo_le, wo_ge, wo_eqi, wo_nei, wo_len_l, wo_len_t, wo_list_l, wo_list_t, wo_tuple_l, wo_tuple_t, wo_items_l, wo_items_t, wo_ix_l, wo_ix_t, wo_sl_l, wo_sl_t, wo_gn, wo_gT, wo_gTl, wo_gsCons, wo_gsNil, wo_isn, wo_isnn, szl0, szl1, szl2, szl3, szl4, szl5, szl6, szl7, List.replicate, List.cons_append, List.nil_append, wo_asint, List.set_cons_zero, List.set_cons_succ, List.getD_cons_zero, List.getD_cons_succ, Bool.not_true, Bool.not_false, Bool.false_eq_true, if_false, if_true, true_and, e1]
        exact ⟨rfl, fun _ => trivial⟩
      rw [this]
      unfold plc
      rw [List.map_map]; rfl
    simp only [wo_gn, List.set_cons_zero, List.set_cons_succ, List.getD_cons_zero, List.getD_cons_succ, wr_tup, wr_acons, wr_anil, wr_var, wr_lc, wr_ienA, wo_enA_t, enumI_sfx, szOk_of (show ((sfx 0 bss).map fun p => D.tup [.int p.1, eT p.2.1]).length ≤ 16777216 by rw [List.length_map, len_sfx]; omega), if_true, l2, wr_ok, List.length_cons, List.length_nil, show szOk (0 + 1 + 1) = true from rfl]
    exact ⟨by trivial, by trivial⟩
  have hU : ∀ {Γ : Gam} {Q : D → Mu → Prop}, Γ.getD 3 .non = .tup (bss.map eT) → WR (cRg true (aCons (c1 lenD (cVar 3)) aNil) Γ m) Q = Q (eT (allP bss)) m := fun {Γ Q} h3 => by
    simp only [wr_rgT, wr_acons, wr_anil, wr_c1, wr_var, h3, wo_len_t, List.length_map, rg1_ok (z := (bss.length : Nat)) (by omega) (by omega), wo_some, rangeI_length, Int.toNat_natCast, szOk_of (show bss.length ≤ 16777216 by omega), if_true]
    have : D.tup (rangeI 0 bss.length) = eT (allP bss) := by
      unfold eT allP
      rw [rangeI_zero, List.map_map]; rfl
    rw [this]
  have hzW : szOk (W.map eT).length = true := szOk_of (by rw [List.length_map]; omega)
  refine WR.eq ?_
  unfold m_few_routes
  simp only [wr_fnC, ws_seq, ws_drop, wr_call, wr_acons, wr_anil, wr_var, List.set_cons_zero, List.set_cons_succ, List.getD_cons_zero, List.getD_cons_succ, List.replicate_succ, List.replicate_zero, List.cons_append, List.nil_append, ce, wr_ok, ws_parN, wr_all_cons, wr_all_nil, tb, wr_disp1T, wr_tup, List.length_nil, show szOk 0 = true from rfl, if_true, show keyOk true (D.tup []) = true from keyOk_all [], true_and, setAll_cons, setAll_nil, ws_set, wr_lc, wr_iseq, r1, wo_items_l, hzW, l1]
  refine ws_while (fun k Γ m' => m' = m ∧ ∃ (t : Nat) (x6 x7 x8 x9 x10 x11 x12 : D), t + k = T ∧ Γ = [d, e, .lst (W.map (eRp bss)), .tup (bss.map eT), .dct true (eFd (itF W bss t)), .non, x6, x7, x8, x9, x10, x11, x12]) ?_ 1099511627776 T _ _ (by have := hF.le; omega) ⟨rfl, 0, _, _, _, _, _, _, _, by omega, rfl⟩
  rintro k Γ m1 ⟨rfl, t, x6, x7, x8, x9, x10, x11, x12, htk, rfl⟩
  simp only [wr_tcmp, wr_c2]
  rw [hU rfl]
  simp only [wr_var, List.set_cons_zero, List.set_cons_succ, List.getD_cons_zero, List.getD_cons_succ, wo_dnin, keyOk_all, true_and, dfind_eFd, wo_bl]
  by_cases ht : t = T
  · subst ht
    rw [hF.here]
    have hc8 := hF.len
    have hle := hF.le
    have hrep : fewR W bss = sortL c := fewR_few hF
    simp only [Option.map_some, Option.isSome_some, Bool.not_true, Bool.false_eq_true, if_false, ws_ret, wr_c1, wr_c2, wr_var, List.set_cons_zero, List.set_cons_succ, List.getD_cons_zero, List.getD_cons_succ]
    rw [hU rfl]
    simp only [wo_dix, keyOk_all, true_and, dfind_eFd, hF.here, Option.map_some, wo_some]
    have hso : ∀ {Q : D → Prop}, WO (sortTD m1 (eG c)) Q = Q (.lst ((sortL c).map eT)) := fun {Q} => by
      unfold eG
      rw [wo_sortT, isort_eT]
      exact propext ⟨fun h => h.2, fun h => ⟨sortOk_eT _, h⟩⟩
    simp only [hso, wo_tuple_l]
    all_goals (first | trivial | rfl | exact ⟨by trivial, rfl⟩ | exact ⟨by trivial, by trivial⟩ | exact ⟨rfl, by trivial⟩ | exact ⟨by trivial, fun _ => rfl⟩ | exact ⟨⟨by trivial, by trivial⟩, fun _ => rfl⟩ | exact ⟨⟨by trivial, by trivial⟩, fun _ => ⟨by trivial, rfl⟩⟩ | exact fun _ => rfl | exact fun _ => trivial)
  · rw [hF.not t (by omega)]
    simp only [Option.map_none, Option.isSome_none, Bool.not_false, if_true, ws_seq, ws_set, wr_dnew, List.set_cons_zero, List.set_cons_succ, List.getD_cons_zero, List.getD_cons_succ]
    have rf := itF_ok W bss t
    refine ws_forI (f := itF W bss t) rfl ?_
    refine ws_loopE (fun p : List Int × List (List Int) => D.tup [eT p.1, eG p.2]) (fun l Γ m' => m' = m1 ∧ RF W bss (t + 1) (l.foldl (fun l p => rowF W bss (itF W bss t) l p) []) ∧ ∃ x6 x7 x8 x9 x10 : D, Γ = [d, e, .lst (W.map (eRp bss)), .tup (bss.map eT), .dct true (eFd (itF W bss t)), .dct true (eFd (l.foldl (fun l p => rowF W bss (itF W bss t) l p) [])), x6, x7, x8, x9, x10, x11, x12]) ?_ ?_ ⟨rfl, RF.nil W bss _, _, _, _, _, _, rfl⟩
    · rintro l p rr hlr Γ m2 ⟨rfl, rfl1, x6, x7, x8, x9, x10, rfl⟩
      have hp : p ∈ itF W bss t := by rw [hlr]; simp
      generalize hL : l.foldl (fun l p => rowF W bss (itF W bss t) l p) [] = LT at rfl1 ⊢
      have hk8 : p.1.length ≤ 300 := by
        rw [rf.key p hp]
        have h1 : (uni (p.2.flatMap (plc bss))).Nodup := nodup_uni _
        have := Mg.nodup_le (ys := allP bss) h1 fun x hx => by
          obtain ⟨r, _, hr⟩ := List.mem_flatMap.mp (mem_uni.mp hx)
          obtain ⟨j, b, q1, q2, _⟩ := mem_plc.mp hr
          exact mem_allP.mpr ⟨j, (List.getElem?_eq_some_iff.mp q1).1, q2⟩
        unfold allP at this
        rw [List.length_map, List.length_range] at this
        omega
      have hc8 : p.2.length ≤ 8 := by rw [rf.len p hp]; have := hF.le; omega
      simp only [wo_gT, List.length_cons, List.length_nil, true_and, wo_gsCons, wo_gn, wo_gsNil, List.set_cons_zero, List.set_cons_succ, List.getD_cons_zero, List.getD_cons_succ, ws_for, wr_iseq, wr_var, wo_items_l]
      refine ws_loopE (eRp bss) (fun l2 Γ m' => m' = m2 ∧ RF W bss (t + 1) (l2.foldl (fun l r => addF bss (itF W bss t) l p r) LT) ∧ ∃ x6 x9 x10 : D, Γ = [d, e, .lst (W.map (eRp bss)), .tup (bss.map eT), .dct true (eFd (itF W bss t)), .dct true (eFd (l2.foldl (fun l r => addF bss (itF W bss t) l p r) LT)), x6, eT p.1, eG p.2, x9, x10, x11, x12]) ?_ ?_ ⟨rfl, rfl1, _, _, _, rfl⟩
      · rintro l2 r r2 hl2 Γ m3 ⟨rfl, rf2, x6, x9, x10, rfl⟩
        have hrW : r ∈ W := by rw [hl2]; simp
        have rf3 := addF_ok rf rf2 hp hrW
        rw [List.foldl_append, List.foldl_cons, List.foldl_nil]
        generalize hM : l2.foldl (fun l r => addF bss (itF W bss t) l p r) LT = LM at rf2 rf3 ⊢
        have hML := rf2.few h8
        have hkey : ∀ {Q : D → Mu → Prop}, WR (c1 tupleD (c1 ssetD (cLst (aStar (cVar 7) (aStar (cVar 9) aNil)))) [d, e, .lst (W.map (eRp bss)), .tup (bss.map eT), .dct true (eFd (itF W bss t)), .dct true (eFd LM), eT r, eT p.1, eG p.2, .lst ((plc bss r).map .int), x10, x11, x12] m3) Q = Q (eT (uni (p.1 ++ plc bss r))) m3 := fun {Q} => by
          have hit : ∀ {m : Mu} {Q : List D → Prop}, WO (itemsD m (eT p.1)) Q = Q (p.1.map .int) := fun {m Q} => wo_items_t
          have hpr := hpc r
          simp only [wr_c1, wr_lst, wr_astar, wr_anil, wr_var, List.set_cons_zero, List.set_cons_succ, List.getD_cons_zero, List.getD_cons_succ, hit, wo_items_l, List.append_nil, ← List.map_append]
          rw [if_pos (szOk_of (by rw [List.length_map, List.length_append]; omega))]
          simp only [wo_sset, setOk_ints (show (p.1 ++ plc bss r).length ≤ 4000 by rw [List.length_append]; omega), true_and, uni_eq, wo_tuple_l]
          rfl
        simp only [show eRp bss r = .tup [eT r, .lst ((plc bss r).map .int)] from rfl, wo_gT, List.length_cons, List.length_nil, true_and, wo_gsCons, wo_gn, wo_gsNil, List.set_cons_zero, List.set_cons_succ, List.getD_cons_zero, List.getD_cons_succ, ws_seq, ws_set]
        rw [hkey]
        simp only [List.set_cons_zero, List.set_cons_succ, List.getD_cons_zero, List.getD_cons_succ, ws_if, wr_tand, wr_tcmp, wr_c2, wr_var, wo_dnin, keyOk_all, true_and, dfind_eFd, wo_bl]
        refine (fun h => h) ?_
        unfold addF at rf3 ⊢
        cases h1 : lkF (itF W bss t) (uni (p.1 ++ plc bss r)) with
        | some c1 =>
          rw [h1] at rf3
          simp only [Option.map_some, Option.isSome_some, Bool.not_true, Bool.false_eq_true, if_false, ws_nil, Option.isNone_some, Bool.false_and] at rf3 ⊢
          exact ⟨by trivial, rf2, _, _, _, rfl⟩
        | none =>
          rw [h1] at rf3
          cases h2 : lkF LM (uni (p.1 ++ plc bss r)) with
          | some c1 =>
            rw [h2] at rf3
            simp only [Option.map_some, Option.map_none, Option.isSome_some, Option.isSome_none, Bool.not_true, Bool.not_false, Bool.false_eq_true, if_false, if_true, ws_nil, Option.isNone_some, Option.isNone_none, Bool.and_false] at rf3 ⊢
            exact ⟨by trivial, rf2, _, _, _, rfl⟩
          | none =>
            rw [h2] at rf3
            simp only [Option.map_none, Option.isSome_none, Bool.not_false, if_true, Option.isNone_none, Bool.and_self] at rf3 ⊢
            rw [ws_putD (t := true) (kvs := eFd LM) rfl]
            have hgi : ∀ {m : Mu} {Q : List D → Prop}, WO (itemsD m (eG p.2)) Q = Q (p.2.map eT) := fun {m Q} => wo_items_G
            simp only [wr_tup, wr_astar, wr_acons, wr_anil, wr_var, List.set_cons_zero, List.set_cons_succ, List.getD_cons_zero, List.getD_cons_succ, hgi]
            rw [if_pos (szOk_of (by rw [List.length_append, List.length_map]; simp; omega))]
            refine ⟨⟨keyOk_all _, szOk_of (by unfold eFd; rw [List.length_map]; omega)⟩, by trivial, rf3, eT r, .lst ((plc bss r).map .int), eT (uni (p.1 ++ plc bss r)), ?_⟩
            have : D.tup (p.2.map eT ++ [eT r]) = eG (p.2 ++ [r]) := by unfold eG; rw [List.map_append]; rfl
            rw [this, putD_eFd h2]
      · rintro Γ m3 ⟨rfl, rf2, x6, x9, x10, rfl⟩
        rw [List.foldl_append, List.foldl_cons, List.foldl_nil, hL]
        exact ⟨by trivial, rf2, _, _, _, _, _, rfl⟩
    · rintro Γ m2 ⟨rfl, rf2, x6, x7, x8, x9, x10, rfl⟩
      simp only [ws_mv, List.set_cons_zero, List.set_cons_succ, List.getD_cons_zero, List.getD_cons_succ]
      exact ⟨k - 1, by omega, by trivial, t + 1, _, _, _, _, _, _, _, by omega, rfl⟩
end
theorem sortL_cov {bss c : List (List Int)} (h : Cov bss c) : Cov bss (sortL c) := fun b hb => by
  obtain ⟨r, hr, hp⟩ := h b hb
  exact ⟨r, (sortL_perm c).mem_iff.mpr hr, hp⟩
structure FewS (W bss : List (List Int)) (t : Nat) (F : List (List Int)) : Prop where
  len : F.length = t
  asc : AscL F
  sub : ∀ r ∈ F, r ∈ W
  cov : Cov bss F
theorem Few.sorted {W bss : List (List Int)} {t : Nat} {c : List (List Int)} (h : Few W bss t c) : FewS W bss t (sortL c) :=
  ⟨by rw [(sortL_perm c).length_eq, h.len], asc_sortL h.nodup, fun r hr => h.sub r ((sortL_perm c).mem_iff.mp hr), sortL_cov h.cov⟩
section
variable {d e : D} {n : Int} {ls : List Ln} {bss : List (List Int)} {m : Mu} {t : Nat} {c : List (List Int)} (hd : NetD d n ls) (he : BandsD e bss) (g : Good n ls) (hn : n ≤ 10) (hl : ls.length ≤ 1000) (h8 : bss.length ≤ 8) (hr : ∀ r ∈ bss, r.length ≤ 1000)
variable (hE : (ears n ls bss).isEmpty = true) (h0 : ∀ b ∈ bss, (0 : Int) ∉ b) (hrl : (rts n ls []).length ≤ 1000) (hF : Few (rts n ls []) bss t c)
include hd he g hn hl h8 hr hE h0 hrl hF in
theorem few_is : m_few_routes [d, e] m = .ok (eG (sortL c)) m := by
  have := few_routes_ok (m := m) hd he g hn hl h8 hr hE h0 hrl
  rw [fewR_few hF] at this
  exact this
include hd he g hn hl h8 hr hE h0 hrl hF in
theorem how_few_ok : m_how_few_routes [d, e] m = .ok (.int t) m := by
  have e1 := few_is (m := m) hd he g hn hl h8 hr hE h0 hrl hF
  refine WR.eq ?_
  unfold m_how_few_routes
  have hlen : ∀ {Q : D → Prop}, WO (lenD m (eG (sortL c))) Q = Q (.int t) := fun {Q} => by
    unfold eG
    rw [wo_len_t, List.length_map, hF.sorted.len]
  simp only [wr_fnC, wr_fnF, ws_seq, ws_set, ws_ret, ws_if, ws_nil, ws_for, ws_asg, ws_parN, ws_par, setAll_cons, setAll_nil, wr_var, wr_c, wr_c1, wr_c2, wr_call, wr_call0, wr_acons, wr_anil, wr_tor, wr_tand, wr_tnot, wr_tru, wr_tcmp, wr_cAnd, wr_cOr, wr_if, wr_lst, wr_tup, wr_lc, wr_iseq, wr_irg, wr_ok, wr_sl, wr_onone, wr_osome, wo_some, wo_bl, wo_tru_b, wo_tru_l, wo_tru_t, wo_not_b, wo_add, wo_sub, wo_lt, wo_gt, wo_le, wo_ge, wo_eqi, wo_nei, wo_len_l, wo_len_t, wo_list_l, wo_list_t, wo_tuple_l, wo_tuple_t, wo_items_l, wo_items_t, wo_ix_l, wo_ix_t, wo_sl_l, wo_sl_t, wo_gn, wo_gT, wo_gTl, wo_gsCons, wo_gsNil, wo_isn, wo_isnn, szl0, szl1, szl2, szl3, szl4, szl5, szl6, szl7, List.replicate, List.cons_append, List.nil_append, wo_asint, List.set_cons_zero, List.set_cons_succ, List.getD_cons_zero, List.getD_cons_succ, Bool.not_true, Bool.not_false, Bool.false_eq_true, if_false, if_true, true_and, e1, hlen]
  all_goals (first | trivial | rfl | exact ⟨by trivial, rfl⟩ | exact ⟨by trivial, by trivial⟩ | exact ⟨rfl, by trivial⟩ | exact ⟨by trivial, fun _ => rfl⟩ | exact ⟨⟨by trivial, by trivial⟩, fun _ => rfl⟩ | exact ⟨⟨by trivial, by trivial⟩, fun _ => ⟨by trivial, rfl⟩⟩ | exact fun _ => rfl | exact fun _ => trivial)
include hd he g hn hl h8 hr hE h0 hrl hF in
theorem is_few_true {F : List (List Int)} (hS : FewS (rts n ls []) bss t F) : m_is_few_routes [d, e, eG F] m = .ok (.bl true) m := by
  have e1 := how_few_ok (m := m) hd he g hn hl h8 hr hE h0 hrl hF
  have ht := hF.le
  have hr10 : ∀ r ∈ rts n ls [], r.length ≤ 10 := fun r hr => by have := rte_len g ((mem_rts' g).mp hr); omega
  have hFl := hS.len
  have hlen : ∀ {Q : D → Prop}, WO (lenD m (eG F)) Q = Q (.int t) := fun {Q} => by
    unfold eG
    rw [wo_len_t, List.length_map, hS.len]
  have l1 : ∀ x3 x4 x5 x6 : D, lcGo (gN 5) (fun _ m => .ok true m) (cCall m_is_route (aCons (cVar 0) (aCons (cVar 5) aNil))) [d, e, eG F, x3, x4, x5, x6] (F.map eT) m = .ok ((F.map fun _ => true).map .bl) m := fun x3 x4 x5 x6 => by
    rw [List.map_map]
    refine wr_lcEM eT _ fun r hr => ?_
    have e2 := is_route_ok (m := m) hd g hl (r := r) (by have := hr10 r (hS.sub r hr); omega)
    rw [List.contains_iff_mem.mpr (hS.sub r hr)] at e2
    simp only [wo_gn, List.set_cons_zero, List.set_cons_succ, List.getD_cons_zero, List.getD_cons_succ, wr_call, wr_acons, wr_anil, wr_var, e2, wr_ok]
    first | exact ⟨by trivial, rfl⟩ | exact ⟨rfl, by trivial⟩ | exact ⟨by trivial, by trivial⟩
  have hri : m_rises [eG F] m = .ok (.bl true) m := by
    have := rises_rows (m := m) (rs := F) (by omega)
    rw [ascT_iff.mpr hS.asc] at this
    exact this
  have hitG : ∀ {m : Mu} {Q : List D → Prop}, WO (itemsD m (eG F)) Q = Q (F.map eT) := fun {m Q} => wo_items_G
  have hz : szOk (F.map eT).length = true := szOk_of (by rw [List.length_map]; omega)
  have hall : (F.map fun _ => true).all id = true := List.all_eq_true.mpr fun x hx => by obtain ⟨_, _, rfl⟩ := List.mem_map.mp hx; rfl
  have hisi : isiD .tuple m (eG F) = some (.bl true) := rfl
  have l2 : ∀ (b : List Int) (x bd : D) (hb : BandD bd b) (hbb : b ∈ bss) (x3 x5 x6 : D), WR (c1 anyD (cLc (iSeq (cVar 2)) (gN 6) (fun _ m => .ok true m) (cCall m_is_past (aCons (cVar 6) (aCons (cVar 4) aNil)))) [d, e, eG F, x3, bd, x5, x6] m) fun y m2 => m2 = m ∧ y = .bl true := fun b x bd hb hbb x3 x5 x6 => by
    have lf : ∀ x6 : D, lcGo (gN 6) (fun _ m => .ok true m) (cCall m_is_past (aCons (cVar 6) (aCons (cVar 4) aNil))) [d, e, eG F, x3, bd, x5, x6] (F.map eT) m = .ok ((F.map fun r => pastB b r).map .bl) m := fun x6 => by
      rw [List.map_map]
      refine wr_lcEM eT _ fun r hr => ?_
      have e3 : m_is_past [eT r, bd] m = .ok (.bl (pastB b r)) m := is_past_row (m := m) hb (BandD.t r) (by have := hr10 r (hS.sub r hr); omega)
      simp only [wo_gn, List.set_cons_zero, List.set_cons_succ, List.getD_cons_zero, List.getD_cons_succ, wr_call, wr_acons, wr_anil, wr_var, e3, wr_ok]
      first | exact ⟨by trivial, rfl⟩ | exact ⟨rfl, by trivial⟩ | exact ⟨by trivial, by trivial⟩
    have hany : (F.map fun r => pastB b r).any id = true := by
      obtain ⟨r, hr, hp⟩ := hS.cov b hbb
      exact List.any_eq_true.mpr ⟨true, List.mem_map.mpr ⟨r, hr, hp⟩, rfl⟩
    simp only [wr_c1, wr_lc, wr_iseq, wr_var, List.set_cons_zero, List.set_cons_succ, List.getD_cons_zero, List.getD_cons_succ, hitG, hz, if_true, lf, wr_ok, wo_any, hany]
    exact ⟨by trivial, by trivial⟩
  have hbl : szOk bss.length = true := szOk_of (by omega)
  have hballs : (bss.map fun _ => true).all id = true := List.all_eq_true.mpr fun x hx => by obtain ⟨_, _, rfl⟩ := List.mem_map.mp hx; rfl
  have l3 : ∀ {x5 x6 : D} {Q : D → Mu → Prop}, WR (c1 allD (cLc (iSeq (cVar 1)) (gN 4) (fun _ m => .ok true m) (c1 anyD (cLc (iSeq (cVar 2)) (gN 6) (fun _ m => .ok true m) (cCall m_is_past (aCons (cVar 6) (aCons (cVar 4) aNil)))))) [d, e, eG F, .int t, .non, x5, x6] m) Q = Q (.bl true) m := fun {x5 x6 Q} => by
    cases he with
    | t =>
      have lc := wr_lcEM (m := m) (ct := gN 4) (ce := c1 anyD (cLc (iSeq (cVar 2)) (gN 6) (fun _ m => .ok true m) (cCall m_is_past (aCons (cVar 6) (aCons (cVar 4) aNil))))) (Γ := [d, .tup (bss.map eT), eG F, .int t, .non, x5, x6]) eT (fun _ => D.bl true) (xs := bss) fun b hb => by
        simp only [wo_gn, List.set_cons_zero, List.set_cons_succ, List.getD_cons_zero, List.getD_cons_succ]
        exact l2 b .non (eT b) (BandD.t b) hb _ _ _
      rw [show (bss.map fun _ => D.bl true) = (bss.map fun _ => true).map .bl by rw [List.map_map]; rfl] at lc
      simp only [wr_c1, wr_lc, wr_iseq, wr_var, List.set_cons_zero, List.set_cons_succ, List.getD_cons_zero, List.getD_cons_succ, wo_items_t, List.length_map, hbl, if_true, lc, wr_ok, wo_all, hballs]
    | l =>
      have lc := wr_lcEM (m := m) (ct := gN 4) (ce := c1 anyD (cLc (iSeq (cVar 2)) (gN 6) (fun _ m => .ok true m) (cCall m_is_past (aCons (cVar 6) (aCons (cVar 4) aNil))))) (Γ := [d, .lst (bss.map eL), eG F, .int t, .non, x5, x6]) eL (fun _ => D.bl true) (xs := bss) fun b hb => by
        simp only [wo_gn, List.set_cons_zero, List.set_cons_succ, List.getD_cons_zero, List.getD_cons_succ]
        exact l2 b .non (eL b) (BandD.l b) hb _ _ _
      rw [show (bss.map fun _ => D.bl true) = (bss.map fun _ => true).map .bl by rw [List.map_map]; rfl] at lc
      simp only [wr_c1, wr_lc, wr_iseq, wr_var, List.set_cons_zero, List.set_cons_succ, List.getD_cons_zero, List.getD_cons_succ, wo_items_l, List.length_map, hbl, if_true, lc, wr_ok, wo_all, hballs]
  refine WR.eq ?_
  unfold m_is_few_routes
  simp only [wr_fnC, ws_seq, ws_set, wr_call, wr_acons, wr_anil, wr_var, List.set_cons_zero, List.set_cons_succ, List.getD_cons_zero, List.getD_cons_succ, List.replicate_succ, List.replicate_zero, List.cons_append, List.nil_append, e1, wr_ok, ws_if, wr_tor, wr_tnot, wr_tru, wr_c1, hisi, wo_some, wo_tru_b, Bool.not_true, Bool.false_eq_true, if_false, wr_tcmp, wr_c2, hlen, wo_nei, beq_self_eq_true, wo_bl, wr_lc, wr_iseq, hitG, hz, if_true, l1, wo_all, hall, ws_nil, ws_ret, wr_cAnd, hri]
  simp only [wr_c1] at l3
  simp only [wr_lc, wr_iseq, wr_var, List.set_cons_zero, List.set_cons_succ, List.getD_cons_zero, List.getD_cons_succ] at l3
  simp only [l3]
  all_goals (first | trivial | rfl | exact ⟨by trivial, rfl⟩ | exact ⟨by trivial, by trivial⟩ | exact ⟨rfl, by trivial⟩ | exact ⟨by trivial, fun _ => rfl⟩ | exact ⟨⟨by trivial, by trivial⟩, fun _ => rfl⟩ | exact ⟨⟨by trivial, by trivial⟩, fun _ => ⟨by trivial, rfl⟩⟩ | exact fun _ => rfl | exact fun _ => trivial)
end
end Lw
end
section
set_option linter.all false
set_option maxRecDepth 100000
namespace Lw
open PySem L2 PySem.W Pv Rt
def inner67 : SC := (sSeq (sSet 14 (c1 tupleD (cLc (iSeq (cCall m_heard_at (aCons (cVar 6) (aCons (cVar 10) aNil)))) (gN 16) (fun _ m => .ok true m) (cTup (aCons (cVar 16) (aCons (c2 ixD (cVar 9) (cVar 16)) aNil))))))
    (sSeq (sIf (tOr' (tCmp geD (c1 lenD (cVar 14)) (cVar 12)) (tCmp isnD (cCall m_learned (aCons (cVar 5) (aCons (cVar 12) (aCons (cVar 14) aNil)))) (cC .non))) (sRet (cC (.bl false))) sNil)
    (sSeq (sSet 4 (cLc (iSeq (cTup (aCons (cVar 13) (aCons (cC (.int 0)) (aCons (c2 subD (cVar 5) (cC (.int 1))) aNil))))) (gN 16) (fun _ m => .ok true m) (cCall m_how_many_shares (aCons (cVar 5) (aCons (cVar 12) (aCons (cVar 14) (aCons (cVar 16) aNil)))))))
    (sIf (tOr' (tNot' (tTru (cCall (m_law_same 16) (aCons (cVar 4) (aCons (c2 mulD (cLst (aCons (c2 ixD (cVar 4) (cC (.int 0))) aNil)) (cC (.int 3))) aNil))))) (tCmp ltD (c2 ixD (cVar 4) (cC (.int 0))) (cC (.int 1)))) (sRet (cC (.bl false))) sNil))))
def body67 : SC := (sSeq (sParN [12, 13] (cAll [(false, (c1 lenD (cVar 6))), (false, (cCall m_law_take (aCons (cVar 0) (aCons (cVar 5) aNil))))]))
    (sSeq (sSet 9 (cCall m_shares_of (aCons (cVar 13) (aCons (c1 tupleD (cLc (iRg (aCons (c2 subD (cVar 12) (cC (.int 1))) aNil)) (gN 17) (fun _ m => .ok true m) (cCall m_law_take (aCons (cVar 0) (aCons (cVar 5) aNil))))) (aCons (cVar 5) aNil)))))
    (sSeq (sIf (tNot' (tTru (cCall (m_law_same 16) (aCons (cLst (aCons (cCall m_told_number (aCons (cVar 9) (aCons (cVar 5) aNil))) (aCons (c1 lenD (cVar 9)) aNil))) (aCons (cLst (aCons (cVar 13) (aCons (cVar 12) aNil))) aNil))))) (sRet (cC (.bl false))) sNil)
    (sSeq (sIf (tCmp neD (cLc (iSeq (cVar 6)) (gN 15) (tCmp ninD (cVar 15) (cCall m_routes (aCons (cVar 1) aNil))) (cVar 15)) (cLst aNil)) (sRet (cC (.bl false))) sNil)
    (sSeq (sFor (iSeq (cVar 2)) (gN 10)
    inner67)
    (sSeq (sSet 11 (c1 tupleD (cLc (iRg (aCons (cVar 12) aNil)) (gN 16) (fun _ m => .ok true m) (cTup (aCons (cVar 16) (aCons (c2 ixD (cVar 9) (cVar 16)) aNil))))))
    (sIf (tCmp neD (cCall m_learned (aCons (cVar 5) (aCons (cVar 12) (aCons (cVar 11) aNil)))) (cVar 13)) (sRet (cC (.bl false))) sNil)))))))
/-! k67: nobody hears all -/
theorem rt_sub {n : Int} {ls : List Ln} {b r : List Int} (g : Good n ls) (h0 : (0 : Int) ∉ b) : r ∈ rts n ls b ↔ r ∈ rts n ls [] ∧ pastB b r = true := by
  have := rts_filter (b := []) g h0
  rw [List.nil_append] at this
  rw [← this, List.mem_filter]
structure Fam (W bss L : List (List Int)) : Prop where
  lo : 1 ≤ L.length
  hi : L.length ≤ 8
  sub : ∀ r ∈ L, r ∈ W
  cov : Cov bss L
theorem fam_hrd {W bss L : List (List Int)} {b : List Int} (hb : b ∈ bss) (hF : Fam W bss L) : (hrd b L).length < L.length ∧ ∀ k ∈ hrd b L, 0 ≤ k ∧ k < L.length := by
  obtain ⟨r, hr, hp⟩ := hF.cov b hb
  obtain ⟨l, q, hlr⟩ := List.append_of_mem hr
  constructor
  · unfold hrd
    rw [List.length_map]
    have h1 : (sfx 0 L).length = L.length := len_sfx _ _
    rw [← h1]
    refine List.length_filter_lt_length_iff_exists.mpr ⟨(0 + l.length, r, r :: q), ?_, ?_⟩
    · rw [hlr]
      exact sfx_at
    · simp [hp]
  · intro k hk
    unfold hrd at hk
    obtain ⟨p, hp2, rfl⟩ := List.mem_map.mp hk
    have h2 := mem_sfx (List.mem_filter.mp hp2).1
    have h3 := h2.2.1
    omega
theorem learn_non {M : Int} {n : Nat} {xs : List D} {m : Mu} (hM : 2 ≤ M) (hl : xs.length < n) : m_learned [.int M, .int n, .tup xs] m = .ok .non m := by
  refine WR.eq ?_
  unfold m_learned
  have h1 : ((xs.length : Int) == (n : Int)) = false := by rw [beq_eq_false_iff_ne]; omega
  have h2 : (M == 1) = false := by rw [beq_eq_false_iff_ne]; omega
  simp only [wr_fnC, wr_fnF, ws_seq, ws_set, ws_ret, ws_if, ws_nil, ws_for, ws_asg, ws_parN, ws_par, setAll_cons, setAll_nil, wr_var, wr_c, wr_c1, wr_c2, wr_call, wr_call0, wr_acons, wr_anil, wr_tor, wr_tand, wr_tnot, wr_tru, wr_tcmp, wr_cAnd, wr_cOr, wr_if, wr_lst, wr_tup, wr_lc, wr_iseq, wr_irg, wr_ok, wr_sl, wr_onone, wr_osome, wo_some, wo_bl, wo_tru_b, wo_tru_l, wo_tru_t, wo_not_b, wo_add, wo_sub, wo_lt, wo_gt, wo_le, wo_ge, wo_eqi, wo_nei, wo_len_l, wo_len_t, wo_list_l, wo_list_t, wo_tuple_l, wo_tuple_t, wo_items_l, wo_items_t, wo_ix_l, wo_ix_t, wo_sl_l, wo_sl_t, wo_gn, wo_gT, wo_gTl, wo_gsCons, wo_gsNil, wo_isn, wo_isnn, szl0, szl1, szl2, szl3, szl4, szl5, szl6, szl7, List.replicate, List.cons_append, List.nil_append, wo_asint, List.set_cons_zero, List.set_cons_succ, List.getD_cons_zero, List.getD_cons_succ, Bool.not_true, Bool.not_false, Bool.false_eq_true, if_false, if_true, true_and, h1, h2]
  all_goals (first | trivial | rfl | exact ⟨by trivial, rfl⟩ | exact ⟨by trivial, by trivial⟩ | exact ⟨rfl, by trivial⟩ | exact ⟨by trivial, fun _ => rfl⟩ | exact ⟨⟨by trivial, by trivial⟩, fun _ => rfl⟩ | exact ⟨⟨by trivial, by trivial⟩, fun _ => ⟨by trivial, rfl⟩⟩ | exact fun _ => rfl | exact fun _ => trivial)
def prD (p : Int × Int) : D := .tup [.int p.1, .int p.2]
theorem told1 {m : Mu} {xs : List Int} {k : Int} (hk : 0 < k) : m_told_number [.lst (xs.map .int), .int k] m = .ok (.int (xs.sum % k)) m := by
  simp [m_told_number, fnC, sRet, c2, c1, cVar, sumD', R.bind, R.of, intsOf_map, toS, endR, modD, hk]
theorem learn_all {M : Int} {n : Nat} {ps : List (Int × Int)} {m : Mu} (hM : 2 ≤ M) (hl : ps.length = n) (hn : n ≤ 1000) : m_learned [.int M, .int n, .tup (ps.map prD)] m = .ok (.int ((ps.map (·.2)).sum % M)) m := by
  have h1 : ((ps.length : Int) == (n : Int)) = true := by rw [beq_iff_eq]; omega
  have lc : lcGo (gT 2 (gsCons (gN 3) (gsCons (gN 4) gsNil))) (fun _ m => .ok true m) (cVar 4) [.int M, .int n, .tup (ps.map prD), .non, .non] (ps.map prD) m = .ok ((ps.map (·.2)).map .int) m := by
    rw [List.map_map]
    refine wr_lcEM prD _ fun p hp => ?_
    unfold prD
    simp only [wr_fnC, wr_fnF, ws_seq, ws_set, ws_ret, ws_if, ws_nil, ws_for, ws_asg, ws_parN, ws_par, setAll_cons, setAll_nil, wr_var, wr_c, wr_c1, wr_c2, wr_call, wr_call0, wr_acons, wr_anil, wr_tor, wr_tand, wr_tnot, wr_tru, wr_tcmp, wr_cAnd, wr_cOr, wr_if, wr_lst, wr_tup, wr_lc, wr_iseq, wr_irg, wr_ok, wr_sl, wr_onone, wr_osome, wo_some, wo_bl, wo_tru_b, wo_tru_l, wo_tru_t, wo_not_b, wo_add, wo_sub, wo_lt, wo_gt, wo_le, wo_ge, wo_eqi, wo_nei, wo_len_l, wo_len_t, wo_list_l, wo_list_t, wo_tuple_l, wo_tuple_t, wo_items_l, wo_items_t, wo_ix_l, wo_ix_t, wo_sl_l, wo_sl_t, wo_gn, wo_gT, wo_gTl, wo_gsCons, wo_gsNil, wo_isn, wo_isnn, szl0, szl1, szl2, szl3, szl4, szl5, szl6, szl7, List.replicate, List.cons_append, List.nil_append, wo_asint, List.set_cons_zero, List.set_cons_succ, List.getD_cons_zero, List.getD_cons_succ, Bool.not_true, Bool.not_false, Bool.false_eq_true, if_false, if_true, true_and, List.length_cons, List.length_nil]
    all_goals (first | trivial | rfl | exact ⟨by trivial, rfl⟩ | exact ⟨by trivial, by trivial⟩ | exact ⟨rfl, by trivial⟩ | exact ⟨by trivial, fun _ => rfl⟩ | exact ⟨⟨by trivial, by trivial⟩, fun _ => rfl⟩ | exact ⟨⟨by trivial, by trivial⟩, fun _ => ⟨by trivial, rfl⟩⟩ | exact fun _ => rfl | exact fun _ => trivial)
  have tl := told1 (m := m) (xs := ps.map (·.2)) (k := M) (by omega)
  refine WR.eq ?_
  unfold m_learned
  simp only [wr_fnC, wr_fnF, ws_seq, ws_set, ws_ret, ws_if, ws_nil, ws_for, ws_asg, ws_parN, ws_par, setAll_cons, setAll_nil, wr_var, wr_c, wr_c1, wr_c2, wr_call, wr_call0, wr_acons, wr_anil, wr_tor, wr_tand, wr_tnot, wr_tru, wr_tcmp, wr_cAnd, wr_cOr, wr_if, wr_lst, wr_tup, wr_lc, wr_iseq, wr_irg, wr_ok, wr_sl, wr_onone, wr_osome, wo_some, wo_bl, wo_tru_b, wo_tru_l, wo_tru_t, wo_not_b, wo_add, wo_sub, wo_lt, wo_gt, wo_le, wo_ge, wo_eqi, wo_nei, wo_len_l, wo_len_t, wo_list_l, wo_list_t, wo_tuple_l, wo_tuple_t, wo_items_l, wo_items_t, wo_ix_l, wo_ix_t, wo_sl_l, wo_sl_t, wo_gn, wo_gT, wo_gTl, wo_gsCons, wo_gsNil, wo_isn, wo_isnn, szl0, szl1, szl2, szl3, szl4, szl5, szl6, szl7, List.replicate, List.cons_append, List.nil_append, wo_asint, List.set_cons_zero, List.set_cons_succ, List.getD_cons_zero, List.getD_cons_succ, Bool.not_true, Bool.not_false, Bool.false_eq_true, if_false, if_true, true_and, List.length_map, h1, szOk_of (show ps.length ≤ 16777216 by omega), lc, tl]
  all_goals (first | trivial | rfl | exact ⟨by trivial, rfl⟩ | exact ⟨by trivial, by trivial⟩ | exact ⟨rfl, by trivial⟩ | exact ⟨by trivial, fun _ => rfl⟩ | exact ⟨⟨by trivial, by trivial⟩, fun _ => rfl⟩ | exact ⟨⟨by trivial, by trivial⟩, fun _ => ⟨by trivial, rfl⟩⟩ | exact fun _ => rfl | exact fun _ => trivial)
theorem how_lt {M : Int} {n : Nat} {xs : List D} {k : D} {m : Mu} (hM : 2 ≤ M) (hM2 : M ≤ 2000000000) (hn : n ≤ 8) (hl : xs.length < n) : m_how_many_shares [.int M, .int n, .tup xs, k] m = .ok (.int (M ^ (n - 1 - xs.length))) m := by
  have h1 : ((xs.length : Int) == (n : Int)) = false := by rw [beq_eq_false_iff_ne]; omega
  refine WR.eq ?_
  unfold m_how_many_shares
  simp only [wr_fnC, wr_fnF, ws_seq, ws_set, ws_ret, ws_if, ws_nil, ws_for, ws_asg, ws_parN, ws_par, setAll_cons, setAll_nil, wr_var, wr_c, wr_c1, wr_c2, wr_call, wr_call0, wr_acons, wr_anil, wr_tor, wr_tand, wr_tnot, wr_tru, wr_tcmp, wr_cAnd, wr_cOr, wr_if, wr_lst, wr_tup, wr_lc, wr_iseq, wr_irg, wr_ok, wr_sl, wr_onone, wr_osome, wo_some, wo_bl, wo_tru_b, wo_tru_l, wo_tru_t, wo_not_b, wo_add, wo_sub, wo_lt, wo_gt, wo_le, wo_ge, wo_eqi, wo_nei, wo_len_l, wo_len_t, wo_list_l, wo_list_t, wo_tuple_l, wo_tuple_t, wo_items_l, wo_items_t, wo_ix_l, wo_ix_t, wo_sl_l, wo_sl_t, wo_gn, wo_gT, wo_gTl, wo_gsCons, wo_gsNil, wo_isn, wo_isnn, szl0, szl1, szl2, szl3, szl4, szl5, szl6, szl7, List.replicate, List.cons_append, List.nil_append, wo_asint, List.set_cons_zero, List.set_cons_succ, List.getD_cons_zero, List.getD_cons_succ, Bool.not_true, Bool.not_false, Bool.false_eq_true, if_false, if_true, true_and, h1, rg1_ok (z := (n : Int) - 1 - xs.length) (by omega) (by omega), rangeI_zero]
  rw [show ((n : Int) - 1 - xs.length).toNat = n - 1 - xs.length by omega]
  refine ws_loopE (fun (i : Nat) => D.int i) (fun l Γ m' => m' = m ∧ ∃ x5 : D, Γ = [.int M, .int n, .tup xs, k, .int (M ^ l.length), x5, .non, .non]) ?_ ?_ ⟨rfl, .non, by simp⟩
  · rintro l i r hlr Γ m' ⟨rfl, x5, rfl⟩
    simp only [wr_fnC, wr_fnF, ws_seq, ws_set, ws_ret, ws_if, ws_nil, ws_for, ws_asg, ws_parN, ws_par, setAll_cons, setAll_nil, wr_var, wr_c, wr_c1, wr_c2, wr_call, wr_call0, wr_acons, wr_anil, wr_tor, wr_tand, wr_tnot, wr_tru, wr_tcmp, wr_cAnd, wr_cOr, wr_if, wr_lst, wr_tup, wr_lc, wr_iseq, wr_irg, wr_ok, wr_sl, wr_onone, wr_osome, wo_some, wo_bl, wo_tru_b, wo_tru_l, wo_tru_t, wo_not_b, wo_add, wo_sub, wo_lt, wo_gt, wo_le, wo_ge, wo_eqi, wo_nei, wo_len_l, wo_len_t, wo_list_l, wo_list_t, wo_tuple_l, wo_tuple_t, wo_items_l, wo_items_t, wo_ix_l, wo_ix_t, wo_sl_l, wo_sl_t, wo_gn, wo_gT, wo_gTl, wo_gsCons, wo_gsNil, wo_isn, wo_isnn, szl0, szl1, szl2, szl3, szl4, szl5, szl6, szl7, List.replicate, List.cons_append, List.nil_append, wo_asint, List.set_cons_zero, List.set_cons_succ, List.getD_cons_zero, List.getD_cons_succ, Bool.not_true, Bool.not_false, Bool.false_eq_true, if_false, if_true, true_and, wo_mul]
    refine ⟨mulOk_r (by omega) (by omega), .int i, ?_⟩
    rw [List.length_append]
    simp [Int.pow_succ]
  · rintro Γ m' ⟨rfl, x5, rfl⟩
    simp only [wr_fnC, wr_fnF, ws_seq, ws_set, ws_ret, ws_if, ws_nil, ws_for, ws_asg, ws_parN, ws_par, setAll_cons, setAll_nil, wr_var, wr_c, wr_c1, wr_c2, wr_call, wr_call0, wr_acons, wr_anil, wr_tor, wr_tand, wr_tnot, wr_tru, wr_tcmp, wr_cAnd, wr_cOr, wr_if, wr_lst, wr_tup, wr_lc, wr_iseq, wr_irg, wr_ok, wr_sl, wr_onone, wr_osome, wo_some, wo_bl, wo_tru_b, wo_tru_l, wo_tru_t, wo_not_b, wo_add, wo_sub, wo_lt, wo_gt, wo_le, wo_ge, wo_eqi, wo_nei, wo_len_l, wo_len_t, wo_list_l, wo_list_t, wo_tuple_l, wo_tuple_t, wo_items_l, wo_items_t, wo_ix_l, wo_ix_t, wo_sl_l, wo_sl_t, wo_gn, wo_gT, wo_gTl, wo_gsCons, wo_gsNil, wo_isn, wo_isnn, szl0, szl1, szl2, szl3, szl4, szl5, szl6, szl7, List.replicate, List.cons_append, List.nil_append, wo_asint, List.set_cons_zero, List.set_cons_succ, List.getD_cons_zero, List.getD_cons_succ, Bool.not_true, Bool.not_false, Bool.false_eq_true, if_false, if_true, true_and]
    simp
theorem dice_ok {b T k : Nat} {M : Int} {m : Mu} {Γ : Gam} (h0 : Γ.getD 0 .non = .box b) (h3 : Γ.getD 5 .non = .int M) (hl : Γ.length = 18) (hM : 1 ≤ M) (hM2 : M ≤ 2000000000) (h : Bx (T + k) b m) :
    WR (lcGo (gN 17) (fun _ m => .ok true m) (cCall m_law_take (aCons (cVar 0) (aCons (cVar 5) aNil))) Γ (rangeI 0 k) m) fun ys m' => ∃ dice : List Int, ys = dice.map .int ∧ dice.length = k ∧ Bx T b m' ∧ m'.length = m.length := by
  refine wr_lcGo (fun es acc m' => ∃ (dice : List Int) (j : Nat), es = rangeI j (k - j) ∧ j ≤ k ∧ acc = dice.map .int ∧ dice.length = j ∧ Bx (T + k - j) b m' ∧ m'.length = m.length) ?_ _ _ _ ⟨[], 0, by simp, by omega, rfl, rfl, by simpa using h, rfl⟩ ?_
  · rintro e es acc m1 ⟨dice, j, hd, hj, rfl, hdl, hb, hm⟩
    have hj' : k - j = (k - (j + 1)) + 1 := by
      rcases Nat.lt_or_ge j k with z | z
      · omega
      · rw [show k - j = 0 by omega] at hd; cases hd
    rw [hj', rangeI] at hd
    cases hd
    have g0 : (Γ.set 17 (.int (j : Nat))).getD 0 .non = .box b := by rw [getD_set_ne (by decide)]; exact h0
    have g3 : (Γ.set 17 (.int (j : Nat))).getD 5 .non = .int M := by rw [getD_set_ne (by decide)]; exact h3
    simp only [wo_gn, wr_ok, if_true, wr_call, wr_acons, wr_anil, wr_var, g0, g3]
    refine (take_ok (t := T + k - j - 1) (k := M) (hb.mono (by omega)) (by omega) (by omega)).mono ?_
    rintro d m2 ⟨q, rfl, hq0, hq1, hb2, hm2⟩
    exact ⟨dice ++ [q], j + 1, by simp, by omega, by rw [List.map_append]; rfl, by simp; omega, hb2.mono (by omega), by omega⟩
  · rintro ys m1 ⟨dice, j, hd, hj, hys, hdl, hb, hm⟩
    have : j = k := by
      have := congrArg List.length hd
      rw [rangeI_length] at this
      simp at this; omega
    subst this
    exact ⟨dice, by simpa using hys, hdl, hb.mono (by omega), hm⟩
theorem wo_mulD3 {m : Mu} {x : D} {Q : D → Prop} : WO (mulD m (.lst [x]) (.int 3)) Q = Q (.lst [x, x, x]) := mul_repD (K := 3) (by omega)
theorem at_part {parts : List Int} {k : Int} (h0 : 0 ≤ k) (h1 : k < parts.length) : atI (parts.map D.int) k = some (.int (parts.getD k.toNat 0)) := by
  have hkk : k = (k.toNat : Int) := by omega
  have hlt : k.toNat < parts.length := by omega
  rw [hkk]
  refine atI_k ?_
  rw [List.getElem?_map, List.getElem?_eq_getElem hlt, List.getD_eq_getElem?_getD, ← hkk, List.getElem?_eq_getElem hlt]
  rfl
/-- one band hears nothing of one lot -/
theorem band_row {n : Int} {ls : List Ln} {bss L : List (List Int)} {b : List Int} {M q : Int} {parts : List Int} {m : Mu} {x0 x1 x2 x3 x4 x7 x8 x11 x14 x15 x16 x17 : D} {Qn : Gam → Mu → Prop} {Qr : D → Mu → Prop} (g : Good n ls) (hn : n ≤ 6) (hb : b ∈ bss) (hF : Fam (rts n ls []) bss L) (hM : 2 ≤ M) (hM2 : M ≤ 2000000000) (hp : parts.length = L.length)
    (hQ : ∀ y4 y14, Qn [x0, x1, x2, x3, y4, .int M, eG L, x7, x8, .tup (parts.map .int), eT b, x11, .int (L.length : Nat), .int q, y14, x15, x16, x17] m) : WS (inner67 [x0, x1, x2, x3, x4, .int M, eG L, x7, x8, .tup (parts.map .int), eT b, x11, .int (L.length : Nat), .int q, x14, x15, x16, x17] m) Qn Qr := by
  obtain ⟨hL1, hL2⟩ := fam_hrd hb hF
  have hLh := hF.hi
  have hh : m_heard_at [eG L, eT b] m = .ok (.tup ((hrd b L).map .int)) m := heard_at_ok (m := m) (BandsD.t L) (BandD.t b) (by omega) fun r hr => by
    have := rte_len g ((mem_rts' g).mp (hF.sub r hr))
    omega
  have lc : ∀ (y14 y16 : D), lcGo (gN 16) (fun _ m => .ok true m) (cTup (aCons (cVar 16) (aCons (c2 ixD (cVar 9) (cVar 16)) aNil))) [x0, x1, x2, x3, x4, .int M, eG L, x7, x8, .tup (parts.map .int), eT b, x11, .int (L.length : Nat), .int q, y14, x15, y16, x17] ((hrd b L).map .int) m = .ok ((hrd b L).map fun k => .tup [.int k, .int (parts.getD k.toNat 0)]) m := fun y14 y16 => by
    refine wr_lcEM D.int _ fun k hk => ?_
    obtain ⟨k0, k1⟩ := hL2 k hk
    have at1 := at_part (parts := parts) k0 (by omega)
    simp only [wr_fnC, wr_fnF, ws_seq, ws_set, ws_ret, ws_if, ws_nil, ws_for, ws_asg, ws_parN, ws_par, setAll_cons, setAll_nil, wr_var, wr_c, wr_c1, wr_c2, wr_call, wr_call0, wr_acons, wr_anil, wr_tor, wr_tand, wr_tnot, wr_tru, wr_tcmp, wr_cAnd, wr_cOr, wr_if, wr_lst, wr_tup, wr_lc, wr_iseq, wr_irg, wr_ok, wr_sl, wr_onone, wr_osome, wo_some, wo_bl, wo_tru_b, wo_tru_l, wo_tru_t, wo_not_b, wo_add, wo_sub, wo_lt, wo_gt, wo_le, wo_ge, wo_eqi, wo_nei, wo_len_l, wo_len_t, wo_list_l, wo_list_t, wo_tuple_l, wo_tuple_t, wo_items_l, wo_items_t, wo_ix_l, wo_ix_t, wo_sl_l, wo_sl_t, wo_gn, wo_gT, wo_gTl, wo_gsCons, wo_gsNil, wo_isn, wo_isnn, szl0, szl1, szl2, szl3, szl4, szl5, szl6, szl7, List.replicate, List.cons_append, List.nil_append, wo_asint, List.set_cons_zero, List.set_cons_succ, List.getD_cons_zero, List.getD_cons_succ, Bool.not_true, Bool.not_false, Bool.false_eq_true, if_false, if_true, true_and, at1, List.length_cons, List.length_nil, show szOk (0 + 1 + 1) = true from rfl]
    try exact ⟨rfl, rfl⟩
  have ln := learn_non (M := M) (n := L.length) (m := m) (xs := (hrd b L).map fun k => D.tup [.int k, .int (parts.getD k.toNat 0)]) hM (by rw [List.length_map]; exact hL1)
  have hw : ∀ k : D, m_how_many_shares [.int M, .int (L.length : Nat), .tup ((hrd b L).map fun k => D.tup [.int k, .int (parts.getD k.toNat 0)]), k] m = .ok (.int (M ^ (L.length - 1 - (hrd b L).length))) m := fun k => by
    have := how_lt (m := m) (k := k) (xs := (hrd b L).map fun k => D.tup [.int k, .int (parts.getD k.toNat 0)]) hM hM2 hLh (by rw [List.length_map]; exact hL1)
    rw [List.length_map] at this
    exact this
  have hpos : 1 ≤ M ^ (L.length - 1 - (hrd b L).length) := Int.pow_pos (by omega)
  generalize hV : M ^ (L.length - 1 - (hrd b L).length) = V at hw hpos
  have lc2 : ∀ (y4 y16 : D), lcGo (gN 16) (fun _ m => .ok true m) (cCall m_how_many_shares (aCons (cVar 5) (aCons (cVar 12) (aCons (cVar 14) (aCons (cVar 16) aNil))))) [x0, x1, x2, x3, y4, .int M, eG L, x7, x8, .tup (parts.map .int), eT b, x11, .int (L.length : Nat), .int q, .tup ((hrd b L).map fun k => D.tup [.int k, .int (parts.getD k.toNat 0)]), x15, y16, x17] [.int q, .int 0, .int (M - 1)] m = .ok [.int V, .int V, .int V] m := fun y4 y16 => by
    have := wr_lcEM (m := m) (ct := gN 16) (ce := cCall m_how_many_shares (aCons (cVar 5) (aCons (cVar 12) (aCons (cVar 14) (aCons (cVar 16) aNil))))) (Γ := [x0, x1, x2, x3, y4, .int M, eG L, x7, x8, .tup (parts.map .int), eT b, x11, .int (L.length : Nat), .int q, .tup ((hrd b L).map fun k => D.tup [.int k, .int (parts.getD k.toNat 0)]), x15, y16, x17]) id (fun _ => D.int V) (xs := [.int q, .int 0, .int (M - 1)]) fun x hx => by
      simp only [wo_gn, List.set_cons_zero, List.set_cons_succ, List.getD_cons_zero, List.getD_cons_succ, id, wr_call, wr_acons, wr_anil, wr_var, hw, wr_ok]
      all_goals (first | trivial | rfl | exact ⟨by trivial, rfl⟩ | exact ⟨by trivial, by trivial⟩ | exact ⟨rfl, by trivial⟩ | exact ⟨by trivial, fun _ => rfl⟩ | exact ⟨⟨by trivial, by trivial⟩, fun _ => rfl⟩ | exact ⟨⟨by trivial, by trivial⟩, fun _ => ⟨by trivial, rfl⟩⟩ | exact fun _ => rfl | exact fun _ => trivial)
    rw [List.map_id] at this
    exact this
  have sm : m_law_same 16 [.lst [.int V, .int V, .int V], .lst [.int V, .int V, .int V]] m = .ok (.bl true) m := same_eq (sm_list (k := 14) (fun x hx => by simp only [List.mem_cons, List.not_mem_nil, or_false, or_self] at hx; rw [hx]; exact sm_int) (by simp))
  have hge : decide (((hrd b L).length : Int) < (L.length : Int)) = true := decide_eq_true (by omega)
  unfold inner67
  simp only [wr_fnC, wr_fnF, ws_seq, ws_set, ws_ret, ws_if, ws_nil, ws_for, ws_asg, ws_parN, ws_par, setAll_cons, setAll_nil, wr_var, wr_c, wr_c1, wr_c2, wr_call, wr_call0, wr_acons, wr_anil, wr_tor, wr_tand, wr_tnot, wr_tru, wr_tcmp, wr_cAnd, wr_cOr, wr_if, wr_lst, wr_tup, wr_lc, wr_iseq, wr_irg, wr_ok, wr_sl, wr_onone, wr_osome, wo_some, wo_bl, wo_tru_b, wo_tru_l, wo_tru_t, wo_not_b, wo_add, wo_sub, wo_lt, wo_gt, wo_le, wo_ge, wo_eqi, wo_nei, wo_len_l, wo_len_t, wo_list_l, wo_list_t, wo_tuple_l, wo_tuple_t, wo_items_l, wo_items_t, wo_ix_l, wo_ix_t, wo_sl_l, wo_sl_t, wo_gn, wo_gT, wo_gTl, wo_gsCons, wo_gsNil, wo_isn, wo_isnn, szl0, szl1, szl2, szl3, szl4, szl5, szl6, szl7, List.replicate, List.cons_append, List.nil_append, wo_asint, List.set_cons_zero, List.set_cons_succ, List.getD_cons_zero, List.getD_cons_succ, Bool.not_true, Bool.not_false, Bool.false_eq_true, if_false, if_true, true_and, hh, lc, List.length_map, szOk_of (show (hrd b L).length ≤ 16777216 by omega), ln, hge, show isNone .non = true from rfl, List.length_cons, List.length_nil, show szOk (0 + 1 + 1 + 1) = true from rfl, show szOk (0 + 1) = true from rfl, lc2, show ∀ (x y z : D), atI [x, y, z] 0 = some x from fun _ _ _ => by simp [atI, ixN], wo_mulD3, sm, decide_eq_false (show ¬ V < 1 by omega)]
  exact hQ _ _
/-- one lot -/
theorem lot_row {t b : Nat} {n : Int} {ls : List Ln} {bss L : List (List Int)} {M : Int} {m : Mu} {x3 x4 x7 x8 x9 x10 x11 x12 x13 x14 x15 x16 x17 : D} {Qn : Gam → Mu → Prop} {Qr : D → Mu → Prop} (h : Bx (t + 10) b m) (g : Good n ls) (hn : n ≤ 6) (hl : ls.length ≤ 1000) (hbl : bss.length ≤ 8) (hF : Fam (rts n ls []) bss L) (hM : 2 ≤ M) (hM2 : M ≤ 2000000000)
    (hQ : ∀ m' y4 y9 y10 y11 y12 y13 y14, Bx t b m' → m'.length = m.length → Qn [.box b, .tup [.int n, .tup (ls.map eP)], .tup (bss.map eT), x3, y4, .int M, eG L, x7, x8, y9, y10, y11, y12, y13, y14, x15, x16, x17] m') : WS (body67 [.box b, .tup [.int n, .tup (ls.map eP)], .tup (bss.map eT), x3, x4, .int M, eG L, x7, x8, x9, x10, x11, x12, x13, x14, x15, x16, x17] m) Qn Qr := by
  have hLh := hF.hi
  have hLo := hF.lo
  have hlen : ∀ {m : Mu} {Q : D → Prop}, WO (lenD m (eG L)) Q = Q (.int (L.length : Nat)) := fun {m Q} => by unfold eG; rw [wo_len_t, List.length_map]
  have hit : ∀ {m : Mu} {Q : List D → Prop}, WO (itemsD m (eG L)) Q = Q (L.map eT) := fun {m Q} => wo_items_G
  have hrl := rts_len6 (b := []) g hn
  unfold body67
  simp only [ws_seq, ws_parN, wr_all_cons, wr_all_nil, wr_c1, wr_var, List.set_cons_zero, List.set_cons_succ, List.getD_cons_zero, List.getD_cons_succ, hlen, wr_call, wr_acons, wr_anil]
  refine (take_ok (t := t + 9) (k := M) (h.mono (by omega)) (by omega) (by omega)).mono ?_
  rintro d m1 ⟨q, rfl, hq0, hq1, hB1, hm1⟩
  simp only [setAll_cons, setAll_nil, List.set_cons_zero, List.set_cons_succ, List.getD_cons_zero, List.getD_cons_succ, ws_set, wr_call, wr_acons, wr_anil, wr_c1, wr_lc, wr_irg, wr_c2, wr_var, wr_c, wo_sub, rg1_ok (z := (L.length : Int) - 1) (by omega) (by omega), wo_some, rangeI_length, szOk_of (show ((L.length : Int) - 1).toNat ≤ 16777216 by omega), if_true]
  rw [show ((L.length : Int) - 1).toNat = L.length - 1 by omega]
  refine (dice_ok (T := t) (k := L.length - 1) (M := M) rfl rfl rfl (by omega) hM2 (hB1.mono (by omega))).mono ?_
  rintro ys m2 ⟨dice, rfl, hdl, hB2, hm2⟩
  have hsum := sum_back (xs := dice) hq0 hq1
  have hpl : (dice ++ [(q - dice.sum) % M]).length = L.length := by simp; omega
  have sh := shares2 (m := m2) (xs := dice) (j := q) (k := M) (by omega) (by omega)
  have tl := told2 (m := m2) (xs := dice ++ [(q - dice.sum) % M]) (k := M) (by omega)
  rw [hsum] at tl
  generalize hparts : dice ++ [(q - dice.sum) % M] = parts at *
  have sm1 : m_law_same 16 [.lst [.int q, .int (L.length : Nat)], .lst [.int q, .int (L.length : Nat)]] m2 = .ok (.bl true) m2 := same_eq (sm_list (k := 14) (fun z hz => by
    simp only [List.mem_cons, List.not_mem_nil, or_false] at hz
    rcases hz with rfl | rfl <;> exact sm_int) (by simp))
  have hrt := routes_ok (m := m2) (NetD.t n ls) g (by omega) hl
  have lcn : ∀ (y4 y9 y10 y11 y12 y13 y14 y15 : D), lcGo (gN 15) (tCmp ninD (cVar 15) (cCall m_routes (aCons (cVar 1) aNil))) (cVar 15) [.box b, .tup [.int n, .tup (ls.map eP)], .tup (bss.map eT), x3, y4, .int M, eG L, x7, x8, y9, y10, y11, y12, y13, y14, y15, x16, x17] (L.map eT) m2 = .ok [] m2 := fun y4 y9 y10 y11 y12 y13 y14 y15 => by
    have := wr_lcE (m := m2) (ct := gN 15) (tt := tCmp ninD (cVar 15) (cCall m_routes (aCons (cVar 1) aNil))) (ce := cVar 15) (Γ := [.box b, .tup [.int n, .tup (ls.map eP)], .tup (bss.map eT), x3, y4, .int M, eG L, x7, x8, y9, y10, y11, y12, y13, y14, y15, x16, x17]) eT (fun _ => false) eT (xs := L) fun r hr => by
      simp only [wo_gn, List.set_cons_zero, List.set_cons_succ, List.getD_cons_zero, List.getD_cons_succ, wr_tcmp, wr_c2, wr_var, wr_call, wr_acons, wr_anil, hrt, wr_ok, wo_nin_TL, List.contains_iff_mem.mpr (hF.sub r hr), Bool.not_true, wo_bl]
      first | exact ⟨⟨rfl, rfl⟩, by simp⟩ | exact ⟨⟨by trivial, by trivial⟩, by simp⟩ | simp
    rw [this]
    have e : L.filter (fun _ => false) = [] := by simp
    rw [e]; rfl
  have hnn : ∀ {Q : D → Prop}, WO (neD m2 (.lst []) (.lst [])) Q = Q (.bl false) := fun {Q} => by
    have := wo_nenil (m := m2) (xs := []) (QO := Q) rfl
    exact this
  simp only [wo_tuple_l, sh, wr_ok, List.set_cons_zero, List.set_cons_succ, List.getD_cons_zero, List.getD_cons_succ, ws_if, wr_tnot, wr_tru, wr_lst, wr_acons, wr_anil, wr_call, wr_var, tl, wr_c1, wo_len_t, List.length_map, hpl, List.length_cons, List.length_nil, show szOk (0 + 1 + 1) = true from rfl, true_and, if_true, sm1, wo_tru_b, Bool.not_true, Bool.false_eq_true, if_false, ws_nil, wr_tcmp, wr_c2, wr_lc, wr_iseq, hit, szOk_of (show L.length ≤ 16777216 by omega), lcn, show szOk 0 = true from rfl, hnn, wo_bl, ws_for, wo_items_t]
  refine ws_loopE eT (fun l Γ m' => m' = m2 ∧ ∃ y4 y10 y14 : D, Γ = [.box b, .tup [.int n, .tup (ls.map eP)], .tup (bss.map eT), x3, y4, .int M, eG L, x7, x8, .tup (parts.map .int), y10, x11, .int (L.length : Nat), .int q, y14, x15, x16, x17]) ?_ ?_ ⟨rfl, _, _, _, rfl⟩
  · rintro l c r hlr Γ m3 ⟨rfl, y4, y10, y14, rfl⟩
    have hc : c ∈ bss := by rw [hlr]; simp
    simp only [wo_gn, List.set_cons_zero, List.set_cons_succ, List.getD_cons_zero, List.getD_cons_succ]
    exact band_row g hn hc hF hM hM2 hpl fun z4 z14 => ⟨rfl, _, _, _, rfl⟩
  · rintro Γ m3 ⟨rfl, y4, y10, y14, rfl⟩
    have hps : ((List.range L.length).map fun (k : Nat) => (((k : Nat) : Int), parts.getD k 0)).map (·.2) = parts := by
      refine List.ext_getElem? fun j => ?_
      rw [List.map_map, List.getElem?_map]
      by_cases hj : j < L.length
      · rw [List.getElem?_range hj, List.getElem?_eq_getElem (show j < parts.length by omega)]
        simp [List.getD_eq_getElem?_getD, List.getElem?_eq_getElem (show j < parts.length by omega)]
      · rw [List.getElem?_eq_none (by simp; omega), List.getElem?_eq_none (by omega)]
        rfl
    have la := learn_all (m := m3) (M := M) (n := L.length) (ps := (List.range L.length).map fun (k : Nat) => (((k : Nat) : Int), parts.getD k 0)) hM (by simp) (by omega)
    rw [hps, hsum] at la
    have lc3 : ∀ (y11 y16 : D), lcGo (gN 16) (fun _ m => .ok true m) (cTup (aCons (cVar 16) (aCons (c2 ixD (cVar 9) (cVar 16)) aNil))) [.box b, .tup [.int n, .tup (ls.map eP)], .tup (bss.map eT), x3, y4, .int M, eG L, x7, x8, .tup (parts.map .int), y10, y11, .int (L.length : Nat), .int q, y14, x15, y16, x17] ((List.range L.length).map fun (k : Nat) => D.int k) m3 = .ok (((List.range L.length).map fun (k : Nat) => (((k : Nat) : Int), parts.getD k 0)).map prD) m3 := fun y11 y16 => by
      rw [List.map_map]
      refine wr_lcEM (fun (k : Nat) => D.int k) _ fun k hk => ?_
      have hk := List.mem_range.mp hk
      have at1 := at_part (parts := parts) (k := (k : Int)) (by omega) (by omega)
      simp only [wr_fnC, wr_fnF, ws_seq, ws_set, ws_ret, ws_if, ws_nil, ws_for, ws_asg, ws_parN, ws_par, setAll_cons, setAll_nil, wr_var, wr_c, wr_c1, wr_c2, wr_call, wr_call0, wr_acons, wr_anil, wr_tor, wr_tand, wr_tnot, wr_tru, wr_tcmp, wr_cAnd, wr_cOr, wr_if, wr_lst, wr_tup, wr_lc, wr_iseq, wr_irg, wr_ok, wr_sl, wr_onone, wr_osome, wo_some, wo_bl, wo_tru_b, wo_tru_l, wo_tru_t, wo_not_b, wo_add, wo_sub, wo_lt, wo_gt, wo_le, wo_ge, wo_eqi, wo_nei, wo_len_l, wo_len_t, wo_list_l, wo_list_t, wo_tuple_l, wo_tuple_t, wo_items_l, wo_items_t, wo_ix_l, wo_ix_t, wo_sl_l, wo_sl_t, wo_gn, wo_gT, wo_gTl, wo_gsCons, wo_gsNil, wo_isn, wo_isnn, szl0, szl1, szl2, szl3, szl4, szl5, szl6, szl7, List.replicate, List.cons_append, List.nil_append, wo_asint, List.set_cons_zero, List.set_cons_succ, List.getD_cons_zero, List.getD_cons_succ, Bool.not_true, Bool.not_false, Bool.false_eq_true, if_false, if_true, true_and, at1, List.length_cons, List.length_nil, show szOk (0 + 1 + 1) = true from rfl]
      first | exact ⟨rfl, rfl⟩ | rfl
    simp only [ws_seq, ws_set, wr_c1, wr_lc, wr_irg, wr_acons, wr_anil, wr_var, List.set_cons_zero, List.set_cons_succ, List.getD_cons_zero, List.getD_cons_succ, rg1_ok (z := (L.length : Int)) (by omega) (by omega), wo_some, rangeI_zero, Int.toNat_natCast, List.length_map, List.length_range, szOk_of (show L.length ≤ 16777216 by omega), if_true, lc3, wr_ok, wo_tuple_l, ws_if, wr_tcmp, wr_c2, wr_call, la, wo_nei, beq_self_eq_true, Bool.not_true, wo_bl, Bool.false_eq_true, if_false, ws_nil]
    exact hQ _ _ _ _ _ _ _ _ hB2 (by omega)
theorem case_right_ok {t b : Nat} {n : Int} {ls : List Ln} {bss : List (List Int)} {m : Mu} (h : Bx (t + 30) b m) (g : Good n ls) (hn : n ≤ 6) (hl : ls.length ≤ 1000) (h8 : bss.length ≤ 8) (hne : bss ≠ []) (hb : ∀ r ∈ bss, (0 : Int) ∉ r ∧ r.length ≤ 1000) :
    WR (m_law_case_right [.box b, .tup [.int n, .tup (ls.map eP)], .tup (bss.map eT)] m) fun d m' => d = .bl true ∧ Bx t b m' ∧ m'.length = m.length := by
  have h0 : ∀ b ∈ bss, (0 : Int) ∉ b := fun b hb' => (hb b hb').1
  have hr : ∀ b ∈ bss, b.length ≤ 1000 := fun b hb' => (hb b hb').2
  have hW := rts_len6 (b := []) g hn
  have hr10 : ∀ r ∈ rts n ls [], r.length ≤ 10 := fun r hr => by have := rte_len g ((mem_rts' g).mp hr); omega
  have e1 := unheard_ok (m := m) (NetD.t n ls) (BandsD.t bss) g (by omega) hl (by omega) hr
  have e2 := ear_band_ok (m := m) (NetD.t n ls) (BandsD.t bss) g (by omega) hl (by omega) hr
  have hp2 : plAll 39 ((ears n ls bss).map eT) = true := plAll_map (fun r => pl_eT (n := 38)) _
  have hzb := szOk_of (show bss.length ≤ 16777216 by omega)
  have l1 : ∀ (x3 x4 x5 x6 x7 x8 x9 x10 x11 x12 x13 x14 x15 x16 x17 : D), lcGo (gN 9) (tTru (cCall m_meets (aCons (cVar 1) (aCons (cVar 9) aNil)))) (cVar 9) [.box b, .tup [.int n, .tup (ls.map eP)], .tup (bss.map eT), x3, x4, x5, x6, x7, x8, x9, x10, x11, x12, x13, x14, x15, x16, x17] (bss.map eT) m = .ok ((ears n ls bss).map eT) m := fun x3 x4 x5 x6 x7 x8 x9 x10 x11 x12 x13 x14 x15 x16 x17 => by
    unfold ears
    refine wr_lcE eT _ _ fun c hc => ?_
    have e3 := meets_ok (m := m) (NetD.t n ls) (BandD.t c) g (by omega) hl
    have e3' : m_meets [.tup [.int n, .tup (ls.map eP)], eT c] m = _ := e3
    simp only [wo_gn, List.set_cons_zero, List.set_cons_succ, List.getD_cons_zero, List.getD_cons_succ, wr_tru, wr_call, wr_acons, wr_anil, wr_var, e3', wr_ok, wo_tru_b]
    exact ⟨⟨by trivial, by trivial⟩, fun _ => ⟨by trivial, by trivial⟩⟩
  unfold m_law_case_right
  simp only [wr_fnC, ws_seq, ws_set, wr_lc, wr_iseq, wr_var, List.replicate, List.cons_append, List.nil_append, List.set_cons_zero, List.set_cons_succ, List.getD_cons_zero, List.getD_cons_succ, wo_items_t, List.length_map, hzb, if_true, l1, wr_ok, wr_lst, wr_acons, wr_anil, wr_call, e1, e2, List.length_cons, List.length_nil, show szOk (0 + 1 + 1) = true from rfl, show szOk 0 = true from rfl, true_and, ws_if, wr_tnot, wr_tru, wr_c2, wo_eqnil hp2, wr_if, wr_tcmp, wo_nenil hp2, wo_bl, List.isEmpty_map]
  unfold earD
  cases hE : ears n ls bss with
  | cons e0 es =>
    have he0 : (rts n ls e0).isEmpty = true ∧ e0 ∈ bss := by
      have : e0 ∈ ears n ls bss := by rw [hE]; simp
      unfold ears at this
      exact ⟨(List.mem_filter.mp this).2, (List.mem_filter.mp this).1⟩
    have hp3 : plAll 39 ((e0 :: es).map eT) = true := by rw [← hE]; exact hp2
    have hat : atI ((e0 :: es).map eT) 0 = some (eT e0) := by rw [List.map_cons]; simp [atI, ixN]
    have sm : m_law_same 16 [.lst [.bl false, eT e0], .lst [.bl false, eT e0]] m = .ok (.bl true) m := same_eq (sm_list (k := 14) (fun x hx => by
      simp only [List.mem_cons, List.not_mem_nil, or_false] at hx
      rcases hx with rfl | rfl
      · exact .bl
      · exact sm_ints (k := 13) (by have := hr e0 he0.2; omega)) (by simp))
    have hrt := routes_ok (m := m) (NetD.t n ls) g (by omega) hl
    have hin : ∀ (q : List Int) (x4 x9 x15 : D), lcGo (gN 15) (tCmp inD (cVar 15) (c2 ixD (cVar 3) (cC (.int 0)))) (cVar 15) [.box b, .tup [.int n, .tup (ls.map eP)], .tup (bss.map eT), .lst ((e0 :: es).map eT), x4, .non, .non, .non, .non, x9, .non, .non, .non, .non, .non, x15, .non, .non] (q.map .int) m = .ok ((q.filter fun h => e0.contains h).map .int) m := fun q x4 x9 x15 => by
      refine wr_lcE D.int _ _ fun x hx => ?_
      simp only [wo_gn, List.set_cons_zero, List.set_cons_succ, List.getD_cons_zero, List.getD_cons_succ, wr_tcmp, wr_c2, wr_var, wr_c, wo_ix_l, hat, wo_some]
      rw [show eT e0 = .tup (e0.map .int) from rfl, wo_in_i, wo_bl]
      exact ⟨⟨by trivial, by trivial⟩, fun _ => ⟨by trivial, by trivial⟩⟩
    have hlc : ∀ (x4 x9 : D), lcGo (gN 9) (tCmp eqD (cLc (iSeq (cVar 9)) (gN 15) (tCmp inD (cVar 15) (c2 ixD (cVar 3) (cC (.int 0)))) (cVar 15)) (cLst aNil)) (cVar 9) [.box b, .tup [.int n, .tup (ls.map eP)], .tup (bss.map eT), .lst ((e0 :: es).map eT), x4, .non, .non, .non, .non, x9, .non, .non, .non, .non, .non, .non, .non, .non] ((rts n ls []).map eT) m = .ok [] m := fun x4 x9 => by
      have := wr_lcE (m := m) (ct := gN 9) (tt := tCmp eqD (cLc (iSeq (cVar 9)) (gN 15) (tCmp inD (cVar 15) (c2 ixD (cVar 3) (cC (.int 0)))) (cVar 15)) (cLst aNil)) (ce := cVar 9) (Γ := [.box b, .tup [.int n, .tup (ls.map eP)], .tup (bss.map eT), .lst ((e0 :: es).map eT), x4, .non, .non, .non, .non, x9, .non, .non, .non, .non, .non, .non, .non, .non]) eT (fun r => pastB e0 r) eT (xs := rts n ls []) fun q hq => by
        have hql := hr10 q hq
        have hpp : plAll 39 ((q.filter fun h => e0.contains h).map D.int) = true := plAll_map (fun r => by simp [D.pl]) _
        have hit : ∀ {Q : List D → Prop}, WO (itemsD m (eT q)) Q = Q (q.map D.int) := fun {Q} => wo_items_t
        simp only [wo_gn, List.set_cons_zero, List.set_cons_succ, List.getD_cons_zero, List.getD_cons_succ, wr_tcmp, wr_c2, wr_lc, wr_iseq, wr_var, hit, List.length_map, szOk_of (show q.length ≤ 16777216 by omega), if_true, hin, wr_ok, wr_lst, wr_anil, List.length_nil, show szOk 0 = true from rfl, true_and, wo_eqnil hpp, List.isEmpty_map, wo_bl]
        refine ⟨?_, fun _ => by first | trivial | exact ⟨by trivial, by trivial⟩⟩
        unfold pastB
        rw [Bool.eq_iff_iff]
        simp
      rw [this]
      have hf := rts_filter (b := []) g (h0 e0 he0.2)
      rw [List.nil_append] at hf
      rw [hf, List.isEmpty_iff.mp he0.1]
      rfl
    have hee : ∀ {Q : D → Prop}, WO (eqD m (.lst []) (.lst [])) Q = Q (.bl true) := fun {Q} => by
      have := wo_eqnil (m := m) (xs := []) (QO := Q) rfl
      exact this
    simp only [List.isEmpty_cons, wo_nenil hp3, List.isEmpty_map, wo_bl, Bool.not_false, if_true, wr_c2, wr_var, wr_c, List.set_cons_zero, List.set_cons_succ, List.getD_cons_zero, List.getD_cons_succ, wo_ix_l, hat, wo_some, sm, wr_ok, wo_tru_b, Bool.not_true, Bool.false_eq_true, if_false, ws_nil, ws_ret, wr_lc, wr_iseq, wr_call, wr_acons, wr_anil, hrt, wo_items_l, List.length_map, szOk_of (show (rts n ls []).length ≤ 16777216 by omega), hlc, wr_lst, List.length_nil, show szOk 0 = true from rfl, true_and, hee]
    first | exact ⟨by trivial, h.mono (by omega), by trivial⟩ | exact ⟨h.mono (by omega), by trivial⟩ | exact h.mono (by omega)
  | nil =>
    have hnn : ∀ {Q : D → Prop}, WO (neD m (.lst (([] : List (List Int)).map eT)) (.lst [])) Q = Q (.bl false) := fun {Q} => by
      have := wo_nenil (m := m) (xs := []) (QO := Q) rfl
      exact this
    have hEe : (ears n ls bss).isEmpty = true := by rw [hE]; rfl
    have hc : ∀ b ∈ bss, ∃ r ∈ rts n ls [], pastB b r = true := fun b hb' => by
      cases hb3 : rts n ls b with
      | nil =>
        unfold ears at hE
        exact absurd (List.isEmpty_iff.mpr hb3) (List.filter_eq_nil_iff.mp hE b hb')
      | cons r rs => exact ⟨r, (rt_sub g (h0 b hb')).mp (by rw [hb3]; simp)⟩
    obtain ⟨k, c, hF⟩ := few_ex hc
    have hS := hF.sorted
    have hSl := hS.len
    have hke := hF.le
    have hb1 : 1 ≤ bss.length := by
      cases bss with
      | nil => exact absurd rfl hne
      | cons => simp
    have hk1 : 1 ≤ k := by
      cases bss with
      | nil => exact absurd rfl hne
      | cons b bs =>
        obtain ⟨q, hq, -⟩ := hF.cov b (by simp)
        have := hF.len
        cases c with
        | nil => cases hq
        | cons => simp at this; omega
    have hP : ∀ b ∈ bss, rtOf n ls b ∈ rts n ls [] ∧ pastB b (rtOf n ls b) = true := fun b hb' => by
      have := (arp_some g).mp (ears_none hEe hb')
      exact (rt_sub g (h0 b hb')).mp ((mem_rts' g).mpr this.1)
    have f1 : Fam (rts n ls []) bss (bss.map (rtOf n ls)) := ⟨by simpa using hb1, by simpa using h8, fun r hr' => by obtain ⟨b, hb', rfl⟩ := List.mem_map.mp hr'; exact (hP b hb').1, fun b hb' => ⟨_, List.mem_map.mpr ⟨b, hb', rfl⟩, (hP b hb').2⟩⟩
    have f2 : Fam (rts n ls []) bss (sortL c) := ⟨by omega, by omega, hS.sub, hS.cov⟩
    have e3 := share_routes_ok (m := m) (NetD.t n ls) (BandsD.t bss) g (by omega) hl (by omega) hr hEe
    have e3' : m_share_routes [.tup [.int n, .tup (ls.map eP)], .tup (bss.map eT)] m = .ok (eG (bss.map (rtOf n ls))) m := e3
    have e4 := few_is (m := m) (NetD.t n ls) (BandsD.t bss) g (by omega) hl h8 hr hEe h0 (by omega) hF
    have hpow : ∀ {m : Mu} {Q : D → Prop}, WO (powD m (.int 10) (.int 9)) Q = Q (.int 1000000000) := fun {m Q} => by
      rw [wo_pow, eq_true (show ((0 : Int) ≤ 9 ∧ ((10 : Int).natAbs.log2 + 1) * (9 : Int).toNat ≤ 134217728) from by decide +kernel), true_and, show ((10 : Int) ^ (9 : Int).toNat) = 1000000000 from by decide +kernel]
    have sm : m_law_same 16 [.lst [.bl true, .non], .lst [.bl true, .non]] m = .ok (.bl true) m := same_eq (sm_list (k := 14) (fun x hx => by
      simp only [List.mem_cons, List.not_mem_nil, or_false] at hx
      rcases hx with rfl | rfl
      · exact .bl
      · exact .non) (by simp))
    simp only [List.isEmpty_nil, hnn, wo_bl, Bool.not_true, Bool.false_eq_true, if_false, wr_c, sm, wr_ok, wo_tru_b, ws_nil, ws_par, wr_callN, wr_acons, wr_anil, wr_var, List.set_cons_zero, List.set_cons_succ, List.getD_cons_zero, List.getD_cons_succ, e3', e4, wr_c2, wr_call, hpow]
    refine (take_ok (t := t + 29) (k := 1000000000) (h.mono (by omega)) (by omega) (by omega)).mono ?_
    rintro d m1 ⟨q, rfl, hq0, hq1, hB1, hm1⟩
    have g1 := isr_ok (m := m1) (rs := bss.map (rtOf n ls)) (NetD.t n ls) (BandsD.t bss) g hl (by simp; omega) (by simp) fun r hr' => ⟨f1.sub r hr', by have := hr10 r (f1.sub r hr'); omega⟩
    have hall : (((bss.map (rtOf n ls)).zip bss).all fun p => pastB p.2 p.1) = true := by
      rw [List.all_eq_true]
      intro p hp
      rw [List.zip_map_left] at hp
      obtain ⟨u, hu, rfl⟩ := List.mem_map.mp hp
      have hu2 : u.1 = u.2 ∧ u.1 ∈ bss := by
        obtain ⟨j, hj⟩ := List.mem_iff_getElem?.mp hu
        obtain ⟨a1, a2⟩ := List.getElem?_zip_eq_some.mp hj
        exact ⟨Option.some.inj (a1.symm.trans a2), (List.of_mem_zip hu).1⟩
      show pastB u.2 (rtOf n ls u.1) = true
      rw [← hu2.1]
      exact (hP u.1 hu2.2).2
    rw [hall] at g1
    have g1' : m_is_share_routes [.tup [.int n, .tup (ls.map eP)], .tup (bss.map eT), eG (bss.map (rtOf n ls))] m1 = .ok (.bl true) m1 := g1
    have g2 := is_few_true (m := m1) (NetD.t n ls) (BandsD.t bss) g (by omega) hl h8 hr hEe h0 (by omega) hF hS
    have g3 := how_few_ok (m := m1) (NetD.t n ls) (BandsD.t bss) g (by omega) hl h8 hr hEe h0 (by omega) hF
    have hlen : ∀ {Q : D → Prop}, WO (lenD m1 (eG (sortL c))) Q = Q (.int k) := fun {Q} => by unfold eG; rw [wo_len_t, List.length_map, hSl]
    have hset : ∀ {Q : D → Prop}, WO (lsetD m1 (eG (bss.map (rtOf n ls)))) Q = Q (.int (nubD ((bss.map (rtOf n ls)).map eT)).length) := fun {Q} => by
      unfold eG
      rw [wo_lsetT, setOk_eT (by simp; omega)]
      simp
    have hkn : k ≤ (nubD ((bss.map (rtOf n ls)).map eT)).length := by
      have e := (isort_perm (nubD ((bss.map (rtOf n ls)).map eT))).length_eq
      rw [uniT_eq, List.length_map] at e
      rw [← e]
      refine hF.least _ (fun r hr' => f1.sub r (mem_uniT.mp hr')) fun b hb' => ?_
      obtain ⟨r, h1, h2⟩ := f1.cov b hb'
      exact ⟨r, mem_uniT.mpr h1, h2⟩
    simp only [wo_add, List.set_cons_zero, List.set_cons_succ, List.getD_cons_zero, List.getD_cons_succ, ws_if, wr_tor, wr_tnot, wr_tru, wr_call, wr_callN, wr_acons, wr_anil, wr_var, g1', g2, g3, wr_ok, wo_tru_b, Bool.not_true, Bool.false_eq_true, if_false, ws_nil, wr_tcmp, wr_c1, wr_c2, hlen, wo_nei, beq_self_eq_true, wo_bl, hset, wo_gt, decide_eq_false (show ¬ (((nubD ((bss.map (rtOf n ls)).map eT)).length : Nat) : Int) < (k : Int) by omega), ws_for, wr_iseq, wr_tup, List.length_cons, List.length_nil, show szOk (0 + 1 + 1) = true from rfl, true_and, wo_items_t]
    refine ws_loopE eG (xs := [bss.map (rtOf n ls), sortL c]) (fun l Γ m' => ∃ x3 x4 x6 y9 y10 y11 y12 y13 y14 y15 y16 y17 : D, Γ = [.box b, .tup [.int n, .tup (ls.map eP)], .tup (bss.map eT), x3, x4, .int (2 + q), x6, eG (bss.map (rtOf n ls)), eG (sortL c), y9, y10, y11, y12, y13, y14, y15, y16, y17] ∧ Bx (t + 20 - 10 * l.length) b m' ∧ m'.length = m.length) ?_ ?_ ⟨_, _, _, _, _, _, _, _, _, _, _, _, rfl, hB1.mono (by simp), by omega⟩
    · rintro l L r hlr Γ m2 ⟨x3, x4, x6, y9, y10, y11, y12, y13, y14, y15, y16, y17, rfl, hB2, hm2⟩
      have hll : l.length + 1 ≤ 2 := by
        have := congrArg List.length hlr
        simp at this; omega
      have hL : Fam (rts n ls []) bss L := by
        have : L ∈ [bss.map (rtOf n ls), sortL c] := by rw [hlr]; simp
        simp only [List.mem_cons, List.not_mem_nil, or_false] at this
        rcases this with rfl | rfl
        · exact f1
        · exact f2
      simp only [wo_gn, List.set_cons_zero, List.set_cons_succ, List.getD_cons_zero, List.getD_cons_succ]
      exact lot_row (t := t + 20 - 10 * (l.length + 1)) (hB2.mono (by omega)) g hn hl h8 hL (by omega) (by omega) fun m' z4 z9 z10 z11 z12 z13 z14 hB3 hm3 => ⟨_, _, _, _, _, _, _, _, _, _, _, _, rfl, hB3.mono (by simp), by omega⟩
    · rintro Γ m2 ⟨x3, x4, x6, y9, y10, y11, y12, y13, y14, y15, y16, y17, rfl, hB2, hm2⟩
      simp only [ws_ret, wr_c]
      exact ⟨by trivial, hB2.mono (by simp), hm2⟩
def hLast : SC := (sRet (c1 allD (cLc (iSeq (cVar 0)) (gN 8) (fun _ m => .ok true m) (cCall m_law_case_right (aCons (cVar 6) (aCons (c2 ixD (cVar 8) (cC (.int 0))) (aCons (c2 ixD (cVar 8) (cC (.int 1))) aNil)))))))
def hThree : Int × List Ln := (5, [(0, 1), (0, 2), (0, 3), (1, 4), (2, 4), (3, 4)])
def hBridge : Int × List Ln := (4, [(0, 1), (0, 2), (1, 2), (1, 3), (2, 3)])
def hDirect : Int × List Ln := (3, [(0, 1), (0, 2), (1, 2)])
def hNone : Int × List Ln := (3, [(0, 1)])
def hTwo : Int × List Ln := (2, [(0, 1)])
def encN (p : Int × List Ln) : D := .tup [.int p.1, .tup (p.2.map eP)]
def hC : List ((Int × List Ln) × List (List Int)) := [(hThree, [[1], [2], [3]]), (hThree, [[1, 2], [3]]), (hThree, [[1, 2, 3]]), (hBridge, [[1], [2]]), (hDirect, [[], [1]]), (hNone, [[], [1]]), (hTwo, [[]])]
def encC (p : (Int × List Ln) × List (List Int)) : D := .tup [.tup [.int p.1.1, .tup (p.1.2.map eP)], .tup (p.2.map eT)]
theorem hC_good : ∀ p ∈ hC, Good p.1.1 p.1.2 ∧ p.1.1 ≤ 6 ∧ p.1.2.length ≤ 1000 ∧ p.2.length ≤ 8 ∧ p.2 ≠ [] ∧ ∀ r ∈ p.2, (0 : Int) ∉ r ∧ r.length ≤ 1000 := by
  intro p hp
  simp only [hC, List.mem_cons, List.not_mem_nil, or_false] at hp
  rcases hp with rfl | rfl | rfl | rfl | rfl | rfl | rfl <;> exact ⟨⟨by decide, by decide, by decide⟩, by decide, by decide, by decide, by decide, by decide⟩
def env67 (k : Nat) : Gam := [.lst (hC.map encC), encN hThree, encN hBridge, encN hDirect, encN hNone, encN hTwo, .box k, .tup ([[1], [2], [3]].map eT), .non]
theorem hpre (m : Mu) : m_law_by_hand_right [] m = fnC 0 (fun _ _ => hLast (env67 m.length) (m ++ [[.int 0, .int 5, .int 0]])) [] m := by kernel_rfl
theorem by_hand (m : Mu) : WR (m_law_by_hand_right [] m) fun d _ => d = .bl true := by
  rw [hpre]
  have hB : Bx 1000 m.length (m ++ [[.int 0, .int 5, .int 0]]) := ⟨0, 5, 0, by simp, by omega, by omega, by omega, by omega⟩
  generalize m ++ [[.int 0, .int 5, .int 0]] = m1 at hB ⊢
  generalize m.length = k at hB ⊢
  unfold hLast
  have h0 : (env67 k).getD 0 .non = .lst (hC.map encC) := rfl
  simp only [wr_fnC, ws_ret, wr_c1, wr_lc, wr_iseq, wr_var, h0, wo_items_l, szOk_of (show (hC.map encC).length ≤ 16777216 by decide), if_true]
  refine wr_lcGo (fun es acc m' => ∃ (l r : List ((Int × List Ln) × List (List Int))) (bs : List Bool), hC = l ++ r ∧ es = r.map encC ∧ acc = bs.map .bl ∧ (∀ b ∈ bs, b = true) ∧ Bx (1000 - 30 * l.length) k m') ?_ _ [] _ ⟨[], hC, [], rfl, rfl, rfl, by simp, by simpa using hB⟩ ?_
  · rintro e es acc m' ⟨l, r, bs, hd, hes, rfl, hb, hB1⟩
    cases r with
    | nil => cases hes
    | cons p r =>
      simp only [List.map_cons, List.cons.injEq] at hes
      obtain ⟨rfl, rfl⟩ := hes
      have hll : l.length + 1 ≤ 7 := by
        have := congrArg List.length hd
        rw [show hC.length = 7 from rfl] at this
        simp at this; omega
      have hp : p ∈ hC := by rw [hd]; simp
      obtain ⟨g, q1, q2, q3, q4, q5⟩ := hC_good p hp
      have a6 : ((env67 k).set 8 (encC p)).getD 6 .non = .box k := rfl
      have a8 : ((env67 k).set 8 (encC p)).getD 8 .non = encC p := rfl
      simp only [wo_gn, wr_ok, if_true, wr_call, wr_acons, wr_anil, wr_c2, wr_c, wr_var, a6, a8]
      rw [show encC p = .tup [.tup [.int p.1.1, .tup (p.1.2.map eP)], .tup (p.2.map eT)] from rfl]
      simp only [wo_ix_t, show ∀ (x y : D), atI [x, y] 0 = some x from fun _ _ => by simp [atI, ixN], show ∀ (x y : D), atI [x, y] 1 = some y from fun _ _ => by simp [atI, ixN], wo_some]
      refine (case_right_ok (t := 1000 - 30 * (l.length + 1)) (hB1.mono (by omega)) g q1 q2 q3 q4 q5).mono ?_
      rintro d m2 ⟨rfl, hB2, -⟩
      exact ⟨l ++ [p], r, bs ++ [true], by rw [hd]; simp, rfl, by simp, fun b hb' => by
        rcases List.mem_append.mp hb' with z | z
        · exact hb b z
        · simpa using z, hB2.mono (by simp)⟩
  · rintro ys m' ⟨l, r, bs, -, -, hys, hb, -⟩
    simp at hys
    subst hys
    show WO (allD m' (.lst (bs.map .bl))) _
    show WO (Option.map (fun bs => D.bl (bs.all id)) (blsOf (bs.map .bl))) _
    rw [blsOf_map, Option.map_some, wo_some]
    congr
    rw [List.all_eq_true]
    exact hb
theorem law_right_ok {b : Nat} {m : Mu} (h : Bx 30000 b m) : WR (m_law_right [.box b] m) fun d m' => d = .bl true := by
  unfold m_law_right
  simp only [wr_fnC, ws_seq, ws_for, wr_irg, wr_acons, wr_anil, wr_c, rg1_ok (z := 6) (by omega) (by omega), wo_some, rangeI_zero, List.replicate, List.cons_append, List.nil_append]
  refine ws_loopE (fun (i : Nat) => D.int i) (fun l Γ m' => ∃ (x y : D), Γ = [.box b, x, y] ∧ Bx (30000 - 2000 * l.length) b m') ?_ ?_ ⟨_, _, rfl, by simpa using h⟩
  · rintro l i r hl Γ m' ⟨x, y, rfl, hb⟩
    have hlen : l.length + 1 ≤ 6 := by
      have := congrArg List.length hl
      simp at this; omega
    simp only [wo_gn, List.set_cons_zero, List.set_cons_succ, ws_seq, ws_set, wr_call, wr_acons, wr_anil, wr_var, wr_c, wr_c2, List.getD_cons_zero, List.getD_cons_succ]
    refine (take_ok (t := 30000 - 2000 * l.length - 1) (k := 5) (hb.mono (by omega)) (by omega) (by omega)).mono ?_
    rintro d m1 ⟨q, rfl, hq0, hq1, hb1, hm1⟩
    simp only [wo_add]
    refine (fan_ok (t := 30000 - 2000 * l.length - 100) (many := 2 + q) (lines := 6) (hb1.mono (by omega)) (by omega) (by omega) (by omega) (by omega)).mono ?_
    rintro d m2 ⟨ls, rfl, g, hll, -, hb2, hm2⟩
    simp only [List.set_cons_zero, List.set_cons_succ, ws_if, wr_tnot, wr_tru, wr_call, wr_acons, wr_anil, wr_var, wr_c, List.getD_cons_zero, List.getD_cons_succ]
    refine (bands_ok (t := 30000 - 2000 * l.length - 100 - 1201) (n := 2 + q) (many := 4) (most := 2) (hb2.mono (by omega)) (by omega) (by omega) (by omega) (by omega) (by omega) (by omega)).mono ?_
    rintro d m3 ⟨bss, rfl, hne, hbl, hbr, hnd, hpw, hb3, hm3⟩
    have hbl : bss.length ≤ 4 := by simp at hbl; omega
    have hbz : ∀ r ∈ bss, (0 : Int) ∉ r ∧ r.length ≤ 1000 := fun r hr => ⟨(hbr r hr).1.zero, by have := (hbr r hr).2; simp at this; omega⟩
    refine (case_right_ok (t := 30000 - 2000 * (l.length + 1)) (hb3.mono (by omega)) g (by omega) (by omega) (by omega) hne hbz).mono ?_
    rintro d m4 ⟨rfl, hb4, -⟩
    simp only [wr_ok, wo_tru_b, Bool.not_true, Bool.false_eq_true, if_false, ws_nil]
    exact ⟨_, _, rfl, hb4.mono (by simp)⟩
  · rintro Γ m' ⟨x, y, rfl, hb⟩
    simp
theorem law_true (ns : List Int) (h : ns.length ≤ 63) : ∃ m, m_law [.scr ns] [] = .ok (.bl true) m := by
  have hW : WR (m_law [.scr ns] []) fun d _ => d = .bl true := by
    unfold m_law
    simp [wo_tru_b]
    refine (by_hand []).mono ?_
    rintro d m0 rfl
    simp [wo_tru_b]
    have hc := cells_ok (m := m0) (ns := ns) (p := 3) (by omega) (by omega)
    have e3 : ((3 : Nat) : Int) = 3 := rfl
    rw [e3] at hc
    obtain ⟨d, m1, ed, cs, rfl, h0, h1, rfl⟩ := hc.get
    rw [ed]
    simp [rg1_ok (show 0 ≤ (cs.length : Int) by omega) (by omega), rangeI_length]
    refine ⟨szOk_of (by omega), ?_⟩
    refine wr_lcGo (fun es acc m' => ∃ bs : List Bool, ∃ k : Nat, es = rangeI k (cs.length - k) ∧ k ≤ cs.length ∧ acc = bs.map .bl ∧ ∀ b ∈ bs, b = true) ?_ _ [] _ ⟨[], 0, by simp, by omega, rfl, by simp⟩ ?_
    · rintro e es acc m' ⟨bs, k, hd, hk, rfl, hb⟩
      have hk' : cs.length - k = (cs.length - (k + 1)) + 1 := by
        rcases Nat.lt_or_ge k cs.length with z | z
        · omega
        · rw [show cs.length - k = 0 by omega] at hd; cases hd
      rw [hk', rangeI] at hd
      cases hd
      simp
      refine (box_ok (cs := cs) (k := k) (by omega) (by omega)).mono ?_
      rintro d m2 ⟨a, b, rfl, ha, hb', rfl⟩
      refine (law_right_ok ⟨a, b, 0, by simp, ha, hb', by omega, by omega⟩).mono ?_
      rintro d m3 rfl
      refine ⟨bs ++ [true], k + 1, by simp, by omega, by simp, ?_⟩
      have q : ∀ b ∈ bs ++ [true], b = true := by
        intro b hb2
        rcases List.mem_append.mp hb2 with z | z
        · exact hb b z
        · simpa using z
      simpa using q
    · rintro ys m' ⟨bs, k, _, _, hys, hb⟩
      simp at hys
      subst hys
      show WO (allD m' (.lst (bs.map .bl))) _
      show WO (Option.map (fun bs => D.bl (bs.all id)) (blsOf (bs.map .bl))) _
      rw [blsOf_map, Option.map_some, wo_some]
      congr
      rw [List.all_eq_true]
      exact hb
  obtain ⟨d, m, e, rfl⟩ := hW.get
  exact ⟨m, e⟩
end Lw
end
section
set_option Elab.async false
set_option linter.all false
set_option maxRecDepth 100000
set_option maxHeartbeats 4000000
namespace Lw
open PySem L2 PySem.W Pv
theorem facts {P : Program} {w : World} {K : PySem.W.Frag} {h : Heap} {mg : Str → Option Value} {f : Addr} (X : K.In h) (G : h.Ns mainGlobals mg) (hfa : mg ("law" : Str) = some (.ref f)) (cX : SaysX fa fn ck K) :
    ∃ fd : FuncData, (∀ (s : Shared) (v : Value), BindsTo s fd ⟨[v], []⟩ [("_law_script", v)]) ∧ ∀ base : Heap, K.In base → base.Ns mainGlobals mg → FnOk P w K mg base CX0 26 f fd ["_law_script"] (spD K mg false 1 m_law) := by
  have c := cX.d
  have B : Bn mg := ⟨He.free_ok X G (c.fact 36 (f := .free "len") rfl), He.free_ok X G (c.fact 37 (f := .free "range") rfl), He.free_ok X G (c.fact 38 (f := .free "tuple") rfl), He.free_ok X G (c.fact 39 (f := .free "list") rfl), He.free_ok X G (c.fact 40 (f := .free "all") rfl), He.free_ok X G (c.fact 41 (f := .free "any") rfl), He.free_ok X G (c.fact 42 (f := .free "sum") rfl), He.free_ok X G (c.fact 43 (f := .free "int") rfl), He.free_ok X G (c.fact 44 (f := .free "abs") rfl), He.free_ok X G (c.fact 45 (f := .free "isinstance") rfl), He.free_ok X G (c.fact 46 (f := .free "sorted") rfl), He.free_ok X G (c.fact 47 (f := .free "set") rfl), He.free_ok X G (c.fact 48 (f := .free "zip") rfl), He.free_ok X G (c.fact 49 (f := .free "enumerate") rfl), He.free_ok X G (c.fact 50 (f := .free "bool") rfl), He.free_ok X G (c.fact 51 (f := .free "str") rfl), He.free_ok X G (c.fact 52 (f := .free "min") rfl), He.free_ok X G (c.fact 53 (f := .free "max") rfl), He.free_ok X G (c.fact 54 (f := .free "dict") rfl)⟩
  obtain ⟨fd_is_number, F_is_number⟩ : ∃ fd, FnP K "is_number" s_is_number (He.fAd K ("is_number", none)) fd := c.def_ 0 (d := d_is_number) rfl
  have g_is_number : mg "is_number" = some (.ref (He.fAd K ("is_number", none))) := He.glo_ok X G (c.fact 0 (f := .glo "is_number") rfl)
  obtain ⟨fd_tupled, F_tupled⟩ : ∃ fd, FnP K "tupled" s_tupled (He.fAd K ("tupled", none)) fd := c.def_ 1 (d := d_tupled) rfl
  have g_tupled : mg "tupled" = some (.ref (He.fAd K ("tupled", none))) := He.glo_ok X G (c.fact 1 (f := .glo "tupled") rfl)
  obtain ⟨fd_rises, F_rises⟩ : ∃ fd, FnP K "rises" s_rises (He.fAd K ("rises", none)) fd := c.def_ 2 (d := d_rises) rfl
  have g_rises : mg "rises" = some (.ref (He.fAd K ("rises", none))) := He.glo_ok X G (c.fact 2 (f := .glo "rises") rfl)
  obtain ⟨fd_behind_of, F_behind_of⟩ : ∃ fd, FnP K "behind_of" s_behind_of (He.fAd K ("behind_of", none)) fd := c.def_ 3 (d := d_behind_of) rfl
  have g_behind_of : mg "behind_of" = some (.ref (He.fAd K ("behind_of", none))) := He.glo_ok X G (c.fact 3 (f := .glo "behind_of") rfl)
  obtain ⟨fd_is_route, F_is_route⟩ : ∃ fd, FnP K "is_route" s_is_route (He.fAd K ("is_route", none)) fd := c.def_ 4 (d := d_is_route) rfl
  have g_is_route : mg "is_route" = some (.ref (He.fAd K ("is_route", none))) := He.glo_ok X G (c.fact 4 (f := .glo "is_route") rfl)
  obtain ⟨fd_is_past, F_is_past⟩ : ∃ fd, FnP K "is_past" s_is_past (He.fAd K ("is_past", none)) fd := c.def_ 5 (d := d_is_past) rfl
  have g_is_past : mg "is_past" = some (.ref (He.fAd K ("is_past", none))) := He.glo_ok X G (c.fact 5 (f := .glo "is_past") rfl)
  obtain ⟨fd_routes_past, F_routes_past⟩ : ∃ fd, FnP K "routes_past" s_routes_past (He.fAd K ("routes_past", none)) fd := c.def_ 6 (d := d_routes_past) rfl
  have g_routes_past : mg "routes_past" = some (.ref (He.fAd K ("routes_past", none))) := He.glo_ok X G (c.fact 6 (f := .glo "routes_past") rfl)
  obtain ⟨fd_routes, F_routes⟩ : ∃ fd, FnP K "routes" s_routes (He.fAd K ("routes", none)) fd := c.def_ 7 (d := d_routes) rfl
  have g_routes : mg "routes" = some (.ref (He.fAd K ("routes", none))) := He.glo_ok X G (c.fact 7 (f := .glo "routes") rfl)
  obtain ⟨fd_a_route_past, F_a_route_past⟩ : ∃ fd, FnP K "a_route_past" s_a_route_past (He.fAd K ("a_route_past", none)) fd := c.def_ 8 (d := d_a_route_past) rfl
  have g_a_route_past : mg "a_route_past" = some (.ref (He.fAd K ("a_route_past", none))) := He.glo_ok X G (c.fact 8 (f := .glo "a_route_past") rfl)
  obtain ⟨fd_meets, F_meets⟩ : ∃ fd, FnP K "meets" s_meets (He.fAd K ("meets", none)) fd := c.def_ 9 (d := d_meets) rfl
  have g_meets : mg "meets" = some (.ref (He.fAd K ("meets", none))) := He.glo_ok X G (c.fact 9 (f := .glo "meets") rfl)
  obtain ⟨fd_ear_band, F_ear_band⟩ : ∃ fd, FnP K "ear_band" s_ear_band (He.fAd K ("ear_band", none)) fd := c.def_ 10 (d := d_ear_band) rfl
  have g_ear_band : mg "ear_band" = some (.ref (He.fAd K ("ear_band", none))) := He.glo_ok X G (c.fact 10 (f := .glo "ear_band") rfl)
  obtain ⟨fd_unheard, F_unheard⟩ : ∃ fd, FnP K "unheard" s_unheard (He.fAd K ("unheard", none)) fd := c.def_ 11 (d := d_unheard) rfl
  have g_unheard : mg "unheard" = some (.ref (He.fAd K ("unheard", none))) := He.glo_ok X G (c.fact 11 (f := .glo "unheard") rfl)
  obtain ⟨fd_check_ears, F_check_ears⟩ : ∃ fd, FnP K "check_ears" s_check_ears (He.fAd K ("check_ears", none)) fd := c.def_ 12 (d := d_check_ears) rfl
  have g_check_ears : mg "check_ears" = some (.ref (He.fAd K ("check_ears", none))) := He.glo_ok X G (c.fact 12 (f := .glo "check_ears") rfl)
  obtain ⟨fd_share_routes, F_share_routes⟩ : ∃ fd, FnP K "share_routes" s_share_routes (He.fAd K ("share_routes", none)) fd := c.def_ 13 (d := d_share_routes) rfl
  have g_share_routes : mg "share_routes" = some (.ref (He.fAd K ("share_routes", none))) := He.glo_ok X G (c.fact 13 (f := .glo "share_routes") rfl)
  obtain ⟨fd_is_share_routes, F_is_share_routes⟩ : ∃ fd, FnP K "is_share_routes" s_is_share_routes (He.fAd K ("is_share_routes", none)) fd := c.def_ 14 (d := d_is_share_routes) rfl
  have g_is_share_routes : mg "is_share_routes" = some (.ref (He.fAd K ("is_share_routes", none))) := He.glo_ok X G (c.fact 14 (f := .glo "is_share_routes") rfl)
  obtain ⟨fd_heard_at, F_heard_at⟩ : ∃ fd, FnP K "heard_at" s_heard_at (He.fAd K ("heard_at", none)) fd := c.def_ 15 (d := d_heard_at) rfl
  have g_heard_at : mg "heard_at" = some (.ref (He.fAd K ("heard_at", none))) := He.glo_ok X G (c.fact 15 (f := .glo "heard_at") rfl)
  obtain ⟨fd_few_routes, F_few_routes⟩ : ∃ fd, FnP K "few_routes" s_few_routes (He.fAd K ("few_routes", none)) fd := c.def_ 16 (d := d_few_routes) rfl
  have g_few_routes : mg "few_routes" = some (.ref (He.fAd K ("few_routes", none))) := He.glo_ok X G (c.fact 16 (f := .glo "few_routes") rfl)
  obtain ⟨fd_how_few_routes, F_how_few_routes⟩ : ∃ fd, FnP K "how_few_routes" s_how_few_routes (He.fAd K ("how_few_routes", none)) fd := c.def_ 17 (d := d_how_few_routes) rfl
  have g_how_few_routes : mg "how_few_routes" = some (.ref (He.fAd K ("how_few_routes", none))) := He.glo_ok X G (c.fact 17 (f := .glo "how_few_routes") rfl)
  obtain ⟨fd_is_few_routes, F_is_few_routes⟩ : ∃ fd, FnP K "is_few_routes" s_is_few_routes (He.fAd K ("is_few_routes", none)) fd := c.def_ 18 (d := d_is_few_routes) rfl
  have g_is_few_routes : mg "is_few_routes" = some (.ref (He.fAd K ("is_few_routes", none))) := He.glo_ok X G (c.fact 18 (f := .glo "is_few_routes") rfl)
  obtain ⟨fd_told_number, F_told_number⟩ : ∃ fd, FnP K "told_number" s_told_number (He.fAd K ("told_number", none)) fd := c.def_ 19 (d := d_told_number) rfl
  have g_told_number : mg "told_number" = some (.ref (He.fAd K ("told_number", none))) := He.glo_ok X G (c.fact 19 (f := .glo "told_number") rfl)
  obtain ⟨fd_shares_of, F_shares_of⟩ : ∃ fd, FnP K "shares_of" s_shares_of (He.fAd K ("shares_of", none)) fd := c.def_ 20 (d := d_shares_of) rfl
  have g_shares_of : mg "shares_of" = some (.ref (He.fAd K ("shares_of", none))) := He.glo_ok X G (c.fact 20 (f := .glo "shares_of") rfl)
  obtain ⟨fd_how_many_shares, F_how_many_shares⟩ : ∃ fd, FnP K "how_many_shares" s_how_many_shares (He.fAd K ("how_many_shares", none)) fd := c.def_ 21 (d := d_how_many_shares) rfl
  have g_how_many_shares : mg "how_many_shares" = some (.ref (He.fAd K ("how_many_shares", none))) := He.glo_ok X G (c.fact 21 (f := .glo "how_many_shares") rfl)
  obtain ⟨fd_learned, F_learned⟩ : ∃ fd, FnP K "learned" s_learned (He.fAd K ("learned", none)) fd := c.def_ 22 (d := d_learned) rfl
  have g_learned : mg "learned" = some (.ref (He.fAd K ("learned", none))) := He.glo_ok X G (c.fact 22 (f := .glo "learned") rfl)
  obtain ⟨fd_law_box, F_law_box⟩ : ∃ fd, FnP K "_law_box" s_law_box (He.fAd K ("_law_box", none)) fd := c.def_ 23 (d := d_law_box) rfl
  have g_law_box : mg "_law_box" = some (.ref (He.fAd K ("_law_box", none))) := He.glo_ok X G (c.fact 23 (f := .glo "_law_box") rfl)
  obtain ⟨fd_law_take, F_law_take⟩ : ∃ fd, FnP K "_law_take" s_law_take (He.fAd K ("_law_take", none)) fd := c.def_ 24 (d := d_law_take) rfl
  have g_law_take : mg "_law_take" = some (.ref (He.fAd K ("_law_take", none))) := He.glo_ok X G (c.fact 24 (f := .glo "_law_take") rfl)
  obtain ⟨fd_law_cells, F_law_cells⟩ : ∃ fd, FnP K "_law_cells" s_law_cells (He.fAd K ("_law_cells", none)) fd := c.def_ 25 (d := d_law_cells) rfl
  have g_law_cells : mg "_law_cells" = some (.ref (He.fAd K ("_law_cells", none))) := He.glo_ok X G (c.fact 25 (f := .glo "_law_cells") rfl)
  obtain ⟨fd_law_same, F_law_same⟩ : ∃ fd, FnP K "_law_same" s_law_same (He.fAd K ("_law_same", none)) fd := c.def_ 26 (d := d_law_same) rfl
  have g_law_same : mg "_law_same" = some (.ref (He.fAd K ("_law_same", none))) := He.glo_ok X G (c.fact 26 (f := .glo "_law_same") rfl)
  obtain ⟨fd_law_mixed, F_law_mixed⟩ : ∃ fd, FnP K "_law_mixed" s_law_mixed (He.fAd K ("_law_mixed", none)) fd := c.def_ 27 (d := d_law_mixed) rfl
  have g_law_mixed : mg "_law_mixed" = some (.ref (He.fAd K ("_law_mixed", none))) := He.glo_ok X G (c.fact 27 (f := .glo "_law_mixed") rfl)
  obtain ⟨fd_law_band, F_law_band⟩ : ∃ fd, FnP K "_law_band" s_law_band (He.fAd K ("_law_band", none)) fd := c.def_ 28 (d := d_law_band) rfl
  have g_law_band : mg "_law_band" = some (.ref (He.fAd K ("_law_band", none))) := He.glo_ok X G (c.fact 28 (f := .glo "_law_band") rfl)
  obtain ⟨fd_law_bands, F_law_bands⟩ : ∃ fd, FnP K "_law_bands" s_law_bands (He.fAd K ("_law_bands", none)) fd := c.def_ 29 (d := d_law_bands) rfl
  have g_law_bands : mg "_law_bands" = some (.ref (He.fAd K ("_law_bands", none))) := He.glo_ok X G (c.fact 29 (f := .glo "_law_bands") rfl)
  obtain ⟨fd_law_fan, F_law_fan⟩ : ∃ fd, FnP K "_law_fan" s_law_fan (He.fAd K ("_law_fan", none)) fd := c.def_ 30 (d := d_law_fan) rfl
  have g_law_fan : mg "_law_fan" = some (.ref (He.fAd K ("_law_fan", none))) := He.glo_ok X G (c.fact 30 (f := .glo "_law_fan") rfl)
  obtain ⟨fd_law_nets_by_hand, F_law_nets_by_hand⟩ : ∃ fd, FnP K "_law_nets_by_hand" s_law_nets_by_hand (He.fAd K ("_law_nets_by_hand", none)) fd := c.def_ 31 (d := d_law_nets_by_hand) rfl
  have g_law_nets_by_hand : mg "_law_nets_by_hand" = some (.ref (He.fAd K ("_law_nets_by_hand", none))) := He.glo_ok X G (c.fact 31 (f := .glo "_law_nets_by_hand") rfl)
  obtain ⟨fd_law_case_right, F_law_case_right⟩ : ∃ fd, FnP K "_law_case_right" s_law_case_right (He.fAd K ("_law_case_right", none)) fd := c.def_ 32 (d := d_law_case_right) rfl
  have g_law_case_right : mg "_law_case_right" = some (.ref (He.fAd K ("_law_case_right", none))) := He.glo_ok X G (c.fact 32 (f := .glo "_law_case_right") rfl)
  obtain ⟨fd_law_by_hand_right, F_law_by_hand_right⟩ : ∃ fd, FnP K "_law_by_hand_right" s_law_by_hand_right (He.fAd K ("_law_by_hand_right", none)) fd := c.def_ 33 (d := d_law_by_hand_right) rfl
  have g_law_by_hand_right : mg "_law_by_hand_right" = some (.ref (He.fAd K ("_law_by_hand_right", none))) := He.glo_ok X G (c.fact 33 (f := .glo "_law_by_hand_right") rfl)
  obtain ⟨fd_law_right, F_law_right⟩ : ∃ fd, FnP K "_law_right" s_law_right (He.fAd K ("_law_right", none)) fd := c.def_ 34 (d := d_law_right) rfl
  have g_law_right : mg "_law_right" = some (.ref (He.fAd K ("_law_right", none))) := He.glo_ok X G (c.fact 34 (f := .glo "_law_right") rfl)
  obtain ⟨fd_law, F_law⟩ : ∃ fd, FnP K "law" s_law (He.fAd K ("law", none)) fd := c.def_ 35 (d := d_law) rfl
  have g_law : mg "law" = some (.ref (He.fAd K ("law", none))) := He.glo_ok X G (c.fact 35 (f := .glo "law") rfl)
  obtain ⟨t_PAIR, c_PAIR⟩ := He.int_ok X G (c.fact 55 (f := .int "PAIR" 2) rfl)
  have X_Unfit : XC0 K mg "Unfit" := ⟨He.glo_ok X G (c.fact 56 (f := .glo "Unfit") rfl), cX.ck 0 (f := fun K => xc0B K "Unfit") rfl⟩
  have e := hfa.symm.trans g_law
  cases e
  have bl := FunD.bindsA (ps := ["_law_script"]) F_law fun _ _ _ _ _ _ us hl => match us, hl with | [_], _ => rfl
  refine ⟨fd_law, fun s v => bl s [v] rfl, fun base _ _ => ?_⟩
  have C_is_number : Fn P w K mg base CX0 "is_number" 1 ["thing"] false m_is_number := fn_of' F_is_number g_is_number (fun _ _ _ _ _ _ us hl => match us, hl with | [_], _ => rfl) (fun _ => o_is_number B F_is_number)
  have C_tupled : Fn P w K mg base CX0 "tupled" 17 ["thing"] false (m_tupled 16) := fn_of' F_tupled g_tupled (fun _ _ _ _ _ _ us hl => match us, hl with | [_], _ => rfl) (fun hb => o_tupled B F_tupled g_tupled hb 16)
  have C_rises : Fn P w K mg base CX0 "rises" 1 ["things"] false m_rises := fn_of' F_rises g_rises (fun _ _ _ _ _ _ us hl => match us, hl with | [_], _ => rfl) (fun _ => o_rises B F_rises)
  have C_behind_of : Fn P w K mg base CX0 "behind_of" 1 ["net"] false m_behind_of := fn_of' F_behind_of g_behind_of (fun _ _ _ _ _ _ us hl => match us, hl with | [_], _ => rfl) (fun _ => o_behind_of B F_behind_of)
  have C_is_route : Fn P w K mg base CX0 "is_route" 18 ["net", "thing"] false m_is_route := fn_of' F_is_route g_is_route (fun _ _ _ _ _ _ us hl => match us, hl with | [_, _], _ => rfl) (fun _ => o_is_route B c_PAIR C_is_number C_tupled F_is_route)
  have C_is_past : Fn P w K mg base CX0 "is_past" 1 ["route", "houses"] false m_is_past := fn_of' F_is_past g_is_past (fun _ _ _ _ _ _ us hl => match us, hl with | [_, _], _ => rfl) (fun _ => o_is_past B F_is_past)
  have C_routes_past : Fn P w K mg base CX0 "routes_past" 2 ["net", "band"] true m_routes_past := fn_of' F_routes_past g_routes_past (fun _ _ _ _ _ _ us hl => match us, hl with | [_, _], _ => rfl) (fun _ => o_routes_past B C_behind_of F_routes_past)
  have C_routes : Fn P w K mg base CX0 "routes" 3 ["net"] true m_routes := fn_of' F_routes g_routes (fun _ _ _ _ _ _ us hl => match us, hl with | [_], _ => rfl) (fun _ => o_routes B C_routes_past F_routes)
  have C_a_route_past : Fn P w K mg base CX0 "a_route_past" 2 ["net", "band"] false m_a_route_past := fn_of' F_a_route_past g_a_route_past (fun _ _ _ _ _ _ us hl => match us, hl with | [_, _], _ => rfl) (fun _ => o_a_route_past B C_behind_of F_a_route_past)
  have C_meets : Fn P w K mg base CX0 "meets" 3 ["net", "band"] false m_meets := fn_of' F_meets g_meets (fun _ _ _ _ _ _ us hl => match us, hl with | [_, _], _ => rfl) (fun _ => o_meets B C_a_route_past F_meets)
  have C_ear_band : Fn P w K mg base CX0 "ear_band" 18 ["net", "bands"] false m_ear_band := fn_of' F_ear_band g_ear_band (fun _ _ _ _ _ _ us hl => match us, hl with | [_, _], _ => rfl) (fun _ => o_ear_band B C_tupled C_meets F_ear_band)
  have C_unheard : Fn P w K mg base CX0 "unheard" 19 ["net", "bands"] false m_unheard := fn_of' F_unheard g_unheard (fun _ _ _ _ _ _ us hl => match us, hl with | [_, _], _ => rfl) (fun _ => o_unheard B C_ear_band F_unheard)
  have C_check_ears : Fn P w K mg base (L2.CX P w) "check_ears" 20 ["net", "bands"] false m_check_ears := fn_of' F_check_ears g_check_ears (fun _ _ _ _ _ _ us hl => match us, hl with | [_, _], _ => rfl) (fun _ => o_check_ears B C_unheard X_Unfit F_check_ears)
  have C_share_routes : Fn P w K mg base (L2.CX P w) "share_routes" 21 ["net", "bands"] false m_share_routes := fn_of' F_share_routes g_share_routes (fun _ _ _ _ _ _ us hl => match us, hl with | [_, _], _ => rfl) (fun _ => o_share_routes B C_check_ears C_tupled C_a_route_past F_share_routes)
  have C_is_share_routes : Fn P w K mg base CX0 "is_share_routes" 19 ["net", "bands", "thing"] false m_is_share_routes := fn_of' F_is_share_routes g_is_share_routes (fun _ _ _ _ _ _ us hl => match us, hl with | [_, _, _], _ => rfl) (fun _ => o_is_share_routes B C_is_route C_is_past F_is_share_routes)
  have C_heard_at : Fn P w K mg base CX0 "heard_at" 2 ["paths", "band"] false m_heard_at := fn_of' F_heard_at g_heard_at (fun _ _ _ _ _ _ us hl => match us, hl with | [_, _], _ => rfl) (fun _ => o_heard_at B C_is_past F_heard_at)
  have C_few_routes : Fn P w K mg base (L2.CX P w) "few_routes" 21 ["net", "bands"] false m_few_routes := fn_of' F_few_routes g_few_routes (fun _ _ _ _ _ _ us hl => match us, hl with | [_, _], _ => rfl) (fun _ => o_few_routes B C_check_ears C_tupled C_routes C_is_past F_few_routes)
  have C_how_few_routes : Fn P w K mg base (L2.CX P w) "how_few_routes" 22 ["net", "bands"] false m_how_few_routes := fn_of' F_how_few_routes g_how_few_routes (fun _ _ _ _ _ _ us hl => match us, hl with | [_, _], _ => rfl) (fun _ => o_how_few_routes B C_few_routes F_how_few_routes)
  have C_is_few_routes : Fn P w K mg base (L2.CX P w) "is_few_routes" 23 ["net", "bands", "thing"] false m_is_few_routes := fn_of' F_is_few_routes g_is_few_routes (fun _ _ _ _ _ _ us hl => match us, hl with | [_, _, _], _ => rfl) (fun _ => o_is_few_routes B C_how_few_routes C_is_route C_rises C_is_past F_is_few_routes)
  have C_told_number : Fn P w K mg base CX0 "told_number" 1 ["shares", "modulus"] false m_told_number := fn_of' F_told_number g_told_number (fun _ _ _ _ _ _ us hl => match us, hl with | [_, _], _ => rfl) (fun _ => o_told_number B F_told_number)
  have C_shares_of : Fn P w K mg base CX0 "shares_of" 1 ["number", "dice", "modulus"] false m_shares_of := fn_of' F_shares_of g_shares_of (fun _ _ _ _ _ _ us hl => match us, hl with | [_, _, _], _ => rfl) (fun _ => o_shares_of B F_shares_of)
  have C_how_many_shares : Fn P w K mg base CX0 "how_many_shares" 2 ["modulus", "many", "heard", "number"] false m_how_many_shares := fn_of' F_how_many_shares g_how_many_shares (fun _ _ _ _ _ _ us hl => match us, hl with | [_, _, _, _], _ => rfl) (fun _ => o_how_many_shares B C_told_number F_how_many_shares)
  have C_learned : Fn P w K mg base CX0 "learned" 2 ["modulus", "many", "heard"] false m_learned := fn_of' F_learned g_learned (fun _ _ _ _ _ _ us hl => match us, hl with | [_, _, _], _ => rfl) (fun _ => o_learned B C_told_number F_learned)
  have C_law_box : Fn P w K mg base CX0 "_law_box" 1 ["_law_script", "_law_k"] true m_law_box := fn_of' F_law_box g_law_box (fun _ _ _ _ _ _ us hl => match us, hl with | [_, _], _ => rfl) (fun _ => o_law_box B F_law_box)
  have C_law_take : Fn P w K mg base CX0 "_law_take" 1 ["_law_box_here", "_law_below_so"] false m_law_take := fn_of' F_law_take g_law_take (fun _ _ _ _ _ _ us hl => match us, hl with | [_, _], _ => rfl) (fun _ => o_law_take B F_law_take)
  have C_law_cells : Fn P w K mg base CX0 "_law_cells" 1 ["_law_script", "_law_most_so"] true m_law_cells := fn_of' F_law_cells g_law_cells (fun _ _ _ _ _ _ us hl => match us, hl with | [_, _], _ => rfl) (fun _ => o_law_cells B F_law_cells)
  have C_law_same : Fn P w K mg base CX0 "_law_same" 17 ["_law_got", "_law_due_so"] false (m_law_same 16) := fn_of' F_law_same g_law_same (fun _ _ _ _ _ _ us hl => match us, hl with | [_, _], _ => rfl) (fun hb => o_law_same B F_law_same g_law_same hb 16)
  have C_law_mixed : Fn P w K mg base CX0 "_law_mixed" 2 ["_law_box_here", "_law_rows_so"] true m_law_mixed := fn_of' F_law_mixed g_law_mixed (fun _ _ _ _ _ _ us hl => match us, hl with | [_, _], _ => rfl) (fun _ => o_law_mixed B C_law_take F_law_mixed)
  have C_law_band : Fn P w K mg base CX0 "_law_band" 3 ["_law_box_here", "_law_net_so", "_law_most_so"] false m_law_band := fn_of' F_law_band g_law_band (fun _ _ _ _ _ _ us hl => match us, hl with | [_, _, _], _ => rfl) (fun _ => o_law_band B C_law_mixed C_law_take F_law_band)
  have C_law_bands : Fn P w K mg base CX0 "_law_bands" 4 ["_law_box_here", "_law_net_so", "_law_many_so", "_law_most_so"] false m_law_bands := fn_of' F_law_bands g_law_bands (fun _ _ _ _ _ _ us hl => match us, hl with | [_, _, _, _], _ => rfl) (fun _ => o_law_bands B C_law_take C_law_band F_law_bands)
  have C_law_fan : Fn P w K mg base CX0 "_law_fan" 2 ["_law_box_here", "_law_many_so", "_law_lines_so"] false m_law_fan := fn_of' F_law_fan g_law_fan (fun _ _ _ _ _ _ us hl => match us, hl with | [_, _, _], _ => rfl) (fun _ => o_law_fan B C_law_take F_law_fan)
  have C_law_nets_by_hand : Fn P w K mg base CX0 "_law_nets_by_hand" 1 [] true m_law_nets_by_hand := fn_of' F_law_nets_by_hand g_law_nets_by_hand (fun _ _ _ _ _ _ us hl => match us, hl with | [], _ => rfl) (fun _ => o_law_nets_by_hand B F_law_nets_by_hand)
  have C_law_case_right : Fn P w K mg base CX0 "_law_case_right" 24 ["_law_box_here", "_law_net_so", "_law_bands_so"] false m_law_case_right := fn_of' F_law_case_right g_law_case_right (fun _ _ _ _ _ _ us hl => match us, hl with | [_, _, _], _ => rfl) (fun _ => o_law_case_right B C_meets C_ear_band C_unheard C_law_same C_routes C_share_routes C_few_routes C_law_take C_is_share_routes C_is_few_routes C_how_few_routes C_shares_of C_told_number C_heard_at C_learned C_how_many_shares F_law_case_right)
  have C_law_by_hand_right : Fn P w K mg base CX0 "_law_by_hand_right" 25 [] false m_law_by_hand_right := fn_of' F_law_by_hand_right g_law_by_hand_right (fun _ _ _ _ _ _ us hl => match us, hl with | [], _ => rfl) (fun _ => o_law_by_hand_right B C_law_nets_by_hand C_law_case_right F_law_by_hand_right)
  have C_law_right : Fn P w K mg base CX0 "_law_right" 25 ["_law_box_here"] false m_law_right := fn_of' F_law_right g_law_right (fun _ _ _ _ _ _ us hl => match us, hl with | [_], _ => rfl) (fun _ => o_law_right B C_law_fan C_law_take C_law_case_right C_law_bands F_law_right)
  exact o_law B C_law_by_hand_right C_law_cells C_law_right C_law_box F_law
end Lw
open PySem PySem.W PySem.Calls PyProof.Rows
set_option maxHeartbeats 0 in
theorem PySem.Challenge.cw_surelyposted_k67_whole_nobody_hears_holds : PySem.Challenge.rw_surelyposted_k67_whole_nobody_hears.Holds := by
  w_on; o_law
  refine HandSHeadRun.head_any (r := OpenLaw.row PySem.Challenge.rw_surelyposted_k67_whole_nobody_hears) (q := view (OpenLaw.row PySem.Challenge.rw_surelyposted_k67_whole_nobody_hears).prog [43]) (H := Lw.hk) (ob := Lw.ob) (M := 2160) (loose := Lw.loose) (d := HandSHeadRun.topDef (OpenLaw.row PySem.Challenge.rw_surelyposted_k67_whole_nobody_hears).prog 43) (kwd := []) Lw.ob_eq
    (by kernel_rfl) (fun s => by kernel_rfl) Lw.run (by kernel_rfl) (by kernel_rfl) (by kernel_rfl) (by rfl) (by first | assumption | decide +kernel) (by decide +kernel) ⟨rfl, rfl, rfl, rfl, rfl, by decide +kernel⟩ ?hw ?hc
  case hw => w_witness2
  case hc =>
    refine L2.walk_ofE (l := PySem.Challenge.rw_surelyposted_k67_whole_nobody_hears) (n := 63) (k := 26) (x := "_law_script") (CX := L2.CX0) rfl (by decide) (by kernel_rfl) ⟨rfl, by decide, by decide⟩ ?F (fun _ _ _ _ z => z)
    intro w mg fa h Y G hmg0
    obtain ⟨K, KX, c⟩ := Y
    have hmg : mg ("law" : PySem.Str) = some (.ref fa) := by
      have e : (HandSHeadRun.topDef (OpenLaw.row PySem.Challenge.rw_surelyposted_k67_whole_nobody_hears).prog 43).name = ("law" : PySem.Str) := by kernel_rfl
      rw [← e]
      exact hmg0
    obtain ⟨fd, hb, hF⟩ := Lw.facts (P := (PySem.Challenge.rw_surelyposted_k67_whole_nobody_hears).prog) (w := w) KX G hmg c 
    exact ⟨K, fd, Pv.spD K mg false 1 Lw.m_law, KX, hb, fun H a ns hl _ hS => Pv.law_end hS (Lw.law_true ns hl), hF⟩
end
