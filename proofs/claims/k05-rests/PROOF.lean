import PyProof.Rows.All
import Wide.All
import OpenK.AllK
import Wide.FinOn
import HandS.ForMost
import HandS.ForExc
import HandS.CallSlots
import HandS.Lambda
import HandS.Wide
import HandS.Flow
import HandS.TupAny
import HandS.Style
import HandS.IsInst
import HandS.Zip
import HandS.TryOnly
import HandS.SortInts
import HandS.Text
import HandS.SetFor
import HandS.Defaults
import HandS.Codes
import KE.KExcSuper
import HandS.ExcInit
import HandS.ExcField
import KE.KDflt
import PyProof.SumAny
import PyProof.Walks
import PyProof.ReprRoads
import HandS.EndOwn
import KE.KExcIs
import HandS.Star
import HandS.StrMore
import HandS.RaiseMore
import PyProof.StrLawsIn
import HandS.IntHex
import PyProof.Rows.StrIntSpec
import KE.KxField
import PyProof.ListStr
import HandS.Conv
import KE.BitLaws
import PySem.Challenge.RW_everrang_k05_rests_and_changes
section
set_option Elab.async false
set_option linter.all false
set_option maxRecDepth 100000
/-! VS: what Python code does, told over trees of data and a small store -/
namespace VS
open PySem PySem.Spec PyProof.Rows L2

/-- the built-in types that are named in the text -/
inductive BT where
  | non
  | bl
  | int
  | str
  | lst
  | tup
  | dic
  | flt
  | byt
  | set
  deriving DecidableEq, Inhabited
def BT.nm : BT → String
  | .non => "NoneType"
  | .bl => "bool"
  | .int => "int"
  | .str => "str"
  | .lst => "list"
  | .tup => "tuple"
  | .dic => "dict"
  | .flt => "float"
  | .byt => "bytes"
  | .set => "set"
/-- data as trees; `cel k`: the k-th cell of the store -/
inductive D where
  | non
  | bl (b : Bool)
  | int (i : Int)
  | str (x : Str)
  | lst (xs : List D)
  | tup (xs : List D)
  | cel (k : Nat)
  | ins (c : Nat) (fs : List (Str × D))
  | exc (c : Nat) (fs : List (Str × D))
  | dic (kvs : List (Key × D))
  /-- a list that is known to the object, or stands in the written part: it is only read -/
  | scr (xs : List D)
  /-- a class: a built-in one, one of the text's own -/
  | ty (n : BT)
  | cls (c : Nat)
  /-- a lambda at f, its code object at c, what its maker's names stood for -/
  | clo (f c : Addr) (q : Str) (σ : List (Option V)) (ρ : List (Option D))
  deriving Inhabited

inductive Cell where
  | dead
  | lst (xs : List D)
  | obj (c : Nat) (fs : List (Str × D))
  | dic (kvs : List (Key × D))
  deriving Inhabited

abbrev Store := List Cell
def Cell.live : Cell → Bool
  | .dead => false
  | _ => true

/-- an error: its class, its fields -/
structure Ex where
  c : Nat
  fs : List (Str × D)

inductive R (α : Type) where
  | ok (a : α) (S : Store)
  | exc (x : Ex) (S : Store)
  | bad

/-- what stands beside the abstract heap: the part that never changes, where the cells lie, the store -/
structure G where
  F : Hp
  α : List Addr
  S : Store

/-- the text's own classes by name -/
structure CM where
  cls : Nat → Option Addr
  T : List (Addr × Str)
instance : CoeFun CM fun _ => Nat → Option Addr := ⟨CM.cls⟩

/-- an error's object, held as a value -/
def exO (a C d : Addr) : HO := .ext fun h => ∃ (oe : Obj) (vs : Array Value), h.get? a = some oe ∧ Zc (.ref C) (some d) oe ∧ oe.data = .fields vs

section
variable (K : PySem.W.Frag) (cm : CM)
mutual
inductive Den (g : G) : V → D → Prop
  | non : Den g .non .non
  | bl (b : Bool) : Den g (.bl b) (.bl b)
  | int (i : Int) : Den g (.int i) (.int i)
  | str (x : Str) : Den g (.str x) (.str x)
  | ty (n : BT) : Den g (.ty n.nm) (.ty n)
  | cls {c : Nat} {C : Addr} : cm c = some C → Den g (.ref C) (.cls c)
  | lst {a : Addr} {vs : List V} {ds : List D} : g.F a = some (.lst vs) → DenL g vs ds → Den g (.ref a) (.lst ds)
  | scr {a : Addr} {vs : List V} {ds : List D} : SqL K g.F a vs → DenL g vs ds → Den g (.ref a) (.scr ds)
  | tup {a : Addr} {vs : List V} {ds : List D} : SqT K g.F a vs → DenL g vs ds → Den g (.ref a) (.tup ds)
  | cel {a : Addr} {k : Nat} : g.α[k]? = some a → Den g (.ref a) (.cel k)
  | ins {a C dx : Addr} {c : Nat} {vs : List (Str × V)} {fs : List (Str × D)} : g.F a = some (.ins C dx vs) → cm c = some C → DenF g vs fs → Den g (.ref a) (.ins c fs)
  | exc {a C d : Addr} {c : Nat} {vs : List (Str × V)} {fs : List (Str × D)} : g.F a = some (exO a C d) → g.F d = some (.xd vs) → cm c = some C → DenF g vs fs → Den g (.ref a) (.exc c fs)
  | dic {a : Addr} {kvs : List (Key × V)} {es : List (Key × D)} : g.F a = some (.dK kvs) → DenK g kvs es → Den g (.ref a) (.dic es)
  | clo {f c : Addr} {q : Str} {σ : List (Option V)} {ρ : List (Option D)} : g.F c = some (LamX.CodeO c q) → DenO g σ ρ → Den g (.ref f) (.clo f c q σ ρ)
inductive DenO (g : G) : List (Option V) → List (Option D) → Prop
  | nil : DenO g [] []
  | non {v : Option V} {vs : List (Option V)} {ds : List (Option D)} : DenO g vs ds → DenO g (v :: vs) (none :: ds)
  | som {v : V} {d : D} {vs : List (Option V)} {ds : List (Option D)} : Den g v d → DenO g vs ds → DenO g (some v :: vs) (some d :: ds)
inductive DenL (g : G) : List V → List D → Prop
  | nil : DenL g [] []
  | cons {v : V} {vs : List V} {d : D} {ds : List D} : Den g v d → DenL g vs ds → DenL g (v :: vs) (d :: ds)
inductive DenF (g : G) : List (Str × V) → List (Str × D) → Prop
  | nil : DenF g [] []
  | cons {f : Str} {v : V} {vs : List (Str × V)} {d : D} {ds : List (Str × D)} : Den g v d → DenF g vs ds → DenF g ((f, v) :: vs) ((f, d) :: ds)
inductive DenK (g : G) : List (Key × V) → List (Key × D) → Prop
  | nil : DenK g [] []
  | cons {f : Key} {v : V} {vs : List (Key × V)} {d : D} {ds : List (Key × D)} : Den g v d → DenK g vs ds → DenK g ((f, v) :: vs) ((f, d) :: ds)
end

def CellOk (g : G) (H : Hp) (a : Addr) : Cell → Prop
  | .dead => True
  | .lst ds => ∃ vs, H a = some (.lst vs) ∧ DenL K cm g vs ds
  | .obj c fs => ∃ C dx vs, cm c = some C ∧ H a = some (.ins C dx vs) ∧ DenF K cm g vs fs
  | .dic es => ∃ kvs, H a = some (.dK kvs) ∧ DenK K cm g kvs es

structure Rel (g : G) (H : Hp) : Prop where
  len : g.α.length = g.S.length
  sub : ∀ a o, g.F a = some o → H a = some o
  cells : ∀ (k : Nat) (a : Addr) (c : Cell), g.α[k]? = some a → g.S[k]? = some c → c.live = true → g.F a = none ∧ CellOk K cm g H a c
  inj : ∀ (j k : Nat) (a : Addr) (c d : Cell), g.α[j]? = some a → g.α[k]? = some a → g.S[j]? = some c → g.S[k]? = some d → c.live = true → d.live = true → j = k
  tabs : LamX.Tabs cm.T H
  nt : ∀ a ps, g.F a ≠ some (.tbl ps)
end

/-- a is a live cell's -/
def Live (g : G) (a : Addr) : Prop := ∃ (k : Nat) (c : Cell), g.α[k]? = some a ∧ g.S[k]? = some c ∧ c.live = true

/-- a later world -/
structure Ext (g : G) (H : Hp) (g' : G) (H' : Hp) : Prop where
  fz : ∀ a o, g.F a = some o → g'.F a = some o
  al : ∀ (k : Nat) (a : Addr), g.α[k]? = some a → g'.α[k]? = some a
  keep : ∀ a o, H a = some o → ¬ Live g a → (∀ ps, o ≠ .tbl ps) → H' a = some o
  newF : ∀ a o, g'.F a = some o → g.F a = some o ∨ H a = none ∨ Live g a ∨ ∃ q, H a = some (LamX.CodeO a q)
  newL : ∀ a, Live g' a → Live g a ∨ H a = none
  nn : ∀ a, H' a = none → H a = none
  tb : ∀ a ps, H a = some (.tbl ps) → ∃ ps', H' a = some (.tbl ps')

theorem Ext.refl (g : G) (H : Hp) : Ext g H g H := ⟨fun _ _ h => h, fun _ _ h => h, fun _ _ h _ _ => h, fun _ _ h => .inl h, fun _ h => .inl h, fun _ h => h, fun _ ps h => ⟨ps, h⟩⟩
theorem Ext.trans {g g1 g2 : G} {H H1 H2 : Hp} (a : Ext g H g1 H1) (b : Ext g1 H1 g2 H2) : Ext g H g2 H2 where
  fz := fun x o h => b.fz x o (a.fz x o h)
  al := fun k x h => b.al k x (a.al k x h)
  keep := fun x o h hl ht => b.keep x o (a.keep x o h hl ht) (fun l1 => by
    rcases a.newL x l1 with z | z
    · exact hl z
    · rw [z] at h
      cases h) ht
  newF := fun x o h => by
    rcases b.newF x o h with z | z | z | ⟨q, z⟩
    · exact a.newF x o z
    · exact .inr (.inl (a.nn x z))
    · rcases a.newL x z with z | z
      · exact .inr (.inr (.inl z))
      · exact .inr (.inl z)
    · by_cases l : Live g x
      · exact .inr (.inr (.inl l))
      · cases hx : H x with
        | none => exact .inr (.inl rfl)
        | some u =>
          by_cases ht : ∃ ps, u = .tbl ps
          · obtain ⟨ps, rfl⟩ := ht
            obtain ⟨ps', y⟩ := a.tb x ps hx
            rw [y] at z
            exact absurd (Option.some.inj z).symm (LamX.codeO_ne ps')
          · have y := a.keep x u hx l fun ps e => ht ⟨ps, e⟩
            rw [z] at y
            cases y
            exact .inr (.inr (.inr ⟨q, rfl⟩))
  newL := fun x h => by
    rcases b.newL x h with z | z
    · exact a.newL x z
    · exact .inr (a.nn x z)
  nn := fun x h => a.nn x (b.nn x h)
  tb := fun x ps h => let ⟨ps', h'⟩ := a.tb x ps h; b.tb x ps' h'

theorem SqL.sub {K : PySem.W.Frag} {F F' : Hp} {a : Addr} {vs : List V} (h : ∀ b o, F b = some o → F' b = some o) (s : SqL K F a vs) : SqL K F' a vs := by
  rcases s with (s | ⟨o, s⟩) | s
  · exact .inl (.inl (h _ _ s))
  · exact .inl (.inr ⟨o, h _ _ s⟩)
  · exact .inr s
theorem SqT.sub {K : PySem.W.Frag} {F F' : Hp} {a : Addr} {vs : List V} (h : ∀ b o, F b = some o → F' b = some o) (s : SqT K F a vs) : SqT K F' a vs := by
  rcases s with (s | ⟨o, s⟩) | s
  · exact .inl (.inl (h _ _ s))
  · exact .inl (.inr ⟨o, h _ _ s⟩)
  · exact .inr s

section
variable {K : PySem.W.Frag} {cm : CM} {g g' : G}
mutual
theorem Den.mono (hF : ∀ a o, g.F a = some o → g'.F a = some o) (hα : ∀ (k : Nat) (a : Addr), g.α[k]? = some a → g'.α[k]? = some a) : ∀ {v : V} {d : D}, Den K cm g v d → Den K cm g' v d
  | _, _, .non => .non
  | _, _, .bl b => .bl b
  | _, _, .int i => .int i
  | _, _, .str x => .str x
  | _, _, .ty n => .ty n
  | _, _, .cls h => .cls h
  | _, _, .lst s l => .lst (hF _ _ s) (DenL.mono hF hα l)
  | _, _, .scr s l => .scr (SqL.sub hF s) (DenL.mono hF hα l)
  | _, _, .tup s l => .tup (SqT.sub hF s) (DenL.mono hF hα l)
  | _, _, .cel h => .cel (hα _ _ h)
  | _, _, .ins h c l => .ins (hF _ _ h) c (DenF.mono hF hα l)
  | _, _, .exc h h2 c l => .exc (hF _ _ h) (hF _ _ h2) c (DenF.mono hF hα l)
  | _, _, .dic h l => .dic (hF _ _ h) (DenK.mono hF hα l)
  | _, _, .clo h l => .clo (hF _ _ h) (DenO.mono hF hα l)
theorem DenO.mono (hF : ∀ a o, g.F a = some o → g'.F a = some o) (hα : ∀ (k : Nat) (a : Addr), g.α[k]? = some a → g'.α[k]? = some a) : ∀ {v : List (Option V)} {d : List (Option D)}, DenO K cm g v d → DenO K cm g' v d
  | _, _, .nil => .nil
  | _, _, .non t => .non (DenO.mono hF hα t)
  | _, _, .som h t => .som (Den.mono hF hα h) (DenO.mono hF hα t)
theorem DenL.mono (hF : ∀ a o, g.F a = some o → g'.F a = some o) (hα : ∀ (k : Nat) (a : Addr), g.α[k]? = some a → g'.α[k]? = some a) : ∀ {v : List V} {d : List D}, DenL K cm g v d → DenL K cm g' v d
  | _, _, .nil => .nil
  | _, _, .cons h t => .cons (Den.mono hF hα h) (DenL.mono hF hα t)
theorem DenF.mono (hF : ∀ a o, g.F a = some o → g'.F a = some o) (hα : ∀ (k : Nat) (a : Addr), g.α[k]? = some a → g'.α[k]? = some a) : ∀ {v : List (Str × V)} {d : List (Str × D)}, DenF K cm g v d → DenF K cm g' v d
  | _, _, .nil => .nil
  | _, _, .cons h t => .cons (Den.mono hF hα h) (DenF.mono hF hα t)
theorem DenK.mono (hF : ∀ a o, g.F a = some o → g'.F a = some o) (hα : ∀ (k : Nat) (a : Addr), g.α[k]? = some a → g'.α[k]? = some a) : ∀ {v : List (Key × V)} {d : List (Key × D)}, DenK K cm g v d → DenK K cm g' v d
  | _, _, .nil => .nil
  | _, _, .cons h t => .cons (Den.mono hF hα h) (DenK.mono hF hα t)
end
theorem Ext.den {H H' : Hp} {v : V} {d : D} (e : Ext g H g' H') (h : Den K cm g v d) : Den K cm g' v d := h.mono e.fz e.al
theorem Ext.denL {H H' : Hp} {v : List V} {d : List D} (e : Ext g H g' H') (h : DenL K cm g v d) : DenL K cm g' v d := h.mono e.fz e.al
theorem Ext.denF {H H' : Hp} {v : List (Str × V)} {d : List (Str × D)} (e : Ext g H g' H') (h : DenF K cm g v d) : DenF K cm g' v d := h.mono e.fz e.al
theorem DenL.length : ∀ {vs : List V} {ds : List D}, DenL K cm g vs ds → vs.length = ds.length
  | _, _, .nil => rfl
  | _, _, .cons _ t => congrArg Nat.succ t.length
theorem DenL.append : ∀ {vs ws : List V} {ds es : List D}, DenL K cm g vs ds → DenL K cm g ws es → DenL K cm g (vs ++ ws) (ds ++ es)
  | _, _, _, _, .nil, h => h
  | _, _, _, _, .cons h t, q => .cons h (t.append q)
theorem DenL.get : ∀ {vs : List V} {ds : List D} {i : Nat} {d : D}, DenL K cm g vs ds → ds[i]? = some d → ∃ v, vs[i]? = some v ∧ Den K cm g v d
  | _, _, _, _, .nil, e => by simp at e
  | _, _, 0, _, .cons h _, e => by
    simp at e
    subst e
    exact ⟨_, rfl, h⟩
  | _, _, i + 1, d, .cons _ t, e => by
    obtain ⟨v, h1, h2⟩ := DenL.get (i := i) (d := d) t (by simpa using e)
    exact ⟨v, by simpa using h1, h2⟩
theorem DenL.getV : ∀ {vs : List V} {ds : List D} {i : Nat} {v : V}, DenL K cm g vs ds → vs[i]? = some v → ∃ d, ds[i]? = some d ∧ Den K cm g v d
  | _, _, _, _, .nil, e => by simp at e
  | _, _, 0, _, .cons h _, e => by
    simp at e
    subst e
    exact ⟨_, rfl, h⟩
  | _, _, i + 1, d, .cons _ t, e => by
    obtain ⟨v, h1, h2⟩ := DenL.getV (i := i) (v := d) t (by simpa using e)
    exact ⟨v, by simpa using h1, h2⟩
theorem DenL.set {v : V} {d : D} (h : Den K cm g v d) : ∀ {vs : List V} {ds : List D} (i : Nat), DenL K cm g vs ds → DenL K cm g (vs.set i v) (ds.set i d)
  | _, _, _, .nil => .nil
  | _, _, 0, .cons _ t => .cons h t
  | _, _, i + 1, .cons q t => .cons q (DenL.set h i t)
theorem DenL.take : ∀ {vs : List V} {ds : List D} (n : Nat), DenL K cm g vs ds → DenL K cm g (vs.take n) (ds.take n)
  | _, _, 0, _ => by simp only [List.take_zero]; exact .nil
  | _, _, n + 1, .nil => .nil
  | _, _, n + 1, .cons h t => .cons h (DenL.take n t)
theorem DenL.drop : ∀ {vs : List V} {ds : List D} (n : Nat), DenL K cm g vs ds → DenL K cm g (vs.drop n) (ds.drop n)
  | _, _, 0, h => h
  | _, _, n + 1, .nil => .nil
  | _, _, n + 1, .cons h t => DenL.drop n t
theorem DenL.reverse {vs : List V} {ds : List D} (h : DenL K cm g vs ds) : DenL K cm g vs.reverse ds.reverse := by
  induction vs generalizing ds with
  | nil => cases h; exact .nil
  | cons v vs ih =>
    cases h with
    | cons h t =>
      rw [List.reverse_cons, List.reverse_cons]
      exact (ih t).append (.cons h .nil)
theorem DenL.eraseIdx : ∀ {vs : List V} {ds : List D} (i : Nat), DenL K cm g vs ds → DenL K cm g (vs.eraseIdx i) (ds.eraseIdx i)
  | _, _, _, .nil => .nil
  | _, _, 0, .cons _ t => t
  | _, _, i + 1, .cons q t => .cons q (DenL.eraseIdx i t)
theorem DenL.flat : ∀ {vs : List V} {ds : List D} (n : Nat), DenL K cm g vs ds → DenL K cm g (List.replicate n vs).flatten (List.replicate n ds).flatten
  | _, _, 0, _ => .nil
  | _, _, n + 1, h => by
    rw [List.replicate_succ, List.replicate_succ, List.flatten_cons, List.flatten_cons]
    exact h.append (DenL.flat n h)
theorem DenF.look {f : Str} {d : D} : ∀ {vs : List (Str × V)} {ds : List (Str × D)}, DenF K cm g vs ds → ds.lookup f = some d → ∃ v, vs.lookup f = some v ∧ Den K cm g v d
  | _, _, .nil, e => by simp at e
  | _, _, .cons (f := x) h t, e => by
    by_cases q : (f == x) = true
    · rw [List.lookup_cons, q] at e
      simp at e
      subst e
      exact ⟨_, by rw [List.lookup_cons, q], h⟩
    · have q' : (f == x) = false := by simpa using q
      rw [List.lookup_cons, q'] at e
      obtain ⟨v, h1, h2⟩ := DenF.look t e
      exact ⟨v, by rw [List.lookup_cons, q']; exact h1, h2⟩
theorem DenF.lookN {f : Str} : ∀ {vs : List (Str × V)} {ds : List (Str × D)}, DenF K cm g vs ds → ds.lookup f = none → vs.lookup f = none
  | _, _, .nil, e => rfl
  | _, _, .cons (f := x) h t, e => by
    by_cases q : (f == x) = true
    · rw [List.lookup_cons, q] at e
      simp at e
    · have q' : (f == x) = false := by simpa using q
      rw [List.lookup_cons, q'] at e
      rw [List.lookup_cons, q']
      exact DenF.lookN t e
end

/-! ### the names' values -/
abbrev Env := List (Option D)
structure DenE (K : PySem.W.Frag) (cm : CM) (g : G) (ρ : Env) (σ : L2.St) : Prop where
  len : ρ.length = σ.length
  at_ : ∀ (i : Nat) (d : D), ρ[i]? = some (some d) → ∃ v, σ[i]? = some (some v) ∧ Den K cm g v d
section
variable {K : PySem.W.Frag} {cm : CM} {g g' : G} {ρ : Env} {σ : L2.St}
theorem Ext.denE {H H' : Hp} (e : Ext g H g' H') (h : DenE K cm g ρ σ) : DenE K cm g' ρ σ := ⟨h.len, fun i d q => let ⟨v, a, b⟩ := h.at_ i d q; ⟨v, a, e.den b⟩⟩
theorem DenE.set {v : V} {d : D} (h : DenE K cm g ρ σ) (i : Nat) (q : Den K cm g v d) : DenE K cm g (ρ.set i (some d)) (σ.set i (some v)) := by
  refine ⟨by simp [h.len], fun j e hj => ?_⟩
  by_cases c : j = i
  · subst c
    have hl : j < ρ.length := by
      have := (List.getElem?_eq_some_iff.mp hj).1
      simpa using this
    rw [List.getElem?_set_self hl] at hj
    cases hj
    exact ⟨v, by rw [List.getElem?_set_self (by rw [← h.len]; exact hl)], q⟩
  · rw [List.getElem?_set_ne (Ne.symm c)] at hj ⊢
    exact h.at_ j e hj
theorem DenE.unset (h : DenE K cm g ρ σ) (i : Nat) (o : Option V) : DenE K cm g (ρ.set i none) (σ.set i o) := by
  refine ⟨by simp [h.len], fun j e hj => ?_⟩
  by_cases c : j = i
  · subst c
    have hl : j < ρ.length := by
      have := (List.getElem?_eq_some_iff.mp hj).1
      simpa using this
    rw [List.getElem?_set_self hl] at hj
    cases hj
  · rw [List.getElem?_set_ne (Ne.symm c)] at hj ⊢
    exact h.at_ j e hj
end

/-! ### what a piece of code gives -/
section
variable (K : PySem.W.Frag) (cm : CM)
/-- an error at the heap: its class's address, its own dict -/
def ExcAt (H₀ : Hp) (g : G) (x : Ex) (cls : Value) (dd : Option Addr) (H : Hp) : Prop :=
  ∃ (C d : Addr) (vs : List (Str × V)), cls = .ref C ∧ cm x.c = some C ∧ dd = some d ∧ H₀ d = none ∧ H d = some (.xd vs) ∧ g.F d = none ∧ ¬ Live g d ∧ DenF K cm g vs x.fs
/-- a result r of the world (g, H): ok: what Q wants holds of every later world that bears it; exc: what W wants -/
def RP {β γ : Type} (den : G → γ → β → Prop) (W : Value → Option Addr → Hp → Prop) (g : G) (H : Hp) (r : R β) (Q : γ → Hp → Prop) : Prop :=
  match r with
  | .ok d S' => ∀ g' H' v, Ext g H g' H' → Rel K cm g' H' → g'.S = S' → den g' v d → Q v H'
  | .exc x S' => ∀ g' H' cls dd, Ext g H g' H' → Rel K cm g' H' → g'.S = S' → ExcAt K cm H g' x cls dd H' → W cls dd H'
  | .bad => False
end
def R.bind {α β : Type} (r : R α) (f : α → Store → R β) : R β :=
  match r with
  | .ok a S => f a S
  | .exc x S => .exc x S
  | .bad => .bad
theorem RP.step {K : PySem.W.Frag} {cm : CM} {β γ β' γ' : Type} {den : G → γ → β → Prop} {den' : G → γ' → β' → Prop} {W : Value → Option Addr → Hp → Prop} {g : G} {H : Hp} {r : R β} {f : β → Store → R β'} {Q : γ' → Hp → Prop} (h : RP K cm den' W g H (r.bind f) Q) :
    RP K cm den W g H r fun v H1 => ∃ d g1, Ext g H g1 H1 ∧ Rel K cm g1 H1 ∧ den g1 v d ∧ RP K cm den' W g1 H1 (f d g1.S) Q := by
  cases r with
  | ok d S =>
    intro g1 H1 v e rl es q
    refine ⟨d, g1, e, rl, q, ?_⟩
    rw [es]
    have h' : RP K cm den' W g H (f d S) Q := h
    revert h'
    cases hr : f d S with
    | ok d2 S2 => exact fun h' g2 H2 v2 e2 => h' g2 H2 v2 (e.trans e2)
    | exc x S2 =>
      exact fun h' g2 H2 cls dd e2 rl2 es2 ⟨C, d, vs, a1, a2, a3, a4, a5⟩ => h' g2 H2 cls dd (e.trans e2) rl2 es2 ⟨C, d, vs, a1, a2, a3, e.nn d a4, a5⟩
    | bad => exact fun h' => h'
  | exc x S => exact h
  | bad => exact h
theorem RP.mono {K : PySem.W.Frag} {cm : CM} {β γ : Type} {den : G → γ → β → Prop} {W : Value → Option Addr → Hp → Prop} {g : G} {H : Hp} {r : R β} {Q Q' : γ → Hp → Prop} (h : RP K cm den W g H r Q) (q : ∀ v H', Q v H' → Q' v H') : RP K cm den W g H r Q' := by
  cases r with
  | ok d S => exact fun g' H' v e rl es dn => q _ _ (h g' H' v e rl es dn)
  | exc x S => exact h
  | bad => exact h
end VS
end
section
set_option Elab.async false
set_option linter.all false
set_option maxRecDepth 100000
/-! VS: expressions -/
namespace VS
open PySem PySem.Spec PyProof.Rows L2

abbrev SE := Env → Store → R D
abbrev SA := Env → Store → R (List D)
abbrev ST := Env → Store → R Bool
abbrev SF := Env → Store → R (List D)

def eqB (_ : G) (b b' : Bool) : Prop := b = b'
def eqI (_ : G) (o o' : Option Int) : Prop := o = o'

section
variable (K : PySem.W.Frag) (cm : CM) (W : WX)
def tE (f : SE) : TE := fun σ H Q => ∃ g ρ, Rel K cm g H ∧ DenE K cm g ρ σ ∧ RP K cm (Den K cm) (fun c d H' => W c d σ H') g H (f ρ g.S) Q
def tL (f : SA) : TA := fun σ H Q => ∃ g ρ, Rel K cm g H ∧ DenE K cm g ρ σ ∧ RP K cm (DenL K cm) (fun c d H' => W c d σ H') g H (f ρ g.S) Q
def tT (f : ST) : TT := fun σ H Q => ∃ g ρ, Rel K cm g H ∧ DenE K cm g ρ σ ∧ RP K cm eqB (fun c d H' => W c d σ H') g H (f ρ g.S) Q
/-- a list that has just been made -/
def FP (W : Value → Option Addr → Hp → Prop) (g : G) (H : Hp) (r : R (List D)) (Q : VK) : Prop :=
  match r with
  | .ok ds S' => ∀ g' H' p vs, Ext g H g' H' → Rel K cm g' H' → g'.S = S' → DenL K cm g' vs ds → H p = none → g'.F p = none → ¬ Live g' p → H' p = some (.lst vs) → Q (.ref p) H'
  | .exc x S' => ∀ g' H' cls dd, Ext g H g' H' → Rel K cm g' H' → g'.S = S' → ExcAt K cm H g' x cls dd H' → W cls dd H'
  | .bad => False
def tFr (f : SF) : TE := fun σ H Q => ∃ g ρ, Rel K cm g H ∧ DenE K cm g ρ σ ∧ FP K cm (fun c d H' => W c d σ H') g H (f ρ g.S) Q
end

theorem PE.imp {X : Cx} {e : Expr} {t t' : TE} (h : PE X e t) (w : ∀ σ H Q, t' σ H Q → t σ H Q) : PE X e t' := ⟨fun pins s σ H Q I q => h.run pins s σ H Q I (w σ H Q q)⟩
theorem PT.imp {X : Cx} {e : Expr} {t t' : TT} (h : PT X e t) (w : ∀ σ H Q, t' σ H Q → t σ H Q) : PT X e t' := ⟨fun pins s σ H Q I q => h.run pins s σ H Q I (w σ H Q q)⟩
theorem PA.imp {X : Cx} {e : List Expr} {t t' : TA} (h : PA X e t) (w : ∀ σ H Q, t' σ H Q → t σ H Q) : PA X e t' := ⟨fun pos pins s σ H Q I q => h.run pos pins s σ H Q I (w σ H Q q)⟩

/-- the judgements: an expression, a list of arguments, a test, a list newly made -/
abbrev VE (X : Cx) (cm : CM) (W : WX) (e : Expr) (f : SE) : Prop := PE X e (tE X.K cm W f)
abbrev VA (X : Cx) (cm : CM) (W : WX) (es : List Expr) (f : SA) : Prop := PA X es (tL X.K cm W f)
abbrev VT (X : Cx) (cm : CM) (W : WX) (e : Expr) (f : ST) : Prop := PT X e (tT X.K cm W f)
abbrev VF (X : Cx) (cm : CM) (W : WX) (e : Expr) (f : SF) : Prop := PE X e (tFr X.K cm W f)

section
variable {K : PySem.W.Frag} {cm : CM}
theorem RP.ret {β γ : Type} {den : G → γ → β → Prop} {W : Value → Option Addr → Hp → Prop} {g : G} {H : Hp} {d : β} {v : γ} {Q : γ → Hp → Prop} (h : RP K cm den W g H (.ok d g.S) Q) (rl : Rel K cm g H) (q : den g v d) : Q v H := h g H v (Ext.refl g H) rl rfl q
/-! a new object: frozen at once, or a cell -/
theorem Rel.free {g : G} {H : Hp} {p : Addr} (rl : Rel K cm g H) (h : H p = none) : g.F p = none ∧ ¬ Live g p := by
  refine ⟨?_, fun ⟨k, c, h1, h2, h3⟩ => ?_⟩
  · cases q : g.F p with
    | none => rfl
    | some o =>
      rw [rl.sub p o q] at h
      cases h
  · obtain ⟨_, ok⟩ := rl.cells k p c h1 h2 h3
    cases c with
    | dead => cases h3
    | lst ds =>
      obtain ⟨vs, e, _⟩ := ok
      rw [e] at h
      cases h
    | obj c fs =>
      obtain ⟨C, dx, vs, _, e, _⟩ := ok
      rw [e] at h
      cases h
    | dic es =>
      obtain ⟨kvs, e, _⟩ := ok
      rw [e] at h
      cases h
def G.frz (g : G) (p : Addr) (o : HO) : G := ⟨upd g.F p o, g.α, g.S⟩
theorem live_frz {g : G} {p : Addr} {o : HO} {a : Addr} : Live (g.frz p o) a ↔ Live g a := Iff.rfl
theorem frz_sub {g : G} {p : Addr} {o : HO} (h : g.F p = none) : ∀ a u, g.F a = some u → (g.frz p o).F a = some u := fun a u e => by
  show upd g.F p o a = some u
  rw [upd_ne (ne_of_none e h)]
  exact e
/-- an object that stands in H and is nobody's is frozen -/
theorem Rel.frz {g : G} {H : Hp} {p : Addr} {o : HO} (rl : Rel K cm g H) (h1 : g.F p = none) (h2 : ¬ Live g p) (h3 : H p = some o) (h4 : ∀ ps, o ≠ .tbl ps := by intro ps z; cases z) : Rel K cm (g.frz p o) H := by
  refine ⟨rl.len, fun a u e => ?_, fun k a c e1 e2 e3 => ?_, rl.inj, rl.tabs, fun a ps z => ?_⟩
  · by_cases ha : a = p
    · subst ha
      have e' : upd g.F a o a = some u := e
      rw [upd_same] at e'
      cases e'
      exact h3
    · have e' : upd g.F p o a = some u := e
      rw [upd_ne ha] at e'
      exact rl.sub a u e'
  · obtain ⟨n, ok⟩ := rl.cells k a c e1 e2 e3
    have hne : a ≠ p := fun z => h2 ⟨k, c, by rw [← z]; exact e1, e2, e3⟩
    refine ⟨by show upd g.F p o a = none; rw [upd_ne hne]; exact n, ?_⟩
    have mono := frz_sub (o := o) h1
    cases c with
    | dead => cases e3
    | lst ds =>
      obtain ⟨vs, e, l⟩ := ok
      exact ⟨vs, e, l.mono mono fun _ _ z => z⟩
    | obj c fs =>
      obtain ⟨C, dx, vs, ec, e, l⟩ := ok
      exact ⟨C, dx, vs, ec, e, l.mono mono fun _ _ z => z⟩
    | dic es =>
      obtain ⟨kvs, e, l⟩ := ok
      exact ⟨kvs, e, l.mono mono fun _ _ z => z⟩
  · by_cases ha : a = p
    · subst ha
      have z' : upd g.F a o a = some (.tbl ps) := z
      rw [upd_same] at z'
      exact h4 ps (Option.some.inj z')
    · have z' : upd g.F p o a = some (.tbl ps) := z
      rw [upd_ne ha] at z'
      exact rl.nt a ps z'
theorem Ext.frz {g g' : G} {H H' : Hp} {p : Addr} {o : HO} (e : Ext g H g' H') (h0 : H p = none) (h1 : g'.F p = none) : Ext g H (g'.frz p o) H' where
  fz := fun a u z => frz_sub h1 a u (e.fz a u z)
  al := e.al
  keep := e.keep
  newF := fun a u z => by
    by_cases ha : a = p
    · subst ha
      exact .inr (.inl h0)
    · have z' : upd g'.F p o a = some u := z
      rw [upd_ne ha] at z'
      exact e.newF a u z'
  newL := e.newL
  nn := e.nn
  tb := e.tb
theorem Ext.laid {g : G} {H : Hp} {p : Addr} {o : HO} (h : H p = none) : Ext g H g (upd H p o) where
  tb := fun a ps z => ⟨ps, by rw [upd_ne (ne_of_none z h)]; exact z⟩
  fz := fun _ _ z => z
  al := fun _ _ z => z
  keep := fun a u z _ _ => by
    rw [upd_ne (ne_of_none z h)]
    exact z
  newF := fun _ _ z => .inl z
  newL := fun _ z => .inl z
  nn := fun a z => by
    by_cases ha : a = p
    · subst ha
      exact h
    · rw [upd_ne ha] at z
      exact z
theorem Rel.laid {g : G} {H : Hp} {p : Addr} {o : HO} (rl : Rel K cm g H) (h : H p = none) : Rel K cm g (upd H p o) := by
  obtain ⟨f1, f2⟩ := rl.free h
  refine ⟨rl.len, fun a u e => ?_, fun k a c e1 e2 e3 => ?_, rl.inj, rl.tabs.ext fun b o e => by rw [upd_ne (ne_of_none e h)]; exact e, rl.nt⟩
  · rw [upd_ne (ne_of_none (rl.sub a u e) h)]
    exact rl.sub a u e
  · obtain ⟨n, ok⟩ := rl.cells k a c e1 e2 e3
    have hne : a ≠ p := fun z => f2 ⟨k, c, by rw [← z]; exact e1, e2, e3⟩
    refine ⟨n, ?_⟩
    cases c with
    | dead => cases e3
    | lst ds =>
      obtain ⟨vs, e, l⟩ := ok
      exact ⟨vs, by rw [upd_ne hne]; exact e, l⟩
    | obj c fs =>
      obtain ⟨C, dx, vs, ec, e, l⟩ := ok
      exact ⟨C, dx, vs, ec, by rw [upd_ne hne]; exact e, l⟩
    | dic es =>
      obtain ⟨kvs, e, l⟩ := ok
      exact ⟨kvs, by rw [upd_ne hne]; exact e, l⟩
/-- a cell is opened for an object that is nobody's -/
def G.cell (g : G) (p : Addr) (c : Cell) : G := ⟨g.F, g.α ++ [p], g.S ++ [c]⟩
theorem get_app {α : Type} {l : List α} {x y : α} {k : Nat} (h : (l ++ [x])[k]? = some y) : l[k]? = some y ∨ (k = l.length ∧ y = x) := by
  by_cases hk : k < l.length
  · rw [List.getElem?_append_left hk] at h
    exact .inl h
  · rw [List.getElem?_append_right (Nat.le_of_not_lt hk)] at h
    have : k - l.length = 0 := by
      have := (List.getElem?_eq_some_iff.mp h).1
      simp at this
      omega
    rw [this] at h
    simp at h
    exact .inr ⟨by omega, h.symm⟩
theorem get_old {α : Type} {l : List α} {x y : α} {k : Nat} (h : l[k]? = some y) : (l ++ [x])[k]? = some y := by
  rw [List.getElem?_append_left (List.getElem?_eq_some_iff.mp h).1]
  exact h
theorem live_cell {g : G} {p : Addr} {c : Cell} (hl : g.α.length = g.S.length) {a : Addr} (h : Live (g.cell p c) a) : Live g a ∨ a = p := by
  obtain ⟨k, c', h1, h2, h3⟩ := h
  rcases get_app h1 with z | ⟨z, z'⟩
  · rcases get_app h2 with y | ⟨y, _⟩
    · exact .inl ⟨k, c', z, y, h3⟩
    · have := (List.getElem?_eq_some_iff.mp z).1
      omega
  · exact .inr z'
theorem CellOk.mono {g g' : G} {H H' : Hp} {a : Addr} {c : Cell} (hF : ∀ a o, g.F a = some o → g'.F a = some o) (hα : ∀ (k : Nat) (a : Addr), g.α[k]? = some a → g'.α[k]? = some a) (hH : H' a = H a) (ok : CellOk K cm g H a c) : CellOk K cm g' H' a c := by
  cases c with
  | dead => exact True.intro
  | lst ds =>
    obtain ⟨vs, e, l⟩ := ok
    exact ⟨vs, by rw [hH]; exact e, l.mono hF hα⟩
  | obj c fs =>
    obtain ⟨C, dx, vs, ec, e, l⟩ := ok
    exact ⟨C, dx, vs, ec, by rw [hH]; exact e, l.mono hF hα⟩
  | dic es =>
    obtain ⟨kvs, e, l⟩ := ok
    exact ⟨kvs, by rw [hH]; exact e, l.mono hF hα⟩
theorem Rel.cell {g : G} {H : Hp} {p : Addr} {c : Cell} (rl : Rel K cm g H) (h1 : g.F p = none) (h2 : ¬ Live g p) (h3 : CellOk K cm g H p c) : Rel K cm (g.cell p c) H := by
  refine ⟨by show (g.α ++ [p]).length = (g.S ++ [c]).length; simp [rl.len], rl.sub, fun k a c' e1 e2 e3 => ?_, fun j k a c' d' e1 e2 e3 e4 e5 e6 => ?_, rl.tabs, rl.nt⟩
  · have up : CellOk K cm g H a c' → CellOk K cm (g.cell p c) H a c' := fun ok => CellOk.mono (g := g) (fun _ _ z => z) (fun k a z => get_old z) rfl ok
    rcases get_app e1 with z | ⟨z, z'⟩
    · rcases get_app e2 with y | ⟨y, _⟩
      · obtain ⟨n, ok⟩ := rl.cells k a c' z y e3
        exact ⟨n, up ok⟩
      · have := (List.getElem?_eq_some_iff.mp z).1
        have := rl.len
        omega
    · subst z'
      rcases get_app e2 with y | ⟨_, y⟩
      · have := (List.getElem?_eq_some_iff.mp y).1
        have := rl.len
        omega
      · subst y
        exact ⟨h1, up h3⟩
  · have old : ∀ {k : Nat} {a : Addr} {c' : Cell}, (g.α ++ [p])[k]? = some a → (g.S ++ [c])[k]? = some c' → c'.live = true → (g.α[k]? = some a ∧ g.S[k]? = some c') ∨ (k = g.α.length ∧ a = p) := fun {k a c'} e1 e2 e3 => by
      rcases get_app e1 with z | z
      · rcases get_app e2 with y | ⟨y, _⟩
        · exact .inl ⟨z, y⟩
        · have := (List.getElem?_eq_some_iff.mp z).1
          have := rl.len
          omega
      · exact .inr z
    rcases old e1 e3 e5 with ⟨a1, a2⟩ | ⟨a1, a2⟩
    · rcases old e2 e4 e6 with ⟨b1, b2⟩ | ⟨b1, b2⟩
      · exact rl.inj j k a c' d' a1 b1 a2 b2 e5 e6
      · subst b2
        exact absurd ⟨j, c', a1, a2, e5⟩ h2
    · rcases old e2 e4 e6 with ⟨b1, b2⟩ | ⟨b1, b2⟩
      · subst a2
        exact absurd ⟨k, d', b1, b2, e6⟩ h2
      · omega
theorem Ext.cell {g g' : G} {H H' : Hp} {p : Addr} {c : Cell} (e : Ext g H g' H') (hl : g'.α.length = g'.S.length) (h0 : H p = none) : Ext g H (g'.cell p c) H' where
  fz := e.fz
  al := fun k a z => get_old (e.al k a z)
  keep := e.keep
  newF := e.newF
  newL := fun a z => by
    rcases live_cell hl z with y | y
    · exact e.newL a y
    · subst y
      exact .inr h0
  nn := e.nn
  tb := e.tb
/-! a cell's object is written -/
def G.put (g : G) (k : Nat) (c : Cell) : G := ⟨g.F, g.α, g.S.set k c⟩
/-- an object that is no table and no code is written: the tables stand -/
theorem tabs_put {T : List (Addr × Str)} {H : Hp} {a : Addr} {o : HO} (t : LamX.Tabs T H) (h1 : ∀ ps, H a ≠ some (.tbl ps)) (h2 : ∀ q, H a ≠ some (LamX.CodeO a q)) : LamX.Tabs T (upd H a o) := fun p hp => by
  obtain ⟨ps, e1, e2, e3⟩ := t p hp
  have n1 : p.1 ≠ a := fun z => by rw [z] at e1; exact h1 _ e1
  refine ⟨ps, by rw [upd_ne n1]; exact e1, e2, fun pos cv hc => ?_⟩
  obtain ⟨c, x1, x2⟩ := e3 pos cv hc
  have n2 : c ≠ a := fun z => by rw [z] at x2; exact h2 _ x2
  exact ⟨c, x1, by rw [upd_ne n2]; exact x2⟩
theorem codeO_lst {c : Addr} {q : Str} {xs : List V} : HO.lst xs ≠ LamX.CodeO c q := fun z => by unfold LamX.CodeO at z; cases z
theorem codeO_ins {c C d : Addr} {q : Str} {xs : List (Str × V)} : HO.ins C d xs ≠ LamX.CodeO c q := fun z => by unfold LamX.CodeO at z; cases z
theorem codeO_dK {c : Addr} {q : Str} {xs : List (Key × V)} : HO.dK xs ≠ LamX.CodeO c q := fun z => by unfold LamX.CodeO at z; cases z
theorem cell_notab {g : G} {H : Hp} {a : Addr} {c : Cell} (l : c.live = true) (ok : CellOk K cm g H a c) : (∀ ps, H a ≠ some (.tbl ps)) ∧ ∀ q, H a ≠ some (LamX.CodeO a q) := by
  cases c with
  | dead => cases l
  | lst ds =>
    obtain ⟨vs, e, _⟩ := ok
    rw [e]
    exact ⟨fun ps z => (by cases z), fun q z => codeO_lst (Option.some.inj z)⟩
  | obj c fs =>
    obtain ⟨C, dx, vs, _, e, _⟩ := ok
    rw [e]
    exact ⟨fun ps z => (by cases z), fun q z => codeO_ins (Option.some.inj z)⟩
  | dic es =>
    obtain ⟨kvs, e, _⟩ := ok
    rw [e]
    exact ⟨fun ps z => (by cases z), fun q z => codeO_dK (Option.some.inj z)⟩
theorem get_set {l : Store} {k j : Nat} {c d : Cell} (h : (l.set k c)[j]? = some d) : (j = k ∧ d = c) ∨ (j ≠ k ∧ l[j]? = some d) := by
  by_cases e : j = k
  · subst e
    have hl : j < l.length := by
      have := (List.getElem?_eq_some_iff.mp h).1
      simpa using this
    rw [List.getElem?_set_self hl] at h
    exact .inl ⟨rfl, (Option.some.inj h).symm⟩
  · rw [List.getElem?_set_ne (Ne.symm e)] at h
    exact .inr ⟨e, h⟩
theorem live_put {g : G} {k : Nat} {c c0 : Cell} {a b : Addr} (ha : g.α[k]? = some a) (hc : g.S[k]? = some c0) (l0 : c0.live = true) (h : Live (g.put k c) b) : Live g b := by
  obtain ⟨j, d, h1, h2, h3⟩ := h
  rcases get_set h2 with ⟨e, _⟩ | ⟨_, e⟩
  · subst e
    exact ⟨j, c0, h1, hc, l0⟩
  · exact ⟨j, d, h1, e, h3⟩
theorem Rel.put {g : G} {H : Hp} {k : Nat} {a : Addr} {c c0 : Cell} {o : HO} (rl : Rel K cm g H) (ha : g.α[k]? = some a) (hc : g.S[k]? = some c0) (l0 : c0.live = true) (ok : CellOk K cm g (upd H a o) a c) : Rel K cm (g.put k c) (upd H a o) := by
  obtain ⟨fn, ok0⟩ := rl.cells k a c0 ha hc l0
  obtain ⟨t1, t2⟩ := cell_notab l0 ok0
  refine ⟨by show g.α.length = (g.S.set k c).length; simp [rl.len], fun b u e => ?_, fun j b d e1 e2 e3 => ?_, fun i j b d d' e1 e2 e3 e4 e5 e6 => ?_, tabs_put rl.tabs t1 t2, rl.nt⟩
  · have e' : g.F b = some u := e
    rw [upd_ne (ne_of_none e' fn)]
    exact rl.sub b u e'
  · rcases get_set e2 with ⟨x, y⟩ | ⟨x, y⟩
    · subst x
      subst y
      have e1' : g.α[j]? = some b := e1
      rw [ha] at e1'
      cases e1'
      exact ⟨fn, CellOk.mono (g := g) (fun _ _ z => z) (fun _ _ z => z) rfl ok⟩
    · obtain ⟨n, ok'⟩ := rl.cells j b d e1 y e3
      have hne : b ≠ a := fun z => x (by subst z; exact rl.inj j k b d c0 e1 ha y hc e3 l0)
      exact ⟨n, CellOk.mono (g := g) (fun _ _ z => z) (fun _ _ z => z) (upd_ne hne) ok'⟩
  · have old : ∀ {i : Nat} {d : Cell}, (g.S.set k c)[i]? = some d → d.live = true → ∃ d0, g.S[i]? = some d0 ∧ d0.live = true := fun {i d} e l => by
      rcases get_set e with ⟨x, _⟩ | ⟨_, y⟩
      · subst x
        exact ⟨c0, hc, l0⟩
      · exact ⟨d, y, l⟩
    obtain ⟨d0, x1, x2⟩ := old e3 e5
    obtain ⟨d1, y1, y2⟩ := old e4 e6
    exact rl.inj i j b d0 d1 e1 e2 x1 y1 x2 y2
theorem Ext.put {g : G} {H : Hp} {k : Nat} {a : Addr} {c c0 : Cell} {o : HO} (ha : g.α[k]? = some a) (hc : g.S[k]? = some c0) (l0 : c0.live = true) (hn : ∃ u, H a = some u ∧ ∀ ps, u ≠ .tbl ps) : Ext g H (g.put k c) (upd H a o) where
  tb := fun b ps z => ⟨ps, by
    have hb : b ≠ a := fun e => by
      obtain ⟨u, h1, h2⟩ := hn
      rw [e, h1] at z
      exact h2 ps (Option.some.inj z)
    rw [upd_ne hb]
    exact z⟩
  fz := fun _ _ z => z
  al := fun _ _ z => z
  keep := fun b u z hl _ => by
    have hne : b ≠ a := fun e => hl (by subst e; exact ⟨k, c0, ha, hc, l0⟩)
    rw [upd_ne hne]
    exact z
  newF := fun _ _ z => .inl z
  newL := fun b z => .inl (live_put ha hc l0 z)
  nn := fun b z => by
    by_cases e : b = a
    · subst e
      rw [upd_same] at z
      cases z
    · rw [upd_ne e] at z
      exact z
/-- a cell's list is let go: it is frozen from now on -/
theorem Rel.let_go {g : G} {H : Hp} {k : Nat} {a : Addr} {ds : List D} (rl : Rel K cm g H) (ha : g.α[k]? = some a) (hc : g.S[k]? = some (.lst ds)) :
    ∃ g', Rel K cm g' H ∧ Ext g H g' H ∧ g'.S = g.S.set k .dead ∧ Den K cm g' (.ref a) (.lst ds) := by
  obtain ⟨fn, vs, e, l⟩ := rl.cells k a _ ha hc rfl
  have sub := frz_sub (o := .lst vs) fn
  refine ⟨⟨upd g.F a (.lst vs), g.α, g.S.set k .dead⟩, ⟨by simp [rl.len], fun b u q => ?_, fun j b d e1 e2 e3 => ?_, fun i j b d d' e1 e2 e3 e4 e5 e6 => ?_, rl.tabs, fun b ps z => ?_⟩, ⟨sub, fun _ _ z => z, fun _ _ z _ _ => z, fun b u z => ?_, fun b ⟨j, d, h1, h2, h3⟩ => ?_, fun _ z => z, fun _ ps z => ⟨ps, z⟩⟩, rfl, .lst (vs := vs) upd_same (DenL.mono (g := g) (g' := ⟨upd g.F a (.lst vs), g.α, g.S.set k .dead⟩) sub (fun _ _ z => z) l)⟩
  · by_cases hb : b = a
    · subst hb
      have q' : upd g.F b (.lst vs) b = some u := q
      rw [upd_same] at q'
      cases q'
      exact e
    · have q' : upd g.F a (.lst vs) b = some u := q
      rw [upd_ne hb] at q'
      exact rl.sub b u q'
  · rcases get_set e2 with ⟨_, y⟩ | ⟨x, y⟩
    · subst y
      cases e3
    · obtain ⟨n, ok'⟩ := rl.cells j b d e1 y e3
      have hne : b ≠ a := fun z => x (by subst z; exact rl.inj j k b d _ e1 ha y hc e3 rfl)
      exact ⟨by show upd g.F a (.lst vs) b = none; rw [upd_ne hne]; exact n, CellOk.mono (g := g) sub (fun _ _ z => z) rfl ok'⟩
  · rcases get_set e3 with ⟨_, y⟩ | ⟨_, y⟩
    · subst y
      cases e5
    · rcases get_set e4 with ⟨_, y'⟩ | ⟨_, y'⟩
      · subst y'
        cases e6
      · exact rl.inj i j b d d' e1 e2 y y' e5 e6
  · by_cases hb : b = a
    · subst hb
      have z' : upd g.F b (.lst vs) b = some (.tbl ps) := z
      rw [upd_same] at z'
      cases z'
    · have z' : upd g.F a (.lst vs) b = some (.tbl ps) := z
      rw [upd_ne hb] at z'
      exact rl.nt b ps z'
  · by_cases hb : b = a
    · subst hb
      exact .inr (.inr (.inl ⟨k, _, ha, hc, rfl⟩))
    · have z' : upd g.F a (.lst vs) b = some u := z
      rw [upd_ne hb] at z'
      exact .inl z'
  · rcases get_set h2 with ⟨_, y⟩ | ⟨_, y⟩
    · subst y
      cases h3
    · exact .inl ⟨j, d, h1, y, h3⟩
end

/-! ### the list newly made, as a value or as a cell -/
def immF (f : SF) : SE := fun ρ S => (f ρ S).bind fun ds S' => .ok (.lst ds) S'
def mutF (f : SF) : SE := fun ρ S => (f ρ S).bind fun ds S' => .ok (.cel S'.length) (S' ++ [.lst ds])
section
variable {X : Cx} {cm : CM} {W : WX} {e a b : Expr} {es : List Expr} {pos : Pos}
theorem ve_imm {f : SF} (h : VF X cm W e f) : VE X cm W e (immF f) := by
  refine PE.imp h fun σ H Q ⟨g, ρ, rl, de, q⟩ => ⟨g, ρ, rl, de, ?_⟩
  unfold immF at q
  unfold FP
  cases hf : f ρ g.S with
  | ok ds S' =>
    rw [hf] at q
    intro g' H' p vs ex rl' es' dl h0 hF hL hp
    exact q (g'.frz p (.lst vs)) H' (.ref p) (ex.frz h0 hF) (rl'.frz hF hL hp) es' (.lst upd_same (dl.mono (frz_sub hF) fun _ _ z => z))
  | exc x S' =>
    rw [hf] at q
    exact q
  | bad =>
    rw [hf] at q
    exact q
theorem ve_mut {f : SF} (h : VF X cm W e f) : VE X cm W e (mutF f) := by
  refine PE.imp h fun σ H Q ⟨g, ρ, rl, de, q⟩ => ⟨g, ρ, rl, de, ?_⟩
  unfold mutF at q
  unfold FP
  cases hf : f ρ g.S with
  | ok ds S' =>
    rw [hf] at q
    intro g' H' p vs ex rl' es' dl h0 hF hL hp
    refine q (g'.cell p (.lst ds)) H' (.ref p) (ex.cell rl'.len h0) (rl'.cell hF hL ⟨vs, hp, dl⟩) (by show g'.S ++ [_] = _; rw [es']) (.cel ?_)
    show (g'.α ++ [p])[S'.length]? = some p
    rw [← es', ← rl'.len, List.getElem?_append_right (Nat.le_refl _)]
    simp
  | exc x S' =>
    rw [hf] at q
    exact q
  | bad =>
    rw [hf] at q
    exact q

/-! ### names, constants -/
def sVar (i : Nat) : SE := fun ρ S => match ρ[i]? with
  | some (some d) => .ok d S
  | _ => .bad
theorem ve_var {i : Nat} {x : Str} {pos : Pos} (h : PE X (.Name x pos) (tVar i)) : VE X cm W (.Name x pos) (sVar i) := by
  refine PE.imp h fun σ H Q ⟨g, ρ, rl, de, q⟩ => ?_
  unfold sVar at q
  cases hi : ρ[i]? with
  | none =>
    simp only [hi] at q
    exact q.elim
  | some o =>
    cases o with
    | none =>
      simp only [hi] at q
      exact q.elim
    | some d =>
      simp only [hi] at q
      obtain ⟨v, h1, h2⟩ := de.at_ i d hi
      exact ⟨v, h1, q.ret rl h2⟩
/-- a name whose cell is let go -/
def sGo (i : Nat) : SE := fun ρ S => match ρ[i]? with
  | some (some (.cel k)) => match S[k]? with
    | some (.lst ds) => .ok (.lst ds) (S.set k .dead)
    | _ => .bad
  | _ => .bad
theorem ve_go {i : Nat} {x : Str} {pos : Pos} (h : PE X (.Name x pos) (tVar i)) : VE X cm W (.Name x pos) (sGo i) := by
  refine PE.imp h fun σ H Q ⟨g, ρ, rl, de, q⟩ => ?_
  unfold sGo at q
  split at q
  · rename_i k hi
    split at q
    · rename_i ds hk
      obtain ⟨v, h1, h2⟩ := de.at_ i _ hi
      refine ⟨v, h1, ?_⟩
      cases h2 with
      | cel ha =>
        obtain ⟨g', rl', ex, es', dn⟩ := rl.let_go ha hk
        exact q g' H _ ex rl' es' dn
    · exact q.elim
  · exact q.elim
def sC (d : D) : SE := fun _ S => .ok d S
theorem ve_c {v : V} {d : D} (h : PE X e (tC v)) (hd : ∀ g, Den X.K cm g v d) : VE X cm W e (sC d) :=
  PE.imp h fun σ H Q ⟨g, ρ, rl, de, q⟩ => RP.ret q rl (hd g)
theorem ve_int {i : Int} {j : Nat} : VE X cm W (.Constant (.int i) j pos) (sC (.int i)) := ve_c pe_int fun _ => .int i
theorem ve_bl {b : Bool} {j : Nat} : VE X cm W (.Constant (.bool b) j pos) (sC (.bl b)) := ve_c pe_bl fun _ => .bl b
theorem ve_non {j : Nat} : VE X cm W (.Constant .none j pos) (sC .non) := ve_c pe_non fun _ => .non
theorem ve_str {x : Str} {j : Nat} : VE X cm W (.Constant (.str x) j pos) (sC (.str x)) := ve_c pe_str fun _ => .str x
theorem ve_gint {x : Str} {i : Int} {t : Tok} (hg : Gl X x) (hm : X.mg x = some (.int i t)) (hd : (x == ("__debug__" : Str)) = false := by decide) : VE X cm W (.Name x pos) (sC (.int i)) := ve_c (pe_glob (v := .int i) hg hm ⟨t, rfl⟩ hd) fun _ => .int i
theorem ve_gstr {x z : Str} {t : Tok} (hg : Gl X x) (hm : X.mg x = some (.str z t)) (hd : (x == ("__debug__" : Str)) = false := by decide) : VE X cm W (.Name x pos) (sC (.str z)) := ve_c (pe_glob (v := .str z) hg hm ⟨t, rfl⟩ hd) fun _ => .str z

/-! ### argument lists, displays -/
def aNil : SA := fun _ S => .ok [] S
def aCons (f : SE) (fs : SA) : SA := fun ρ S => (f ρ S).bind fun d S1 => (fs ρ S1).bind fun ds S2 => .ok (d :: ds) S2
theorem va_nil : VA X cm W [] aNil := PA.imp pa_nil fun σ H Q ⟨g, ρ, rl, de, q⟩ => RP.ret q rl .nil
theorem va_cons {f : SE} {fs : SA} (h : VE X cm W e f) (t : VA X cm W es fs) (hs : starEach (e :: es) X.env = (false, eval e X.env) :: starEach es X.env := by rfl) : VA X cm W (e :: es) (aCons f fs) := by
  refine PA.imp (pa_cons h t hs) fun σ H Q ⟨g, ρ, rl, de, q⟩ => ?_
  refine ⟨g, ρ, rl, de, RP.mono (RP.step q) fun v H1 ⟨d, g1, e1, rl1, dn, q1⟩ => ?_⟩
  refine ⟨g1, ρ, rl1, e1.denE de, RP.mono (RP.step q1) fun vs H2 ⟨ds, g2, e2, rl2, dl, q2⟩ => ?_⟩
  exact RP.ret q2 rl2 (.cons (e2.den dn) dl)
def short (ds : List D) (S : Store) : R (List D) := if ds.length ≤ sizeLine then .ok ds S else .bad
def fLst (f : SA) : SF := fun ρ S => (f ρ S).bind short
theorem vf_lst {f : SA} (h : VA X cm W es f) : VF X cm W (.List es pos) (fLst f) := by
  refine PE.imp (pe_lst h) fun σ H Q ⟨g, ρ, rl, de, q⟩ => ⟨g, ρ, rl, de, ?_⟩
  unfold fLst at q
  cases hf : f ρ g.S with
  | ok ds S' =>
    rw [hf] at q
    simp only [R.bind, short] at q
    intro g' H' vs ex rl' es' dl
    by_cases hz : ds.length ≤ sizeLine
    · rw [if_pos hz] at q
      refine ⟨by rw [dl.length]; exact hz, fun p hp => ?_⟩
      obtain ⟨n1, n2⟩ := rl'.free hp
      exact q g' (upd H' p (.lst vs)) p vs (ex.trans (Ext.laid hp)) (rl'.laid hp) es' dl (ex.nn p hp) n1 n2 upd_same
    · rw [if_neg hz] at q
      exact q.elim
  | exc x S' =>
    rw [hf] at q
    exact q
  | bad =>
    rw [hf] at q
    exact q
def sTup (f : SA) : SE := fun ρ S => (f ρ S).bind fun ds S' => (short ds S').bind fun ds S'' => .ok (.tup ds) S''
theorem RP.alloc {K : PySem.W.Frag} {W : Value → Option Addr → Hp → Prop} {g : G} {H : Hp} {d : D} {o : HO} {Q : VK} (h : RP K cm (Den K cm) W g H (.ok d g.S) Q) (rl : Rel K cm g H) {p : Addr} (hp : H p = none) (hd : Den K cm (g.frz p o) (.ref p) d) (h4 : ∀ ps, o ≠ .tbl ps := by intro ps z; cases z) : Q (.ref p) (upd H p o) := by
  obtain ⟨n1, n2⟩ := rl.free hp
  exact h (g.frz p o) (upd H p o) (.ref p) ((Ext.laid hp).frz hp n1) ((rl.laid hp).frz n1 n2 upd_same h4) rfl hd
theorem ve_tup {f : SA} {k : Nat} (h : VA X cm W es f) : VE X cm W (.Tuple es k pos) (sTup f) := by
  refine PE.imp (pe_tup h) fun σ H Q ⟨g, ρ, rl, de, q⟩ => ⟨g, ρ, rl, de, RP.mono (RP.step q) fun vs H1 ⟨ds, g1, e1, rl1, dl, q1⟩ => ?_⟩
  unfold short at q1
  by_cases hz : ds.length ≤ sizeLine
  · rw [if_pos hz] at q1
    refine ⟨by rw [dl.length]; exact hz, fun p hp => ?_⟩
    exact RP.alloc q1 rl1 hp (.tup (SqT.of upd_same) (dl.mono (frz_sub (rl1.free hp).1) fun _ _ z => z))
  · rw [if_neg hz] at q1
    exact q1.elim

/-! ### operators -/
/-- an operator by values keeps what it is told: its rule r from the data -/
def OpD (X : Cx) (cm : CM) (r : R2) (f : D → D → Store → R D) : Prop :=
  ∀ (W : Value → Option Addr → Hp → Prop) (g : G) (H : Hp) (x y : V) (a b : D) (Q : VK), Rel X.K cm g H → Den X.K cm g x a → Den X.K cm g y b → RP X.K cm (Den X.K cm) W g H (f a b g.S) Q → r x y H Q
def sBin (o : D → D → Store → R D) (fa fb : SE) : SE := fun ρ S => (fa ρ S).bind fun a S1 => (fb ρ S1).bind fun b S2 => o a b S2
theorem bin_step {r : R2} {o : D → D → Store → R D} {fa fb : SE} (hd : OpD X cm r o) {σ : L2.St} {H : Hp} {Q : VK} (q : tE X.K cm W (sBin o fa fb) σ H Q) : tOp r (tE X.K cm W fa) (tE X.K cm W fb) σ H Q := by
  obtain ⟨g, ρ, rl, de, q⟩ := q
  refine ⟨g, ρ, rl, de, RP.mono (RP.step q) fun x H1 ⟨d, g1, e1, rl1, dn, q1⟩ => ?_⟩
  refine ⟨g1, ρ, rl1, e1.denE de, RP.mono (RP.step q1) fun y H2 ⟨d2, g2, e2, rl2, dn2, q2⟩ => ?_⟩
  exact hd _ g2 H2 x y d d2 Q rl2 (e2.den dn) dn2 q2
theorem ve_op {op : Operator} {r : R2} {o : D → D → Store → R D} {fa fb : SE} (ho : OpR X (binaryOp op) r) (hd : OpD X cm r o) (ha : VE X cm W a fa) (hb : VE X cm W b fb) : VE X cm W (.BinOp a op b pos) (sBin o fa fb) :=
  PE.imp (pe_op ho ha hb) fun _ _ _ q => bin_step hd q
theorem ve_cmp {op : CmpOp} {r : R2} {o : D → D → Store → R D} {fa fb : SE} (ho : OpR X (compareOp op) r) (hd : OpD X cm r o) (ha : VE X cm W a fa) (hb : VE X cm W b fb) (hm : behindInMarks op b = false := by first | exact nomark _ | rfl) : VE X cm W (.Compare a [op] [b] pos) (sBin o fa fb) :=
  PE.imp (pe_cmpR ho ha hb hm) fun _ _ _ q => bin_step hd q
/-- two ways of an operator -/
theorem OpD.or {r r' : R2} {f f' : D → D → Store → R D} {p : D → D → Store → Bool} (h : OpD X cm r f) (h' : OpD X cm r' f') : OpD X cm (fun x y H Q => r x y H Q ∨ r' x y H Q) (fun a b S => if p a b S = true then f a b S else f' a b S) := by
  intro W g H x y a b Q rl da db q
  simp only [] at q
  by_cases c : p a b g.S = true
  · rw [if_pos c] at q
    exact .inl (h W g H x y a b Q rl da db q)
  · rw [if_neg c] at q
    exact .inr (h' W g H x y a b Q rl da db q)
end
end VS
end
section
set_option Elab.async false
set_option linter.all false
set_option maxRecDepth 100000
/-! VS: what is read of lists and tuples; operators -/
namespace VS
open PySem PySem.Spec PyProof.Rows L2

def lookL (S : Store) : D → Option (List D)
  | .lst xs => some xs
  | .scr xs => some xs
  | .cel k => match S[k]? with
    | some (.lst xs) => some xs
    | _ => none
  | _ => none
def lookM (S : Store) : D → Option (List D)
  | .lst xs => some xs
  | .cel k => match S[k]? with
    | some (.lst xs) => some xs
    | _ => none
  | _ => none
def lookT : D → Option (List D)
  | .tup xs => some xs
  | _ => none
section
variable {K : PySem.W.Frag} {cm : CM} {g : G} {H : Hp} {v : V} {d : D} {ds : List D}
theorem Den.lookM (rl : Rel K cm g H) (h : Den K cm g v d) (e : lookM g.S d = some ds) : ∃ a vs, v = .ref a ∧ H a = some (.lst vs) ∧ DenL K cm g vs ds := by
  cases h with
  | lst s l =>
    cases e
    exact ⟨_, _, rfl, rl.sub _ _ s, l⟩
  | @cel a k ha =>
    unfold VS.lookM at e
    simp only at e
    split at e
    · rename_i xs hk
      cases e
      obtain ⟨_, vs, e, l⟩ := rl.cells k a _ ha hk rfl
      exact ⟨a, vs, rfl, e, l⟩
    · cases e
  | _ => cases e
theorem Den.lookL (rl : Rel K cm g H) (h : Den K cm g v d) (e : lookL g.S d = some ds) : ∃ a vs, v = .ref a ∧ SqL K H a vs ∧ DenL K cm g vs ds := by
  cases h with
  | lst s l =>
    cases e
    exact ⟨_, _, rfl, SqL.of (rl.sub _ _ s), l⟩
  | scr s l =>
    cases e
    exact ⟨_, _, rfl, SqL.sub rl.sub s, l⟩
  | @cel a k ha =>
    unfold VS.lookL at e
    simp only at e
    split at e
    · rename_i xs hk
      cases e
      obtain ⟨_, vs, e, l⟩ := rl.cells k a _ ha hk rfl
      exact ⟨a, vs, rfl, SqL.of e, l⟩
    · cases e
  | _ => cases e
theorem Den.lookT (rl : Rel K cm g H) (h : Den K cm g v d) (e : lookT d = some ds) : ∃ a vs, v = .ref a ∧ SqT K H a vs ∧ DenL K cm g vs ds := by
  cases h with
  | tup s l =>
    cases e
    exact ⟨_, _, rfl, SqT.sub rl.sub s, l⟩
  | _ => cases e
end

/-! ### data as the model's plain data -/
mutual
def toP : D → Option PyData
  | .non => some .none
  | .bl b => some (.bool b)
  | .int i => some (.int i)
  | .str x => some (.str x)
  | .lst xs => (toPs xs).map .list
  | .scr xs => (toPs xs).map .list
  | .tup xs => (toPs xs).map .tuple
  | _ => none
def toPs : List D → Option (List PyData)
  | [] => some []
  | d :: ds => match toP d, toPs ds with
    | some p, some ps => some (p :: ps)
    | _, _ => none
end
def toPy (S : Store) : D → Option PyData
  | .cel k => match S[k]? with
    | some (.lst xs) => (toPs xs).map .list
    | _ => none
  | d => toP d
section
variable {K : PySem.W.Frag} {cm : CM} {g : G} {H : Hp}
mutual
theorem Den.dp (rl : Rel K cm g H) : ∀ {v : V} {d : D} {p : PyData}, Den K cm g v d → toP d = some p → Dp K H v p
  | _, _, _, .non, e => by cases e; exact .non
  | _, _, _, .bl b, e => by cases e; exact .bl b
  | _, _, _, .int i, e => by cases e; exact .int i
  | _, _, _, .str x, e => by cases e; exact .str x
  | _, _, _, .lst (ds := ds) s l, e => by
    unfold toP at e
    cases hp : toPs ds with
    | none => rw [hp] at e; cases e
    | some ps =>
      rw [hp] at e
      cases e
      exact .lst (SqL.of (rl.sub _ _ s)) (DenL.dp rl l hp)
  | _, _, _, .scr (ds := ds) s l, e => by
    unfold toP at e
    cases hp : toPs ds with
    | none => rw [hp] at e; cases e
    | some ps =>
      rw [hp] at e
      cases e
      exact .lst (SqL.sub rl.sub s) (DenL.dp rl l hp)
  | _, _, _, .tup (ds := ds) s l, e => by
    unfold toP at e
    cases hp : toPs ds with
    | none => rw [hp] at e; cases e
    | some ps =>
      rw [hp] at e
      cases e
      exact .tup (SqT.sub rl.sub s) (DenL.dp rl l hp)
  | _, _, _, .ty _, e => by cases e
  | _, _, _, .clo _ _, e => by cases e
  | _, _, _, .cls _, e => by cases e
  | _, _, _, .cel _, e => by cases e
  | _, _, _, .ins _ _ _, e => by cases e
  | _, _, _, .exc _ _ _ _, e => by cases e
  | _, _, _, .dic _ _, e => by cases e
theorem DenL.dp (rl : Rel K cm g H) : ∀ {vs : List V} {ds : List D} {ps : List PyData}, DenL K cm g vs ds → toPs ds = some ps → DpAll K H vs ps
  | _, _, _, .nil, e => by cases e; exact .nil
  | _, _, _, .cons (d := d) (ds := ds) h t, e => by
    unfold toPs at e
    cases hp : toP d with
    | none => rw [hp] at e; cases e
    | some p =>
      cases hq : toPs ds with
      | none => rw [hp, hq] at e; cases e
      | some ps =>
        rw [hp, hq] at e
        cases e
        exact .cons (Den.dp rl h hp) (DenL.dp rl t hq)
end
theorem Den.py (rl : Rel K cm g H) {v : V} {d : D} {p : PyData} (h : Den K cm g v d) (e : toPy g.S d = some p) : Dp K H v p := by
  unfold toPy at e
  split at e
  · rename_i k
    split at e
    · rename_i xs hk
      cases h with
      | cel ha =>
        obtain ⟨_, vs, e1, l⟩ := rl.cells k _ _ ha hk rfl
        cases hp : toPs xs with
        | none => rw [hp] at e; cases e
        | some ps =>
          rw [hp] at e
          cases e
          exact .lst (SqL.of e1) (DenL.dp rl l hp)
    · cases e
  · exact h.dp rl e
end

/-! ### operators by data -/
instance (i j : Int) : Decidable (CMul i j) := inferInstanceAs (Decidable (_ ∨ _))
instance (i j : Int) : Decidable (CMulW i j) := inferInstanceAs (Decidable (_ < _))
instance (i j : Int) : Decidable (CPow i j) := inferInstanceAs (Decidable (_ ∧ _))
instance (i j : Int) : Decidable (CDivW i j) := inferInstanceAs (Decidable (_ ∧ _))
def mulOk (i j : Int) : Prop := CMul i j ∨ CMulW i j
instance (i j : Int) : Decidable (mulOk i j) := inferInstanceAs (Decidable (_ ∨ _))
def fitL (ds : List D) (S : Store) : R D := if ds.length ≤ sizeLine then .ok (.lst ds) S else .bad
def catL (a b : D) (S : Store) : R D := match lookM S a, lookM S b with
  | some xs, some ys => fitL (xs ++ ys) S
  | _, _ => .bad
def addD (a b : D) (S : Store) : R D := match a, b with
  | .int i, .int j => .ok (.int (i + j)) S
  | .str x, .str y => if x.length + y.length ≤ sizeLine then .ok (.str (x ++ y)) S else .bad
  | .tup xs, .tup ys => if xs.length + ys.length ≤ sizeLine then .ok (.tup (xs ++ ys)) S else .bad
  | a, b => catL a b S
def subD (a b : D) (S : Store) : R D := match a, b with
  | .int i, .int j => .ok (.int (i - j)) S
  | _, _ => .bad
def repL (a : D) (k : Int) (S : Store) : R D := match lookM S a with
  | some xs => if -(2 ^ 63) ≤ k ∧ k < 2 ^ 63 ∧ xs.length * k.toNat ≤ sizeLine then .ok (.lst (List.replicate k.toNat xs).flatten) S else .bad
  | none => .bad
def mulD (a b : D) (S : Store) : R D := match a, b with
  | .int i, .int j => if mulOk i j then .ok (.int (i * j)) S else .bad
  | a, .int k => repL a k S
  | _, _ => .bad
def fdivD (a b : D) (S : Store) : R D := match a, b with
  | .int i, .int j => if CDivW i j then .ok (.int (i / j)) S else .bad
  | _, _ => .bad
def modD (a b : D) (S : Store) : R D := match a, b with
  | .int i, .int j => if 0 < j then .ok (.int (i % j)) S else .bad
  | _, _ => .bad
def powD (a b : D) (S : Store) : R D := match a, b with
  | .int i, .int j => if CPow i j then .ok (.int (i ^ j.toNat)) S else .bad
  | _, _ => .bad
def eqPy (S : Store) (a b : D) : Option Bool := match toPy S a, toPy S b with
  | some p, some q => if SeqAt.shaped p = true ∧ SeqAt.shaped q = true then some (PyData.eqv p q) else none
  | _, _ => none
def eqD (a b : D) (S : Store) : R D := match eqPy S a b with
  | some c => .ok (.bl c) S
  | none => .bad
def neD (a b : D) (S : Store) : R D := match eqPy S a b with
  | some c => .ok (.bl (!c)) S
  | none => .bad
def ltD (a b : D) (S : Store) : R D := match a, b with
  | .int i, .int j => .ok (.bl (decide (i < j))) S
  | _, _ => .bad
def leD (a b : D) (S : Store) : R D := match a, b with
  | .int i, .int j => .ok (.bl (decide (i ≤ j))) S
  | _, _ => .bad
def gtD (a b : D) (S : Store) : R D := match a, b with
  | .int i, .int j => .ok (.bl (decide (j < i))) S
  | _, _ => .bad
def geD (a b : D) (S : Store) : R D := match a, b with
  | .int i, .int j => .ok (.bl (decide (j ≤ i))) S
  | _, _ => .bad
def isNon : D → Bool
  | .non => true
  | _ => false
def isD (a b : D) (S : Store) : R D := match a, b with
  | a, .non => .ok (.bl (isNon a)) S
  | .bl x, .bl y => .ok (.bl (decide (x = y))) S
  | _, _ => .bad
def isnotD (a b : D) (S : Store) : R D := match a, b with
  | a, .non => .ok (.bl (!isNon a)) S
  | .bl x, .bl y => .ok (.bl (!decide (x = y))) S
  | _, _ => .bad
section
variable {X : Cx} {cm : CM}
def rAdds (K : PySem.W.Frag) : R2 := fun x y H Q => rI0 (fun i j => .int (i + j)) x y H Q ∨ (∃ i j, x = .str i ∧ y = .str j ∧ i.length + j.length ≤ sizeLine ∧ Q (.str (i ++ j)) H) ∨ rCatA K x y H Q ∨ rCat x y H Q
theorem op_adds : OpR X (binaryOp .Add) (rAdds X.K) := op_add.or (op_add_str.or (op_catA.or op_cat))
theorem catL_ok {W : Value → Option Addr → Hp → Prop} {g : G} {H : Hp} {x y : V} {a b : D} {Q : VK} (rl : Rel X.K cm g H) (da : Den X.K cm g x a) (db : Den X.K cm g y b) (q : RP X.K cm (Den X.K cm) W g H (catL a b g.S) Q) : rCat x y H Q := by
  unfold catL at q
  split at q
  · rename_i xs ys h1 h2
    obtain ⟨l, vs, rfl, e1, l1⟩ := da.lookM rl h1
    obtain ⟨m, ws, rfl, e2, l2⟩ := db.lookM rl h2
    unfold fitL at q
    split at q
    · rename_i hz
      refine ⟨l, m, vs, ws, rfl, rfl, e1, e2, by rw [l1.length, l2.length]; rw [List.length_append] at hz; exact hz, fun p hp => ?_⟩
      have hL := l1.append l2
      exact RP.alloc q rl hp (.lst upd_same (hL.mono (frz_sub (rl.free hp).1) fun _ _ z => z))
    · exact q.elim
  · exact q.elim
theorem addD_ok : OpD X cm (rAdds X.K) addD := by
  intro W g H x y a b Q rl da db q
  unfold addD at q
  split at q
  · cases da
    cases db
    exact .inl ⟨_, _, rfl, rfl, RP.ret q rl (.int _)⟩
  · cases da
    cases db
    split at q
    · rename_i hz
      exact .inr (.inl ⟨_, _, rfl, rfl, hz, RP.ret q rl (.str _)⟩)
    · exact q.elim
  · rename_i xs ys
    split at q
    · rename_i hz
      obtain ⟨l, vs, rfl, e1, l1⟩ := da.lookT rl rfl
      obtain ⟨m, ws, rfl, e2, l2⟩ := db.lookT rl rfl
      refine .inr (.inr (.inl ⟨l, m, vs, ws, rfl, rfl, e1, e2, by rw [l1.length, l2.length]; exact hz, fun hx => ?_, fun hx hy => ?_, fun hx hy p hp => ?_⟩))
      · have : xs = [] := by
          have := l1.length
          rw [hx] at this
          exact List.eq_nil_of_length_eq_zero this.symm
        rw [this, List.nil_append] at q
        exact RP.ret q rl db
      · have : ys = [] := by
          have := l2.length
          rw [hy] at this
          exact List.eq_nil_of_length_eq_zero this.symm
        rw [this, List.append_nil] at q
        exact RP.ret q rl da
      · have hL := l1.append l2
        exact RP.alloc q rl hp (.tup (SqT.of upd_same) (hL.mono (frz_sub (rl.free hp).1) fun _ _ z => z))
    · exact q.elim
  · exact .inr (.inr (.inr (catL_ok rl da db q)))
theorem subD_ok : OpD X cm (rI0 fun i j => .int (i - j)) subD := by
  intro W g H x y a b Q rl da db q
  unfold subD at q
  split at q
  · cases da
    cases db
    exact ⟨_, _, rfl, rfl, RP.ret q rl (.int _)⟩
  · exact q.elim
def rMuls : R2 := fun x y H Q => rI CMul (fun i j => .int (i * j)) x y H Q ∨ rI CMulW (fun i j => .int (i * j)) x y H Q ∨ rRep x y H Q
theorem op_muls : OpR X (binaryOp .Mult) rMuls := op_mul.or (op_mulW.or op_rep)
theorem mulD_ok : OpD X cm rMuls mulD := by
  intro W g H x y a b Q rl da db q
  unfold mulD at q
  split at q
  · cases da
    cases db
    split at q
    · rename_i c
      rcases c with c | c
      · exact .inl ⟨_, _, rfl, rfl, c, RP.ret q rl (.int _)⟩
      · exact .inr (.inl ⟨_, _, rfl, rfl, c, RP.ret q rl (.int _)⟩)
    · exact q.elim
  · cases db
    unfold repL at q
    split at q
    · rename_i xs h1
      split at q
      · rename_i hz
        obtain ⟨l, vs, rfl, e1, l1⟩ := da.lookM rl h1
        refine .inr (.inr ⟨l, _, vs, rfl, rfl, e1, hz.1, hz.2.1, by rw [l1.length]; exact hz.2.2, fun p hp => ?_⟩)
        have hL := l1.flat
        exact RP.alloc q rl hp (.lst upd_same ((l1.flat _).mono (frz_sub (rl.free hp).1) fun _ _ z => z))
      · exact q.elim
    · exact q.elim
  · exact q.elim
theorem fdivD_ok : OpD X cm (rI CDivW fun i j => .int (i / j)) fdivD := by
  intro W g H x y a b Q rl da db q
  unfold fdivD at q
  split at q
  · cases da
    cases db
    split at q
    · rename_i c
      exact ⟨_, _, rfl, rfl, c, RP.ret q rl (.int _)⟩
    · exact q.elim
  · exact q.elim
theorem modD_ok : OpD X cm (rI (fun _ j => 0 < j) fun i j => .int (i % j)) modD := by
  intro W g H x y a b Q rl da db q
  unfold modD at q
  split at q
  · cases da
    cases db
    split at q
    · rename_i c
      exact ⟨_, _, rfl, rfl, c, RP.ret q rl (.int _)⟩
    · exact q.elim
  · exact q.elim
theorem powD_ok : OpD X cm (rI CPow fun i j => .int (i ^ j.toNat)) powD := by
  intro W g H x y a b Q rl da db q
  unfold powD at q
  split at q
  · cases da
    cases db
    split at q
    · rename_i c
      exact ⟨_, _, rfl, rfl, c, RP.ret q rl (.int _)⟩
    · exact q.elim
  · exact q.elim
theorem eqPy_ok {g : G} {H : Hp} {x y : V} {a b : D} {c : Bool} (rl : Rel X.K cm g H) (da : Den X.K cm g x a) (db : Den X.K cm g y b) (e : eqPy g.S a b = some c) :
    ∃ p q, Dp X.K H x p ∧ Dp X.K H y q ∧ SeqAt.shaped p = true ∧ SeqAt.shaped q = true ∧ PyData.eqv p q = c := by
  unfold eqPy at e
  split at e
  · rename_i p q h1 h2
    split at e
    · rename_i hs
      exact ⟨p, q, da.py rl h1, db.py rl h2, hs.1, hs.2, Option.some.inj e⟩
    · cases e
  · cases e
theorem eqD_ok : OpD X cm (rEqD X.K) eqD := by
  intro W g H x y a b Q rl da db q
  unfold eqD at q
  split at q
  · rename_i c e
    obtain ⟨p, p', h1, h2, h3, h4, h5⟩ := eqPy_ok rl da db e
    exact ⟨p, p', h1, h2, h3, h4, by rw [h5]; exact RP.ret q rl (.bl _)⟩
  · exact q.elim
theorem neD_ok : OpD X cm (rNeD X.K) neD := by
  intro W g H x y a b Q rl da db q
  unfold neD at q
  split at q
  · rename_i c e
    obtain ⟨p, p', h1, h2, h3, h4, h5⟩ := eqPy_ok rl da db e
    exact ⟨p, p', h1, h2, h3, h4, by rw [h5]; exact RP.ret q rl (.bl _)⟩
  · exact q.elim
theorem ltD_ok : OpD X cm (rI0 fun i j => .bl (decide (i < j))) ltD := by
  intro W g H x y a b Q rl da db q
  unfold ltD at q
  split at q
  · cases da
    cases db
    exact ⟨_, _, rfl, rfl, RP.ret q rl (.bl _)⟩
  · exact q.elim
theorem leD_ok : OpD X cm (rI0 fun i j => .bl (decide (i ≤ j))) leD := by
  intro W g H x y a b Q rl da db q
  unfold leD at q
  split at q
  · cases da
    cases db
    exact ⟨_, _, rfl, rfl, RP.ret q rl (.bl _)⟩
  · exact q.elim
theorem gtD_ok : OpD X cm (rI0 fun i j => .bl (decide (j < i))) gtD := by
  intro W g H x y a b Q rl da db q
  unfold gtD at q
  split at q
  · cases da
    cases db
    exact ⟨_, _, rfl, rfl, RP.ret q rl (.bl _)⟩
  · exact q.elim
theorem geD_ok : OpD X cm (rI0 fun i j => .bl (decide (j ≤ i))) geD := by
  intro W g H x y a b Q rl da db q
  unfold geD at q
  split at q
  · cases da
    cases db
    exact ⟨_, _, rfl, rfl, RP.ret q rl (.bl _)⟩
  · exact q.elim
def rIss : R2 := fun x y H Q => (y = .non ∧ Q (.bl (decide (x = .non))) H) ∨ rIsB x y H Q
def rIsnots : R2 := fun x y H Q => (y = .non ∧ Q (.bl (!decide (x = .non))) H) ∨ rNotB x y H Q
theorem op_iss : OpR X (compareOp .Is) rIss := op_isN.or op_isBl
theorem op_isnots : OpR X (compareOp .IsNot) rIsnots := op_notN.or op_notBl
theorem isNon_ok {K : PySem.W.Frag} {g : G} {x : V} {a : D} (h : Den K cm g x a) : isNon a = decide (x = .non) := by cases h <;> rfl
theorem isD_ok : OpD X cm rIss isD := by
  intro W g H x y a b Q rl da db q
  unfold isD at q
  split at q
  · cases db
    exact .inl ⟨rfl, by rw [← isNon_ok da]; exact RP.ret q rl (.bl _)⟩
  · cases da
    cases db
    exact .inr ⟨_, _, rfl, rfl, RP.ret q rl (.bl _)⟩
  · exact q.elim
theorem isnotD_ok : OpD X cm rIsnots isnotD := by
  intro W g H x y a b Q rl da db q
  unfold isnotD at q
  split at q
  · cases db
    exact .inl ⟨rfl, by rw [← isNon_ok da]; exact RP.ret q rl (.bl _)⟩
  · cases da
    cases db
    exact .inr ⟨_, _, rfl, rfl, RP.ret q rl (.bl _)⟩
  · exact q.elim
end

/-! ### truth, and, or, not, if -/
def truD (S : Store) : D → Option Bool
  | .non => some false
  | .bl b => some b
  | .int i => some (i != 0)
  | .str x => if x.length ≤ sizeLine then some ((x.length : Int) != 0) else none
  | .tup xs => some (!xs.isEmpty)
  | .lst xs => some (!xs.isEmpty)
  | .scr xs => some (!xs.isEmpty)
  | .cel k => match S[k]? with
    | some (.lst xs) => some (!xs.isEmpty)
    | _ => none
  | .dic es => some (!es.isEmpty)
  | _ => none
theorem empty_eq {α β : Type} {a : List α} {b : List β} (h : a.length = b.length) : a.isEmpty = b.isEmpty := by
  cases a <;> cases b <;> first | rfl | cases h
theorem DenK.length {K : PySem.W.Frag} {cm : CM} {g : G} : ∀ {vs : List (Key × V)} {ds : List (Key × D)}, DenK K cm g vs ds → vs.length = ds.length
  | _, _, .nil => rfl
  | _, _, .cons _ t => congrArg Nat.succ t.length
theorem Den.tru {K : PySem.W.Frag} {cm : CM} {g : G} {H : Hp} {x : V} {a : D} {k : Bool} (rl : Rel K cm g H) (h : Den K cm g x a) (e : truD g.S a = some k) : TruV K x H k := by
  cases h with
  | non => cases e; rfl
  | bl b => cases e; rfl
  | int i => cases e; rfl
  | str z =>
    unfold truD at e
    simp only at e
    split at e
    · rename_i hz
      exact ⟨hz, (Option.some.inj e).symm⟩
    · cases e
  | lst s l =>
    cases e
    exact .inl ⟨_, SqL.of (rl.sub _ _ s), by rw [empty_eq l.length]⟩
  | scr s l =>
    cases e
    exact .inl ⟨_, SqL.sub rl.sub s, by rw [empty_eq l.length]⟩
  | tup s l =>
    cases e
    exact .inr (.inl ⟨_, SqT.sub rl.sub s, by rw [empty_eq l.length]⟩)
  | dic s l =>
    cases e
    exact .inr (.inr ⟨_, rl.sub _ _ s, by rw [empty_eq l.length]⟩)
  | @cel a j ha =>
    unfold truD at e
    simp only at e
    split at e
    · rename_i xs hk
      cases e
      obtain ⟨_, vs, e1, l⟩ := rl.cells j a _ ha hk rfl
      exact .inl ⟨vs, SqL.of e1, by rw [empty_eq l.length]⟩
    · cases e
  | ins => cases e
  | exc => cases e
  | ty => cases e
  | cls => cases e
  | clo => cases e
def truR (a : D) (S : Store) : R Bool := match truD S a with
  | some k => .ok k S
  | none => .bad
def sNot (fa : SE) : SE := fun ρ S => (fa ρ S).bind fun a S1 => (truR a S1).bind fun k S2 => .ok (.bl (!k)) S2
def sAnd (fa fb : SE) : SE := fun ρ S => (fa ρ S).bind fun a S1 => (truR a S1).bind fun k S2 => if k = true then fb ρ S2 else .ok a S2
def sOr (fa fb : SE) : SE := fun ρ S => (fa ρ S).bind fun a S1 => (truR a S1).bind fun k S2 => if k = true then .ok a S2 else fb ρ S2
def sIf (ft : ST) (fa fb : SE) : SE := fun ρ S => (ft ρ S).bind fun k S1 => if k = true then fa ρ S1 else fb ρ S1
def tTru (fa : SE) : ST := fun ρ S => (fa ρ S).bind truR
def tNotF (ft : ST) : ST := fun ρ S => (ft ρ S).bind fun k S1 => .ok (!k) S1
def tAndF (fa fb : ST) : ST := fun ρ S => (fa ρ S).bind fun k S1 => if k = true then fb ρ S1 else .ok false S1
def tOrF (fa fb : ST) : ST := fun ρ S => (fa ρ S).bind fun k S1 => if k = true then .ok true S1 else fb ρ S1
section
variable {X : Cx} {cm : CM} {W : WX} {e a b : Expr} {rest : List Expr} {pos : Pos} {fa fb : SE} {ta tb : ST}
theorem truR_some {a : D} {S : Store} {k : Bool} (e : truD S a = some k) : truR a S = .ok k S := by unfold truR; rw [e]
theorem RP.tru {K : PySem.W.Frag} {β γ : Type} {den : G → γ → β → Prop} {W : Value → Option Addr → Hp → Prop} {g : G} {H : Hp} {a : D} {f : Bool → Store → R β} {Q : γ → Hp → Prop} (h : RP K cm den W g H ((truR a g.S).bind f) Q) : ∃ k, truD g.S a = some k ∧ RP K cm den W g H (f k g.S) Q := by
  unfold truR at h
  cases e : truD g.S a with
  | none =>
    rw [e] at h
    exact h.elim
  | some k =>
    rw [e] at h
    exact ⟨k, rfl, h⟩
theorem ve_not (ha : VE X cm W a fa) : VE X cm W (.UnaryOp .Not a pos) (sNot fa) := by
  refine PE.imp (pe_notT ha) fun σ H Q ⟨g, ρ, rl, de, q⟩ => ⟨g, ρ, rl, de, RP.mono (RP.step q) fun x H1 ⟨d, g1, e1, rl1, dn, q1⟩ => ?_⟩
  obtain ⟨k, ek, q2⟩ := RP.tru q1
  exact ⟨k, dn.tru rl1 ek, RP.ret q2 rl1 (.bl _)⟩
theorem ve_one {op : BoolOp} (ha : VE X cm W a fa) : VE X cm W (.BoolOp op [a] pos) fa := pe_one ha
theorem ve_and (ha : VE X cm W a fa) (hb : VE X cm W (.BoolOp .And (b :: rest) pos) fb) : VE X cm W (.BoolOp .And (a :: b :: rest) pos) (sAnd fa fb) := by
  refine PE.imp (pe_andT ha hb) fun σ H Q ⟨g, ρ, rl, de, q⟩ => ⟨g, ρ, rl, de, RP.mono (RP.step q) fun x H1 ⟨d, g1, e1, rl1, dn, q1⟩ => ?_⟩
  obtain ⟨k, ek, q2⟩ := RP.tru q1
  refine ⟨k, dn.tru rl1 ek, ?_⟩
  cases k with
  | true => exact ⟨g1, ρ, rl1, e1.denE de, q2⟩
  | false => exact RP.ret q2 rl1 dn
theorem ve_or (ha : VE X cm W a fa) (hb : VE X cm W (.BoolOp .Or (b :: rest) pos) fb) : VE X cm W (.BoolOp .Or (a :: b :: rest) pos) (sOr fa fb) := by
  refine PE.imp (pe_orT ha hb) fun σ H Q ⟨g, ρ, rl, de, q⟩ => ⟨g, ρ, rl, de, RP.mono (RP.step q) fun x H1 ⟨d, g1, e1, rl1, dn, q1⟩ => ?_⟩
  obtain ⟨k, ek, q2⟩ := RP.tru q1
  refine ⟨k, dn.tru rl1 ek, ?_⟩
  cases k with
  | true => exact RP.ret q2 rl1 dn
  | false => exact ⟨g1, ρ, rl1, e1.denE de, q2⟩
theorem ve_if {c : Expr} {ft : ST} (hc : VT X cm W c ft) (ha : VE X cm W a fa) (hb : VE X cm W b fb) : VE X cm W (.IfExp c a b pos) (sIf ft fa fb) := by
  refine PE.imp (pe_ifExp hc ha hb) fun σ H Q ⟨g, ρ, rl, de, q⟩ => ⟨g, ρ, rl, de, RP.mono (RP.step q) fun x H1 ⟨d, g1, e1, rl1, dn, q1⟩ => ?_⟩
  cases (show x = d from dn)
  cases x with
  | true => exact ⟨g1, ρ, rl1, e1.denE de, q1⟩
  | false => exact ⟨g1, ρ, rl1, e1.denE de, q1⟩
/-- tests -/
theorem vt_tru (ha : VE X cm W a fa) (he : ∀ whole, isTrue a X.env whole = (do let v ← whole; standAt a.pos; holding [v] (truthy v)) := by intro _; rfl) : VT X cm W a (tTru fa) := by
  refine PT.imp (pt_truth ha he) fun σ H Q ⟨g, ρ, rl, de, q⟩ => ⟨g, ρ, rl, de, RP.mono (RP.step (f := truR) q) fun x H1 ⟨d, g1, e1, rl1, dn, q1⟩ => ?_⟩
  unfold truR at q1
  cases e : truD g1.S d with
  | none =>
    rw [e] at q1
    exact q1.elim
  | some k =>
    rw [e] at q1
    exact ⟨k, dn.tru rl1 e, RP.ret (v := k) q1 rl1 rfl⟩
theorem vt_cmp {op : CmpOp} {r : R2} {o : D → D → Store → R D} (ho : OpR X (compareOp op) r) (hd : OpD X cm r o) (hbl : ∀ a b S d S', o a b S = .ok d S' → ∃ k, d = .bl k) (ha : VE X cm W a fa) (hb : VE X cm W b fb) (hm : behindInMarks op b = false := by first | exact nomark _ | rfl) :
    VT X cm W (.Compare a [op] [b] pos) (tTru (sBin o fa fb)) := by
  refine PT.imp (pt_cmpR ho ha hb hm) fun σ H Q ⟨g, ρ, rl, de, q⟩ => ?_
  refine bin_step (W := W) (r := r) (o := o) hd (Q := fun x H' => ∃ k, x = V.bl k ∧ Q k H') ⟨g, ρ, rl, de, ?_⟩
  have q : RP X.K cm eqB (fun c d H' => W c d σ H') g H ((sBin o fa fb ρ g.S).bind truR) Q := q
  cases hr : sBin o fa fb ρ g.S with
  | ok d S' =>
    rw [hr] at q
    intro g' H' v ex rl' es' dn
    have hd : ∃ k, d = .bl k := by
      unfold sBin at hr
      cases h1 : fa ρ g.S with
      | ok a1 S1 =>
        rw [h1] at hr
        simp only [R.bind] at hr
        cases h2 : fb ρ S1 with
        | ok a2 S2 =>
          rw [h2] at hr
          exact hbl _ _ _ _ _ hr
        | exc x S2 => rw [h2] at hr; cases hr
        | bad => rw [h2] at hr; cases hr
      | exc x S2 => rw [h1] at hr; cases hr
      | bad => rw [h1] at hr; cases hr
    obtain ⟨k, rfl⟩ := hd
    cases dn
    exact ⟨k, rfl, q g' H' k ex rl' es' rfl⟩
  | exc x S' =>
    rw [hr] at q
    exact q
  | bad =>
    rw [hr] at q
    exact q
theorem vt_not (ha : VT X cm W a ta) : VT X cm W (.UnaryOp .Not a pos) (tNotF ta) := by
  refine PT.imp (pt_not ha) fun σ H Q ⟨g, ρ, rl, de, q⟩ => ⟨g, ρ, rl, de, RP.mono (RP.step q) fun x H1 ⟨d, g1, e1, rl1, dn, q1⟩ => ?_⟩
  cases (show x = d from dn)
  exact RP.ret (v := !x) q1 rl1 rfl
abbrev VW (X : Cx) (cm : CM) (W : WX) (e : Expr) (f : ST) : Prop := PW X e (tT X.K cm W f)
theorem PW.imp {X : Cx} {e : Expr} {t t' : TT} (h : PW X e t) (w : ∀ σ H Q, t' σ H Q → t σ H Q) : PW X e t' := ⟨fun wh pins s σ H Q I q => h.run wh pins s σ H Q I (w σ H Q q)⟩
theorem vw_and1 (ha : VT X cm W a ta) : VW X cm W (.BoolOp .And [a] pos) ta := pw_and1 ha
theorem vw_or1 (ha : VT X cm W a ta) : VW X cm W (.BoolOp .Or [a] pos) ta := pw_or1 ha
theorem vw_and (ha : VT X cm W a ta) (hb : VW X cm W (.BoolOp .And (b :: rest) pos) tb) : VW X cm W (.BoolOp .And (a :: b :: rest) pos) (tAndF ta tb) := by
  refine PW.imp (pw_and ha hb) fun σ H Q ⟨g, ρ, rl, de, q⟩ => ⟨g, ρ, rl, de, RP.mono (RP.step q) fun x H1 ⟨d, g1, e1, rl1, dn, q1⟩ => ?_⟩
  cases (show x = d from dn)
  cases x with
  | true => exact ⟨g1, ρ, rl1, e1.denE de, q1⟩
  | false => exact RP.ret (v := false) q1 rl1 rfl
theorem vw_or (ha : VT X cm W a ta) (hb : VW X cm W (.BoolOp .Or (b :: rest) pos) tb) : VW X cm W (.BoolOp .Or (a :: b :: rest) pos) (tOrF ta tb) := by
  refine PW.imp (pw_or ha hb) fun σ H Q ⟨g, ρ, rl, de, q⟩ => ⟨g, ρ, rl, de, RP.mono (RP.step q) fun x H1 ⟨d, g1, e1, rl1, dn, q1⟩ => ?_⟩
  cases (show x = d from dn)
  cases x with
  | true => exact RP.ret (v := true) q1 rl1 rfl
  | false => exact ⟨g1, ρ, rl1, e1.denE de, q1⟩
theorem vt_w (h : VW X cm W e ta) : VT X cm W e ta := PW.pt h
end
end VS
end
section
set_option Elab.async false
set_option linter.all false
set_option maxRecDepth 100000
/-! VS: targets, statements, what is walked -/
namespace VS
open PySem PySem.Spec PyProof.Rows L2

inductive RS where
  | nx (ρ : Env) (S : Store)
  | ret (d : D) (S : Store)
  | brk (ρ : Env) (S : Store)
  | cnt (ρ : Env) (S : Store)
  | exc (x : Ex) (ρ : Env) (S : Store)
  | bad
abbrev SS := Env → Store → RS
section
variable (K : PySem.W.Frag) (cm : CM) (W : WX)
def SPd (g : G) (H : Hp) (r : RS) (T : Ends) : Prop :=
  match r with
  | .nx ρ' S' => ∀ g' H' σ', Ext g H g' H' → Rel K cm g' H' → g'.S = S' → DenE K cm g' ρ' σ' → T.nx σ' H'
  | .ret d S' => ∀ g' H' v, Ext g H g' H' → Rel K cm g' H' → g'.S = S' → Den K cm g' v d → T.rt v H'
  | .brk ρ' S' => ∀ g' H' σ', Ext g H g' H' → Rel K cm g' H' → g'.S = S' → DenE K cm g' ρ' σ' → T.bk σ' H'
  | .cnt ρ' S' => ∀ g' H' σ', Ext g H g' H' → Rel K cm g' H' → g'.S = S' → DenE K cm g' ρ' σ' → T.ct σ' H'
  | .exc x ρ' S' => ∀ g' H' σ' cls dd, Ext g H g' H' → Rel K cm g' H' → g'.S = S' → DenE K cm g' ρ' σ' → ExcAt K cm H g' x cls dd H' → W cls dd σ' H'
  | .bad => False
def tS (f : SS) : TS := fun T σ H => ∃ g ρ, Rel K cm g H ∧ DenE K cm g ρ σ ∧ SPd K cm W g H (f ρ g.S) T
end
theorem PS.imp {X : Cx} {st : Stmt} {t t' : TS} (h : PS X st t) (w : ∀ T σ H, t' T σ H → t T σ H) : PS X st t' := ⟨fun pins s σ H T I q => h.run pins s σ H T I (w T σ H q)⟩
theorem PSs.imp {X : Cx} {st : List Stmt} {t t' : TS} (h : PSs X st t) (w : ∀ T σ H, t' T σ H → t T σ H) : PSs X st t' := ⟨fun pins s σ H T I q => h.run pins s σ H T I (w T σ H q)⟩
theorem PG.imp {X : Cx} {e : Expr} {t t' : TG} (h : PG X e t) (w : ∀ v σ H Q, t' v σ H Q → t v σ H Q) : PG X e t' := ⟨fun pins s σ H v u Q I r q => h.run pins s σ H v u Q I r (w v σ H Q q)⟩
theorem PGs.imp {X : Cx} {e : List Expr} {t t' : TGs} (h : PGs X e t) (w : ∀ v σ H Q, t' v σ H Q → t v σ H Q) : PGs X e t' := ⟨fun pins s σ H v u Q I r q => h.run pins s σ H v u Q I r (w v σ H Q q)⟩
abbrev VS1 (X : Cx) (cm : CM) (W : WX) (st : Stmt) (f : SS) : Prop := PS X st (tS X.K cm W f)
abbrev VSs (X : Cx) (cm : CM) (W : WX) (st : List Stmt) (f : SS) : Prop := PSs X st (tS X.K cm W f)

/-! ### from expressions to statements -/
def RS.of {α : Type} (ρ : Env) (r : R α) (f : α → Store → RS) : RS := match r with
  | .ok a S => f a S
  | .exc x S => .exc x ρ S
  | .bad => .bad
def RS.seq (r : RS) (f : Env → Store → RS) : RS := match r with
  | .nx ρ S => f ρ S
  | .ret d S => .ret d S
  | .brk ρ S => .brk ρ S
  | .cnt ρ S => .cnt ρ S
  | .exc x ρ S => .exc x ρ S
  | .bad => .bad
section
variable {K : PySem.W.Frag} {cm : CM} {W : WX}
theorem SPd.ext {g g1 : G} {H H1 : Hp} {r : RS} {T : Ends} (e : Ext g H g1 H1) (h : SPd K cm W g H r T) : SPd K cm W g1 H1 r T := by
  cases r with
  | nx ρ S => exact fun g' H' σ' e' => h g' H' σ' (e.trans e')
  | ret d S => exact fun g' H' v e' => h g' H' v (e.trans e')
  | brk ρ S => exact fun g' H' σ' e' => h g' H' σ' (e.trans e')
  | cnt ρ S => exact fun g' H' σ' e' => h g' H' σ' (e.trans e')
  | exc x ρ S => exact fun g' H' σ' cls dd e' rl es dn ⟨C, d, vs, a1, a2, a3, a4, a5⟩ => h g' H' σ' cls dd (e.trans e') rl es dn ⟨C, d, vs, a1, a2, a3, e.nn d a4, a5⟩
  | bad => exact h
theorem RP.ext {β γ : Type} {den : G → γ → β → Prop} {W' : Value → Option Addr → Hp → Prop} {g g1 : G} {H H1 : Hp} {r : R β} {Q : γ → Hp → Prop} (e : Ext g H g1 H1) (h : RP K cm den W' g H r Q) : RP K cm den W' g1 H1 r Q := by
  cases r with
  | ok d S => exact fun g' H' v e' => h g' H' v (e.trans e')
  | exc x S => exact fun g' H' cls dd e' rl es ⟨C, d, vs, a1, a2, a3, a4, a5⟩ => h g' H' cls dd (e.trans e') rl es ⟨C, d, vs, a1, a2, a3, e.nn d a4, a5⟩
  | bad => exact h
theorem SPd.of {α γ : Type} {den : G → γ → α → Prop} {g : G} {H : Hp} {ρ : Env} {σ : L2.St} {r : R α} {f : α → Store → RS} {T : Ends} (de : DenE K cm g ρ σ) (h : SPd K cm W g H (RS.of ρ r f) T) :
    RP K cm den (fun c d H' => W c d σ H') g H r fun v H1 => ∃ a g1, Ext g H g1 H1 ∧ Rel K cm g1 H1 ∧ den g1 v a ∧ DenE K cm g1 ρ σ ∧ SPd K cm W g1 H1 (f a g1.S) T := by
  cases r with
  | ok a S =>
    intro g1 H1 v e rl es dn
    refine ⟨a, g1, e, rl, dn, e.denE de, ?_⟩
    rw [es]
    exact SPd.ext e h
  | exc x S => exact fun g' H' cls dd e rl es xa => h g' H' σ cls dd e rl es (e.denE de) xa
  | bad => exact h
theorem SPd.seq {g : G} {H : Hp} {r : RS} {f : Env → Store → RS} {T : Ends} (h : SPd K cm W g H (r.seq f) T) : SPd K cm W g H r { T with nx := fun σ' H' => ∃ g' ρ', Rel K cm g' H' ∧ DenE K cm g' ρ' σ' ∧ SPd K cm W g' H' (f ρ' g'.S) T } := by
  cases r with
  | nx ρ S =>
    intro g' H' σ' e rl es de
    refine ⟨g', ρ, rl, de, ?_⟩
    rw [es]
    exact SPd.ext e h
  | ret d S => exact h
  | brk ρ S => exact h
  | cnt ρ S => exact h
  | exc x ρ S => exact h
  | bad => exact h
theorem SPd.nx {g : G} {H : Hp} {ρ : Env} {σ : L2.St} {T : Ends} (h : SPd K cm W g H (.nx ρ g.S) T) (rl : Rel K cm g H) (de : DenE K cm g ρ σ) : T.nx σ H := h g H σ (Ext.refl g H) rl rfl de
end

/-! ### targets -/
/-- a target: what it makes of the names and the store -/
abbrev SG := D → Env → Store → R Env
abbrev SGs := List D → Env → Store → R Env
section
variable (K : PySem.W.Frag) (cm : CM) (W : WX)
/-- the errors of a target: none are let out -/
def tG (f : SG) : TG := fun v σ H Q => ∃ g ρ d, Rel K cm g H ∧ DenE K cm g ρ σ ∧ Den K cm g v d ∧ RP K cm (fun g σ' ρ' => DenE K cm g ρ' σ') (fun c d H' => False) g H (f d ρ g.S) Q
def tGs (f : SGs) : TGs := fun v σ H Q => ∃ g ρ d, Rel K cm g H ∧ DenE K cm g ρ σ ∧ DenL K cm g v d ∧ RP K cm (fun g σ' ρ' => DenE K cm g ρ' σ') (fun c d H' => False) g H (f d ρ g.S) Q
end
abbrev VG (X : Cx) (cm : CM) (e : Expr) (f : SG) : Prop := PG X e (tG X.K cm f)
abbrev VGs (X : Cx) (cm : CM) (es : List Expr) (f : SGs) : Prop := PGs X es (tGs X.K cm f)
def gVar (i : Nat) : SG := fun d ρ S => .ok (ρ.set i (some d)) S
def gsNil : SGs := fun ds ρ S => match ds with
  | [] => .ok ρ S
  | _ => .bad
def gsCons (f : SG) (fs : SGs) : SGs := fun ds ρ S => match ds with
  | d :: ds => (f d ρ S).bind fun ρ1 S1 => fs ds ρ1 S1
  | [] => .bad
/-- a, b, .. = a tuple or a list of so many -/
def gSeq (n : Nat) (fs : SGs) : SG := fun d ρ S => match lookT d with
  | some ds => if ds.length = n then fs ds ρ S else .bad
  | none => match lookL S d with
    | some ds => if ds.length = n then fs ds ρ S else .bad
    | none => .bad
section
variable {X : Cx} {cm : CM} {W : WX} {e : Expr} {es : List Expr} {pos : Pos}
theorem vg_name {i : Nat} {x : Str} (h : PG X (.Name x pos) (gName i)) : VG X cm (.Name x pos) (gVar i) :=
  PG.imp h fun v σ H Q ⟨g, ρ, d, rl, de, dn, q⟩ => RP.ret q rl (de.set i dn)
theorem vgs_nil : VGs X cm [] gsNil := PGs.imp pgs_nil fun v σ H Q ⟨g, ρ, d, rl, de, dn, q⟩ => by
  unfold gsNil at q
  cases dn with
  | nil => exact ⟨rfl, RP.ret (v := σ) q rl de⟩
  | cons => exact q.elim
theorem vgs_cons {f : SG} {fs : SGs} (h1 : VG X cm e f) (h2 : VGs X cm es fs) (hs : (assignEach (e :: es) X.env).map (·.2) = assign e X.env :: (assignEach es X.env).map (·.2) := by rfl) : VGs X cm (e :: es) (gsCons f fs) :=
  PGs.imp (pgs_cons h1 h2 hs) fun v σ H Q ⟨g, ρ, d, rl, de, dn, q⟩ => by
    unfold gsCons at q
    cases dn with
    | nil => exact q.elim
    | cons hd tl =>
      refine ⟨_, _, rfl, g, ρ, _, rl, de, hd, RP.mono (RP.step q) fun σ1 H1 ⟨ρ1, g1, e1, rl1, de1, q1⟩ => ?_⟩
      exact ⟨g1, ρ1, _, rl1, de1, e1.denL tl, q1⟩
theorem PG.or {e : Expr} {t t' : TG} (h : PG X e t) (h' : PG X e t') : PG X e (fun v σ H Q => t v σ H Q ∨ t' v σ H Q) := ⟨fun pins s σ H v u Q I r q => by
  rcases q with q | q
  · exact h.run pins s σ H v u Q I r q
  · exact h'.run pins s σ H v u Q I r q⟩
theorem vg_seq {k n : Nat} {fs : SGs} (hc : X.calm = true) (h : VGs X cm es fs) (hn : (assignEach es X.env).length = n := by rfl) (hst : (assignEach es X.env).findIdx? (·.1) = none := by rfl) : VG X cm (.Tuple es k pos) (gSeq n fs) := by
  refine PG.imp (PG.or (pg_tup hc h hn hst) (pg_lst (k := k) hc h hn hst)) fun v σ H Q ⟨g, ρ, d, rl, de, dn, q⟩ => ?_
  unfold gSeq at q
  split at q
  · rename_i ds e1
    obtain ⟨a, vs, rfl, h1, h2⟩ := dn.lookT rl e1
    split at q
    · rename_i hl
      exact .inl ⟨a, vs, rfl, h1, by rw [h2.length]; exact hl, g, ρ, ds, rl, de, h2, q⟩
    · exact q.elim
  · split at q
    · rename_i ds e1
      obtain ⟨a, vs, rfl, h1, h2⟩ := dn.lookL rl e1
      split at q
      · rename_i hl
        exact .inr ⟨a, vs, rfl, h1, by rw [h2.length]; exact hl, g, ρ, ds, rl, de, h2, q⟩
      · exact q.elim
    · exact q.elim
end
def ixD (n : Nat) (i : Int) : Option Nat := ixN n i
/-- o[i] = .. : a cell's list -/
def setD (o i v : D) (S : Store) : R Unit := match o, i with
  | .cel k, .int j => match S[k]? with
    | some (.lst xs) => match ixN xs.length j with
      | some m => .ok () (S.set k (.lst (xs.set m v)))
      | none => .bad
    | _ => .bad
  | _, _ => .bad
def gSubD (fo fi : SE) : SG := fun v ρ S => (fo ρ S).bind fun o S1 => (fi ρ S1).bind fun i S2 => (setD o i v S2).bind fun _ S3 => .ok ρ S3
abbrev WF : WX := fun _ _ _ _ => False
section
variable {X : Cx} {cm : CM} {W : WX} {e o i : Expr} {es : List Expr} {pos : Pos}
theorem vg_sub {fo fi : SE} (ho : VE X cm WF o fo) (hi : VE X cm WF i fi)
    (ha : ∀ v, assign (.Subscript o i pos) X.env v = (do
      let ov ← holding [v] (eval o X.env)
      let iv ← holding [v, ov] (eval i X.env)
      standAt pos
      holding [v, ov, iv] (setItem ov iv v)
      release [v, ov, iv] []) := by intro _; rfl) : VG X cm (.Subscript o i pos) (gSubD fo fi) := by
  refine PG.imp (pg_sub ho hi set_list ha) fun v σ H Q ⟨g, ρ, d, rl, de, dn, q⟩ => ?_
  refine ⟨g, ρ, rl, de, RP.mono (RP.step q) fun x H1 ⟨ov, g1, e1, rl1, dn1, q1⟩ => ?_⟩
  refine ⟨g1, ρ, rl1, e1.denE de, RP.mono (RP.step q1) fun y H2 ⟨iv, g2, e2, rl2, dn2, q2⟩ => ?_⟩
  have dnv := e2.den (e1.den dn)
  have dno := e2.den dn1
  have hk : ∃ k j, ov = .cel k ∧ iv = .int j := by
    cases ov <;> cases iv <;> first | exact q2.elim | exact ⟨_, _, rfl, rfl⟩
  obtain ⟨k, j, rfl, rfl⟩ := hk
  unfold setD at q2
  simp only at q2
  cases dn2
  cases hk : g2.S[k]? with
  | none =>
    simp only [hk] at q2
    exact q2.elim
  | some c =>
    cases c with
    | lst xs =>
      simp only [hk] at q2
      cases hm : ixN xs.length j with
      | none =>
        simp only [hm] at q2
        exact q2.elim
      | some m =>
        simp only [hm] at q2
        cases dno with
        | @cel a _ ha =>
          obtain ⟨_, vs, e3, l⟩ := rl2.cells k a _ ha hk rfl
          refine ⟨a, vs, j, m, rfl, rfl, e3, by rw [l.length]; exact hm, ?_⟩
          have ok : CellOk X.K cm g2 (upd H2 a (.lst (vs.set m v))) a (.lst (xs.set m d)) := ⟨_, upd_same, DenL.set dnv m l⟩
          have ex := Ext.put (H := H2) (o := .lst (vs.set m v)) (c := .lst (xs.set m d)) ha hk rfl ⟨_, e3, fun _ z => nomatch z⟩
          exact q2 (g2.put k _) _ σ ex (rl2.put ha hk rfl ok) rfl (ex.denE (e2.denE (e1.denE de)))
    | _ =>
      simp only [hk] at q2
      exact q2.elim
end

/-! ### statements -/
def sSkip : SS := fun ρ S => .nx ρ S
def sSeq (f fs : SS) : SS := fun ρ S => (f ρ S).seq fs
def sExpr (f : SE) : SS := fun ρ S => RS.of ρ (f ρ S) fun _ S1 => .nx ρ S1
def sRet (f : SE) : SS := fun ρ S => RS.of ρ (f ρ S) fun d S1 => .ret d S1
def sAsg (f : SE) (gt : SG) : SS := fun ρ S => RS.of ρ (f ρ S) fun d S1 => match gt d ρ S1 with
  | .ok ρ2 S2 => .nx ρ2 S2
  | _ => .bad
def sIte (t : ST) (f h : SS) : SS := fun ρ S => RS.of ρ (t ρ S) fun k S1 => if k = true then f ρ S1 else h ρ S1
section
variable {X : Cx} {cm : CM} {W : WX} {e c : Expr} {st : Stmt} {rest a b : List Stmt} {pos : Pos} {fe : SE} {f fs : SS}
theorem vss_nil : VSs X cm W [] sSkip := PSs.imp pss_nil fun T σ H ⟨g, ρ, rl, de, q⟩ => SPd.nx q rl de
theorem vss_cons (h1 : VS1 X cm W st f) (h2 : VSs X cm W rest fs) : VSs X cm W (st :: rest) (sSeq f fs) :=
  PSs.imp (pss_cons h1 h2) fun T σ H ⟨g, ρ, rl, de, q⟩ => ⟨g, ρ, rl, de, SPd.seq q⟩
theorem vss_one (h1 : VS1 X cm W st f) : VSs X cm W [st] f := pss_one h1
theorem vs_pass : VS1 X cm W (.Pass pos) sSkip := PS.imp ps_pass fun T σ H ⟨g, ρ, rl, de, q⟩ => SPd.nx q rl de
theorem vs_break : VS1 X cm W (.Break pos) (fun ρ S => .brk ρ S) := PS.imp ps_break fun T σ H ⟨g, ρ, rl, de, q⟩ => q g H σ (Ext.refl g H) rl rfl de
theorem vs_cont : VS1 X cm W (.Continue pos) (fun ρ S => .cnt ρ S) := PS.imp ps_continue fun T σ H ⟨g, ρ, rl, de, q⟩ => q g H σ (Ext.refl g H) rl rfl de
theorem vs_expr (he : VE X cm W e fe) (hs : swapsWith e none pos.line X.env = pure false := by rfl) : VS1 X cm W (.Expr e pos) (sExpr fe) :=
  PS.imp (ps_expr he hs) fun T σ H ⟨g, ρ, rl, de, q⟩ => ⟨g, ρ, rl, de, RP.mono (SPd.of de q) fun x H1 ⟨d, g1, e1, rl1, dn, de1, q1⟩ => SPd.nx q1 rl1 de1⟩
theorem vs_ret (he : VE X cm W e fe) : VS1 X cm W (.Return (some e) pos) (sRet fe) :=
  PS.imp (ps_ret he) fun T σ H ⟨g, ρ, rl, de, q⟩ => ⟨g, ρ, rl, de, RP.mono (SPd.of de q) fun x H1 ⟨d, g1, e1, rl1, dn, de1, q1⟩ => q1 g1 H1 x (Ext.refl _ _) rl1 rfl dn⟩
theorem vs_retN : VS1 X cm W (.Return none pos) (fun ρ S => .ret .non S) :=
  PS.imp ps_retN fun T σ H ⟨g, ρ, rl, de, q⟩ => q g H .non (Ext.refl _ _) rl rfl .non
theorem vs_if {t : ST} (hc : VT X cm W c t) (ha : VSs X cm W a f) (hb : VSs X cm W b fs) : VS1 X cm W (.If c a b pos) (sIte t f fs) := by
  refine PS.imp (ps_if hc ha hb) fun T σ H ⟨g, ρ, rl, de, q⟩ => ⟨g, ρ, rl, de, RP.mono (SPd.of de q) fun x H1 ⟨d, g1, e1, rl1, dn, de1, q1⟩ => ?_⟩
  cases (show x = d from dn)
  cases x with
  | true => exact ⟨g1, ρ, rl1, de1, q1⟩
  | false => exact ⟨g1, ρ, rl1, de1, q1⟩
theorem asg_step {gt : SG} {T : Ends} {σ : L2.St} {H : Hp} (q : tS X.K cm W (sAsg fe gt) T σ H) : tAsg (tE X.K cm W fe) (tG X.K cm gt) T σ H := by
  obtain ⟨g, ρ, rl, de, q⟩ := q
  refine ⟨g, ρ, rl, de, RP.mono (SPd.of de q) fun x H1 ⟨d, g1, e1, rl1, dn, de1, q1⟩ => ⟨g1, ρ, d, rl1, de1, dn, ?_⟩⟩
  cases hg : gt d ρ g1.S with
  | ok ρ2 S2 =>
    rw [hg] at q1
    exact fun g' H' σ' e rl es dn => q1 g' H' σ' e rl es dn
  | exc x S =>
    rw [hg] at q1
    exact q1.elim
  | bad =>
    rw [hg] at q1
    exact q1.elim
theorem vs_asg {tg : Expr} {gt : SG} (he : VE X cm W e fe) (hg : VG X cm tg gt) (hs : swapsWithSole [tg] e pos.line X.env = pure false := by rfl) (hw : swappedStores [tg] e X.env = pure none := by rfl)
    (h1 : (assignEach [tg] X.env).map (·.2) = [assign tg X.env] := by rfl) : VS1 X cm W (.Assign [tg] e pos) (sAsg fe gt) := PS.imp (ps_asg he hg hs hw h1) fun T σ H q => asg_step q
theorem vs_set {i : Nat} {x : Str} {pos' : Pos} (hN : X.N.Nodup) (hi : X.N[i]? = some x) (hx : Loc X.env.scope x) (he : VE X cm W e fe) (hs : swapsWith e (some (.Name x pos')) pos.line X.env = pure false := by rfl) (hf : X.fn x = true ∨ X.env.scope.names.lookup x = some .local := by first | exact .inl rfl | exact .inr rfl | assumption) :
    VS1 X cm W (.Assign [.Name x pos'] e pos) (sAsg fe (gVar i)) :=
  PS.imp (ps_set hN hi hx he hs hf) fun T σ H q => by
    obtain ⟨g, ρ, rl, de, q⟩ := q
    refine ⟨g, ρ, rl, de, RP.mono (SPd.of de q) fun v H1 ⟨d, g1, e1, rl1, dn, de1, q1⟩ => ?_⟩
    exact q1 g1 H1 _ (Ext.refl _ _) rl1 rfl (de1.set i dn)
/-- a, b = e1, e2 -/
def sPar (i j : Nat) (fa : SA) : SS := fun ρ S => RS.of ρ (fa ρ S) fun ds S1 => match ds with
  | [d, d'] => .nx ((ρ.set i (some d)).set j (some d')) S1
  | _ => .bad
theorem vs_par {i j : Nat} {x y : Str} {a b : Expr} {fa : SA} {px py pt : Pos} {kt k2 pt2} (hc : X.calm = true) (hN : X.N.Nodup) (hi : X.N[i]? = some x) (hj : X.N[j]? = some y) (hij : i ≠ j)
    (hx : X.env.scope.names.lookup x = some .local) (hy : X.env.scope.names.lookup y = some .local) (ha : VA X cm W [a, b] fa)
    (hw : swappedStores [.Tuple [.Name x px, .Name y py] kt pt] (.Tuple [a, b] k2 pt2) X.env = pure (some [x, y]) := by rfl)
    (hs : swapsWithSole [.Tuple [.Name x px, .Name y py] kt pt] (.Tuple [a, b] k2 pt2) pos.line X.env = pure false := by rfl) :
    VS1 X cm W (.Assign [.Tuple [.Name x px, .Name y py] kt pt] (.Tuple [a, b] k2 pt2) pos) (sPar i j fa) := by
  refine PS.imp (ps_par hc hN hi hj hij hx hy ha hw hs) fun T σ H ⟨g, ρ, rl, de, q⟩ => ⟨g, ρ, rl, de, RP.mono (SPd.of de q) fun vs H1 ⟨ds, g1, e1, rl1, dn, de1, q1⟩ => ?_⟩
  split at q1
  · rename_i d d'
    cases dn with
    | cons h1 t =>
      cases t with
      | cons h2 t =>
        cases t
        exact ⟨_, _, rfl, q1 g1 H1 _ (Ext.refl _ _) rl1 rfl ((de1.set i h1).set j h2)⟩
  · exact q1.elim
end
end VS
end
section
set_option Elab.async false
set_option linter.all false
set_option maxRecDepth 100000
/-! VS: what is walked, for, while, comprehensions, defs -/
namespace VS
open PySem PySem.Spec PyProof.Rows L2

/-- a thing that is walked -/
inductive Src where
  /-- a list as it stands at each turn -/
  | seq (d : D)
  | tup (ds : List D)
  | rng (lo : Int) (n : Nat)
  | str (x : Str)
  /-- pairs of two lists, of two tuples; with the index ahead -/
  | zipL (a b : D)
  | zipT (xs ys : List D)
  | enum (d : D)
/-- the i-th pair of two lists -/
def pairAt (xs ys : List D) (i : Nat) : Option D := match xs[i]?, ys[i]? with
  | some x, some y => some (.tup [x, y])
  | _, _ => none
/-- at a turn: nothing that is told; the end; an item -/
def Src.at (S : Store) (i : Nat) : Src → Option (Option D)
  | .seq d => (lookL S d).map fun xs => xs[i]?
  | .tup xs => some xs[i]?
  | .rng lo n => some (if i < n then some (.int (lo + i)) else none)
  | .str x => some (match x.cps[i]? with
    | some c => some (.str ⟨#[c]⟩)
    | none => none)
  | .zipL a b => (lookL S a).bind fun xs => (lookL S b).map fun ys => pairAt xs ys i
  | .zipT xs ys => some (pairAt xs ys i)
  | .enum d => (lookL S d).map fun xs => xs[i]?.map fun x => .tup [.int i, x]
/-- so many turns at most, as things stand -/
def Src.len (S : Store) : Src → Nat
  | .seq d => (lookL S d).elim 0 List.length
  | .tup xs => xs.length
  | .rng _ n => n
  | .str x => x.cps.size
  | .zipL a _ => (lookL S a).elim 0 List.length
  | .zipT xs _ => xs.length
  | .enum d => (lookL S d).elim 0 List.length

/-- the iterator does as the source says, in each later world -/
structure SrcOk (K : PySem.W.Frag) (cm : CM) (g : G) (H : Hp) (J : It) (src : Src) : Prop where
  go : ∀ g' H' i d, Ext g H g' H' → Rel K cm g' H' → src.at g'.S i = some (some d) → J.go i H'
  yld : ∀ g' H' i d x H'', Ext g H g' H' → Rel K cm g' H' → src.at g'.S i = some (some d) → J.yld i H' x H'' → ∃ g'', Ext g' H' g'' H'' ∧ Rel K cm g'' H'' ∧ g''.S = g'.S ∧ Den K cm g'' x d
  stop : ∀ g' H' i, Ext g H g' H' → Rel K cm g' H' → src.at g'.S i = some none → J.stop i H'

abbrev SI := Env → Store → R Src
section
variable (K : PySem.W.Frag) (cm : CM) (W : WX)
def IP (W : Value → Option Addr → Hp → Prop) (g : G) (H : Hp) (r : R Src) (Q : It → Hp → Prop) : Prop :=
  match r with
  | .ok src S' => ∀ g' H' J, Ext g H g' H' → Rel K cm g' H' → g'.S = S' → SrcOk K cm g' H' J src → Q J H'
  | .exc x S' => ∀ g' H' cls dd, Ext g H g' H' → Rel K cm g' H' → g'.S = S' → ExcAt K cm H g' x cls dd H' → W cls dd H'
  | .bad => False
def tI (f : SI) : TI := fun σ H Q => ∃ g ρ, Rel K cm g H ∧ DenE K cm g ρ σ ∧ IP K cm (fun c d H' => W c d σ H') g H (f ρ g.S) Q
end
theorem PI.imp {X : Cx} {tg e : Expr} {t t' : TI} (h : PI X tg e t) (w : ∀ σ H Q, t' σ H Q → t σ H Q) : PI X tg e t' := ⟨fun pins s σ H Q I q => h.run pins s σ H Q I (w σ H Q q)⟩
abbrev VI (X : Cx) (cm : CM) (W : WX) (tg e : Expr) (f : SI) : Prop := PI X tg e (tI X.K cm W f)

section
variable {X : Cx} {cm : CM} {W : WX} {tg e : Expr}
/-- a value that may be a list or a tuple, walked -/
def iAny (K : PySem.W.Frag) (te : TE) : TI := fun σ H Q => te σ H fun x H1 => ∃ a, x = .ref a ∧ ((∃ xs, SqL K H1 a xs) ∧ Q (Itl K a) H1 ∨ (∃ xs, SqT K H1 a xs) ∧ Q (Itt K a) H1)
theorem pi_any {te : TE} (he : PE X e te) : PI X tg e (iAny X.K te) := by
  refine ⟨fun pins s σ H Q I h => thn (he.run pins s σ H _ I h) fun v s1 ⟨x, H1, I1, r1, a, ea, q⟩ => ?_⟩
  subst ea
  cases r1
  have hk : ∀ (o : Obj) b u, s1.heap.get? b = some u → (s1.heap.push o).get? b = some u := fun o b u z => Heap.get?_push_of_some _ z
  have hf : ∀ (o : Obj), FpOk X pins H1 s1.heap.objs.size := fun _ => I1.fpOk (Nat.le_refl _) (I1.hok.fresh (Nat.le_refl _))
  rcases q with ⟨⟨xs, hx⟩, q⟩ | ⟨⟨xs, hx⟩, q⟩
  · obtain ⟨its, rv, p, hz⟩ := I1.list hx
    refine wpAny_pyIter_list p.isList ⟨s1.heap.objs.size, [s1.heap.objs.size], _, _, H1, rfl, I1.kept (t' := s1.toks) (hk _), turn_list a _, ⟨_, Heap.get?_push_size _ rfl, rfl, rfl⟩, fun b hb => ?_, q⟩
    cases List.mem_singleton.mp hb
    exact hf { cls := .none, data := .fields #[] }
  · obtain ⟨its, rv, p, hz⟩ := I1.tuple hx
    refine wpAny_pyIter_tuple (show s1.heap.IsTuple a its.toArray from p) ⟨s1.heap.objs.size, [s1.heap.objs.size], _, _, H1, rfl, I1.kept (t' := s1.toks) (hk _), turn_tuple a _, ⟨_, Heap.get?_push_size _ rfl, rfl, rfl⟩, fun b hb => ?_, q⟩
    cases List.mem_singleton.mp hb
    exact hf { cls := .none, data := .fields #[] }
theorem src_seq {K : PySem.W.Frag} {g : G} {H : Hp} {a : Addr} {d : D} (dn : Den K cm g (.ref a) d) : SrcOk K cm g H (Itl K a) (.seq d) where
  go := fun g' H' i d' e rl h => by
    obtain ⟨xs, hx, h⟩ := Option.map_eq_some_iff.mp (show (lookL g'.S d).map (fun xs => xs[i]?) = some (some d') from h)
    obtain ⟨b, vs, eb, h1, h2⟩ := (e.den dn).lookL rl hx
    cases eb
    obtain ⟨v, hv, _⟩ := h2.get h
    exact ⟨vs, v, h1, hv⟩
  yld := fun g' H' i d' x H'' e rl h y => by
    obtain ⟨xs, hx, h⟩ := Option.map_eq_some_iff.mp (show (lookL g'.S d).map (fun xs => xs[i]?) = some (some d') from h)
    obtain ⟨b, vs, eb, h1, h2⟩ := (e.den dn).lookL rl hx
    cases eb
    obtain ⟨v, hv, dv⟩ := h2.get h
    obtain ⟨e1, y⟩ := y
    subst e1
    have := y vs h1
    rw [hv] at this
    cases this
    exact ⟨g', Ext.refl _ _, rl, rfl, dv⟩
  stop := fun g' H' i e rl h => by
    obtain ⟨xs, hx, h⟩ := Option.map_eq_some_iff.mp (show (lookL g'.S d).map (fun xs => xs[i]?) = some none from h)
    obtain ⟨b, vs, eb, h1, h2⟩ := (e.den dn).lookL rl hx
    cases eb
    refine ⟨vs, h1, ?_⟩
    rw [h2.length]
    exact List.getElem?_eq_none_iff.mp h
theorem src_tup {K : PySem.W.Frag} {g : G} {H : Hp} {a : Addr} {vs : List V} {ds : List D} (hs : SqT K g.F a vs) (dl : DenL K cm g vs ds) : SrcOk K cm g H (Itt K a) (.tup ds) where
  go := fun g' H' i d' e rl h => by
    obtain ⟨v, hv, _⟩ := dl.get (Option.some.inj h)
    exact ⟨vs, v, SqT.sub (fun b o z => rl.sub b o (e.fz b o z)) hs, hv⟩
  yld := fun g' H' i d' x H'' e rl h y => by
    obtain ⟨v, hv, dv⟩ := dl.get (Option.some.inj h)
    obtain ⟨e1, y⟩ := y
    subst e1
    have := y vs (SqT.sub (fun b o z => rl.sub b o (e.fz b o z)) hs)
    rw [hv] at this
    cases this
    exact ⟨g', Ext.refl _ _, rl, rfl, e.den dv⟩
  stop := fun g' H' i e rl h => by
    refine ⟨vs, SqT.sub (fun b o z => rl.sub b o (e.fz b o z)) hs, ?_⟩
    rw [dl.length]
    exact List.getElem?_eq_none_iff.mp (Option.some.inj h)
theorem src_rng {K : PySem.W.Frag} {g : G} {H : Hp} {lo : Int} {n : Nat} : SrcOk K cm g H (Itr lo n) (.rng lo n) where
  go := fun g' H' i d' e rl h => by
    have h := Option.some.inj h
    split at h
    · assumption
    · cases h
  yld := fun g' H' i d' x H'' e rl h y => by
    have h := Option.some.inj h
    split at h
    · cases h
      obtain ⟨e1, e2⟩ := y
      subst e1
      subst e2
      exact ⟨g', Ext.refl _ _, rl, rfl, .int _⟩
    · cases h
  stop := fun g' H' i e rl h => by
    have h := Option.some.inj h
    split at h
    · cases h
    · rename_i z
      exact Nat.le_of_not_lt z
/-- e walked: a list or a tuple -/
def iOver (fe : SE) : SI := fun ρ S => (fe ρ S).bind fun d S1 => match lookT d with
  | some ds => .ok (.tup ds) S1
  | none => match lookL S1 d with
    | some _ => .ok (.seq d) S1
    | none => .bad
theorem vi_over {fe : SE} (he : VE X cm W e fe) : VI X cm W tg e (iOver fe) := by
  refine PI.imp (pi_any he) fun σ H Q ⟨g, ρ, rl, de, q⟩ => ⟨g, ρ, rl, de, ?_⟩
  unfold iOver at q
  cases hf : fe ρ g.S with
  | ok d S' =>
    rw [hf] at q
    intro g' H' v ex rl' es' dn
    simp only [R.bind] at q
    split at q
    · rename_i ds hd
      cases dn with
      | @tup a vs ds' hs dl =>
        cases hd
        exact ⟨a, rfl, .inr ⟨⟨vs, SqT.sub rl'.sub hs⟩, q g' H' _ ex rl' es' (src_tup hs dl)⟩⟩
      | _ => cases hd
    · split at q
      · rename_i xs hx
        rw [← es'] at hx
        obtain ⟨a, vs, rfl, h1, h2⟩ := dn.lookL rl' hx
        exact ⟨a, rfl, .inl ⟨⟨vs, h1⟩, q g' H' _ ex rl' es' (src_seq dn)⟩⟩
      · exact q.elim
  | exc x S' =>
    rw [hf] at q
    exact q
  | bad =>
    rw [hf] at q
    exact q
/-- range(n), range(a, b) -/
def iRange1 (fa : SA) : SI := fun ρ S => (fa ρ S).bind fun ds S1 => match ds with
  | [.int j] => if -(2 ^ 62) ≤ j ∧ j < 2 ^ 62 then .ok (.rng 0 j.toNat) S1 else .bad
  | _ => .bad
def iRange2 (fa : SA) : SI := fun ρ S => (fa ρ S).bind fun ds S1 => match ds with
  | [.int i, .int j] => if -(2 ^ 62) ≤ i ∧ i < 2 ^ 62 ∧ -(2 ^ 62) ≤ j ∧ j < 2 ^ 62 then .ok (.rng i (j - i).toNat) S1 else .bad
  | _ => .bad
theorem vi_range1 {a : Expr} {fa : SA} {p pos : Pos} (hg : Gl X "range") (hm : X.mg "range" = none) (ha : VA X cm W [a] fa) (hs : starEach [a] X.env = [(false, eval a X.env)] := by rfl) : VI X cm W tg (.Call (.Name "range" p) [a] [] pos) (iRange1 fa) := by
  refine PI.imp (pi_range1 hg hm ha hs) fun σ H Q ⟨g, ρ, rl, de, q⟩ => ⟨g, ρ, rl, de, ?_⟩
  unfold iRange1 at q
  cases hf : fa ρ g.S with
  | ok ds S' =>
    rw [hf] at q
    intro g' H' vs ex rl' es' dn
    simp only [R.bind] at q
    split at q
    · split at q
      · rename_i hb
        cases dn with
        | cons h1 t =>
          cases t
          cases h1
          exact ⟨_, rfl, hb.1, hb.2, q g' H' _ ex rl' es' src_rng⟩
      · exact q.elim
    · exact q.elim
  | exc x S' =>
    rw [hf] at q
    exact q
  | bad =>
    rw [hf] at q
    exact q
theorem vi_range2 {a b : Expr} {fa : SA} {p pos : Pos} (hg : Gl X "range") (hm : X.mg "range" = none) (ha : VA X cm W [a, b] fa) (hs : starEach [a, b] X.env = [(false, eval a X.env), (false, eval b X.env)] := by rfl) (hs2 : starEach [b] X.env = [(false, eval b X.env)] := by rfl) :
    VI X cm W tg (.Call (.Name "range" p) [a, b] [] pos) (iRange2 fa) := by
  refine PI.imp (pi_range2 hg hm ha hs hs2) fun σ H Q ⟨g, ρ, rl, de, q⟩ => ⟨g, ρ, rl, de, ?_⟩
  unfold iRange2 at q
  cases hf : fa ρ g.S with
  | ok ds S' =>
    rw [hf] at q
    intro g' H' vs ex rl' es' dn
    simp only [R.bind] at q
    split at q
    · split at q
      · rename_i hb
        cases dn with
        | cons h1 t =>
          cases t with
          | cons h2 t =>
            cases t
            cases h1
            cases h2
            exact ⟨_, _, rfl, hb, q g' H' _ ex rl' es' src_rng⟩
      · exact q.elim
    · exact q.elim
  | exc x S' =>
    rw [hf] at q
    exact q
  | bad =>
    rw [hf] at q
    exact q
end

/-! ### for -/
def forS (src : Src) (gt : SG) (body : SS) : Nat → Nat → Env → Store → RS
  | 0, _, _, _ => .bad
  | m + 1, i, ρ, S => match src.at S i with
    | none => .bad
    | some none => .nx ρ S
    | some (some d) => match gt d ρ S with
      | .ok ρ1 S1 => match body ρ1 S1 with
        | .nx ρ2 S2 => forS src gt body m (i + 1) ρ2 S2
        | .cnt ρ2 S2 => forS src gt body m (i + 1) ρ2 S2
        | .brk ρ2 S2 => .nx ρ2 S2
        | r => r
      | _ => .bad
def sFor (fi : SI) (gt : SG) (body : SS) : SS := fun ρ S => RS.of ρ (fi ρ S) fun src S1 => forS src gt body (src.len S1 + 1) 0 ρ S1
section
variable {X : Cx} {cm : CM} {W : WX} {tg iter : Expr} {body : List Stmt} {pos : Pos} {fi : SI} {gt : SG} {fb : SS}
theorem vs_for (hp : PassesOwn (model X.prog X.w) X.A X.env X.xe) (hc : X.calm = true) (hi : VI X cm W tg iter fi) (hg : VG X cm tg gt) (hb : VSs X cm W body fb) (hs : ∀ x, foldedSetIterable iter X.env x = pure x := by intro _; rfl) :
    VS1 X cm W (.For tg iter body [] pos) (sFor fi gt fb) := by
  refine PS.imp (ps_for hp hc hi hg hb hs) fun T σ H ⟨g, ρ, rl, de, q⟩ => ⟨g, ρ, rl, de, ?_⟩
  unfold sFor at q
  cases hf : fi ρ g.S with
  | ok src S' =>
    rw [hf] at q
    intro g1 H1 J ex rl1 es1 sok
    have q1 : SPd X.K cm W g1 H1 (forS src gt fb (src.len g1.S + 1) 0 ρ g1.S) T := by
      rw [es1]
      exact SPd.ext ex q
    refine ⟨fun i m σ' H' => ∃ g' ρ', Ext g1 H1 g' H' ∧ Rel X.K cm g' H' ∧ DenE X.K cm g' ρ' σ' ∧ SPd X.K cm W g' H' (forS src gt fb m i ρ' g'.S) T, ⟨_, g1, ρ, Ext.refl _ _, rl1, ex.denE de, q1⟩, ?_⟩
    rintro i m σ' H' ⟨g', ρ', e', rl', de', q'⟩
    cases m with
    | zero => exact q'.elim
    | succ m =>
      unfold forS at q'
      cases ha : src.at g'.S i with
      | none =>
        simp only [ha] at q'
        exact q'.elim
      | some o =>
        cases o with
        | none =>
          simp only [ha] at q'
          exact .inl ⟨sok.stop g' H' i e' rl' ha, SPd.nx q' rl' de'⟩
        | some d =>
          simp only [ha] at q'
          refine .inr ⟨sok.go g' H' i d e' rl' ha, fun σ2 H2 => ∃ g2 ρ2, Ext g1 H1 g2 H2 ∧ Rel X.K cm g2 H2 ∧ DenE X.K cm g2 ρ2 σ2 ∧ SPd X.K cm W g2 H2 (forS src gt fb m (i + 1) ρ2 g2.S) T, fun σ2 H2 hN => ⟨m, Nat.lt_succ_self m, hN⟩, fun x H'' y => ?_⟩
          obtain ⟨g2, e2, rl2, es2, dx⟩ := sok.yld g' H' i d x H'' e' rl' ha y
          refine ⟨g2, ρ', d, rl2, e2.denE de', dx, ?_⟩
          rw [← es2] at q'
          cases hg2 : gt d ρ' g2.S with
          | ok ρ3 S3 =>
            simp only [hg2] at q'
            intro g3 H3 σ3 e3 rl3 es3 de3
            refine ⟨g3, ρ3, rl3, de3, ?_⟩
            rw [es3]
            have E := (e'.trans e2).trans e3
            have E2 := e2.trans e3
            cases hb3 : fb ρ3 S3 with
            | nx ρ4 S4 =>
              simp only [hb3] at q'
              intro g4 H4 σ4 e4 rl4 es4 de4
              refine ⟨g4, ρ4, E.trans e4, rl4, de4, ?_⟩
              rw [es4]
              exact SPd.ext (E2.trans e4) q'
            | cnt ρ4 S4 =>
              simp only [hb3] at q'
              intro g4 H4 σ4 e4 rl4 es4 de4
              refine ⟨g4, ρ4, E.trans e4, rl4, de4, ?_⟩
              rw [es4]
              exact SPd.ext (E2.trans e4) q'
            | brk ρ4 S4 =>
              simp only [hb3] at q'
              exact fun g4 H4 σ4 e4 rl4 es4 de4 => q' g4 H4 σ4 (E2.trans e4) rl4 es4 de4
            | ret v S4 =>
              simp only [hb3] at q'
              exact fun g4 H4 σ4 e4 rl4 es4 de4 => q' g4 H4 σ4 (E2.trans e4) rl4 es4 de4
            | exc x ρ4 S4 =>
              simp only [hb3] at q'
              have q'' : SPd X.K cm W g' H' (.exc x ρ4 S4) T := q'
              exact SPd.ext E2 q''
            | bad =>
              simp only [hb3] at q'
              exact q'.elim
          | exc x S3 =>
            simp only [hg2] at q'
            exact q'.elim
          | bad =>
            simp only [hg2] at q'
            exact q'.elim
  | exc x S' =>
    rw [hf] at q
    exact fun g' H' cls dd e rl' es xa => q g' H' σ cls dd e rl' es (e.denE de) xa
  | bad =>
    rw [hf] at q
    exact q
end

/-! ### while: as many turns as are told, at most -/
def whileS (ft : ST) (body : SS) : Nat → Env → Store → RS
  | 0, _, _ => .bad
  | m + 1, ρ, S => match ft ρ S with
    | .ok false S1 => .nx ρ S1
    | .ok true S1 => match body ρ S1 with
      | .nx ρ2 S2 => whileS ft body m ρ2 S2
      | .cnt ρ2 S2 => whileS ft body m ρ2 S2
      | .brk ρ2 S2 => .nx ρ2 S2
      | r => r
    | .exc x S1 => .exc x ρ S1
    | .bad => .bad
/-- more turns that may be taken give nothing else -/
theorem whileS_more {ft : ST} {body : SS} : ∀ {m n : Nat} {ρ : Env} {S : Store}, m ≤ n → whileS ft body m ρ S ≠ .bad → whileS ft body n ρ S = whileS ft body m ρ S
  | 0, _, _, _, _, h => absurd rfl h
  | m + 1, 0, _, _, h, _ => by omega
  | m + 1, n + 1, ρ, S, hl, h => by
    unfold whileS at h ⊢
    split
    · rfl
    · rename_i S1 e1
      simp only [e1] at h
      split
      · rename_i ρ2 S2 e2
        simp only [e2] at h
        exact whileS_more (Nat.le_of_succ_le_succ hl) h
      · rename_i ρ2 S2 e2
        simp only [e2] at h
        exact whileS_more (Nat.le_of_succ_le_succ hl) h
      · rfl
      · rfl
    · rfl
    · rfl
open Classical in
/-- a while: what so many turns give, if they are enough -/
noncomputable def sWhile (ft : ST) (body : SS) : SS := fun ρ S => if h : ∃ m, whileS ft body m ρ S ≠ .bad then whileS ft body h.choose ρ S else .bad
theorem sWhile_eq {ft : ST} {body : SS} {ρ : Env} {S : Store} (m : Nat) (h : whileS ft body m ρ S ≠ .bad) : sWhile ft body ρ S = whileS ft body m ρ S := by
  have hx : ∃ m, whileS ft body m ρ S ≠ .bad := ⟨m, h⟩
  unfold sWhile
  rw [dif_pos hx]
  have h2 := hx.choose_spec
  rcases Nat.le_total m hx.choose with z | z
  · exact whileS_more z h
  · exact (whileS_more z h2).symm
section
variable {X : Cx} {cm : CM} {W : WX} {c : Expr} {body : List Stmt} {pos : Pos} {ft : ST} {fb : SS}
theorem vs_while (hp : PassesOwn (model X.prog X.w) X.A X.env X.xe) (hc : VT X cm W c ft) (hb : VSs X cm W body fb) : VS1 X cm W (.While c body [] pos) (sWhile ft fb) := by
  refine PS.imp (ps_while hp hc hb) fun T σ H ⟨g, ρ, rl, de, q⟩ => ?_
  have q0 : ∃ m, SPd X.K cm W g H (whileS ft fb m ρ g.S) T := by
    unfold sWhile at q
    split at q
    · exact ⟨_, q⟩
    · exact q.elim
  obtain ⟨m0, q0⟩ := q0
  refine ⟨fun m σ' H' => ∃ g' ρ', Rel X.K cm g' H' ∧ DenE X.K cm g' ρ' σ' ∧ SPd X.K cm W g' H' (whileS ft fb m ρ' g'.S) T, ⟨m0, g, ρ, rl, de, q0⟩, ?_⟩
  rintro m σ' H' ⟨g', ρ', rl', de', q'⟩
  cases m with
  | zero => exact q'.elim
  | succ m =>
    unfold whileS at q'
    refine ⟨g', ρ', rl', de', ?_⟩
    cases ht : ft ρ' g'.S with
    | ok k S1 =>
      intro g1 H1 b e1 rl1 es1 eb
      obtain rfl : b = k := eb
      cases b with
      | false =>
        simp only [ht] at q'
        rw [if_neg Bool.false_ne_true]
        exact q' g1 H1 σ' e1 rl1 es1 (e1.denE de')
      | true =>
        simp only [ht] at q'
        rw [if_pos rfl]
        refine ⟨fun σ2 H2 => ∃ g2 ρ2, Rel X.K cm g2 H2 ∧ DenE X.K cm g2 ρ2 σ2 ∧ SPd X.K cm W g2 H2 (whileS ft fb m ρ2 g2.S) T, fun σ2 H2 hN => ⟨m, Nat.lt_succ_self m, hN⟩, g1, ρ', rl1, e1.denE de', ?_⟩
        rw [es1]
        cases hb3 : fb ρ' S1 with
        | nx ρ4 S4 =>
          simp only [hb3] at q'
          intro g4 H4 σ4 e4 rl4 es4 de4
          refine ⟨g4, ρ4, rl4, de4, ?_⟩
          rw [es4]
          exact SPd.ext (e1.trans e4) q'
        | cnt ρ4 S4 =>
          simp only [hb3] at q'
          intro g4 H4 σ4 e4 rl4 es4 de4
          refine ⟨g4, ρ4, rl4, de4, ?_⟩
          rw [es4]
          exact SPd.ext (e1.trans e4) q'
        | brk ρ4 S4 =>
          simp only [hb3] at q'
          exact fun g4 H4 σ4 e4 rl4 es4 de4 => q' g4 H4 σ4 (e1.trans e4) rl4 es4 de4
        | ret v S4 =>
          simp only [hb3] at q'
          exact fun g4 H4 σ4 e4 rl4 es4 de4 => q' g4 H4 σ4 (e1.trans e4) rl4 es4 de4
        | exc x ρ4 S4 =>
          simp only [hb3] at q'
          have q'' : SPd X.K cm W g' H' (.exc x ρ4 S4) T := q'
          exact SPd.ext e1 q''
        | bad =>
          simp only [hb3] at q'
          exact q'.elim
    | exc x S1 =>
      simp only [ht] at q'
      exact fun g1 H1 cls dd e rl1 es xa => q' g1 H1 σ' cls dd e rl1 es (e.denE de') xa
    | bad =>
      simp only [ht] at q'
      exact q'.elim
end
end VS
end
section
set_option Elab.async false
set_option linter.all false
set_option maxRecDepth 100000
/-! VS: comprehensions, zip; defs and their calls -/
namespace VS
open PySem PySem.Spec PyProof.Rows L2

theorem Ext.other {g g' : G} {H H' : Hp} {p : Addr} {o : HO} (e : Ext g H g' H') (h : H p = none) : Ext g H g' (upd H' p o) where
  tb := fun a ps z => by
    obtain ⟨ps', z'⟩ := e.tb a ps z
    exact ⟨ps', by rw [upd_ne (ne_of_none z h)]; exact z'⟩
  fz := e.fz
  al := e.al
  keep := fun a u z hl ht => by
    rw [upd_ne (ne_of_none z h)]
    exact e.keep a u z hl ht
  newF := e.newF
  newL := e.newL
  nn := fun a z => by
    by_cases ha : a = p
    · subst ha
      exact h
    · rw [upd_ne ha] at z
      exact e.nn a z
theorem Rel.other {K : PySem.W.Frag} {cm : CM} {g : G} {H : Hp} {p : Addr} {o : HO} (rl : Rel K cm g H) (h1 : g.F p = none) (h2 : ¬ Live g p) {xs : List V} (h3 : H p = some (.lst xs)) : Rel K cm g (upd H p o) := by
  refine ⟨rl.len, fun a u e => ?_, fun k a c e1 e2 e3 => ?_, rl.inj, tabs_put rl.tabs (fun ps z => by rw [h3] at z; cases z) fun q z => by rw [h3] at z; exact codeO_lst (Option.some.inj z), rl.nt⟩
  · rw [upd_ne (ne_of_none e h1)]
    exact rl.sub a u e
  · obtain ⟨n, ok⟩ := rl.cells k a c e1 e2 e3
    have hne : a ≠ p := fun z => h2 ⟨k, c, by rw [← z]; exact e1, e2, e3⟩
    exact ⟨n, CellOk.mono (g := g) (fun _ _ z => z) (fun _ _ z => z) (upd_ne hne) ok⟩
theorem Ext.notF {g g' : G} {H H' : Hp} {p : Addr} (e : Ext g H g' H') (h1 : g.F p = none) (h2 : ¬ Live g p) {xs : List V} (h3 : H p = some (.lst xs)) : g'.F p = none := by
  cases q : g'.F p with
  | none => rfl
  | some o =>
    rcases e.newF p o q with z | z | z | ⟨y, z⟩
    · rw [h1] at z
      cases z
    · rw [h3] at z
      cases z
    · exact absurd z h2
    · rw [h3] at z
      exact absurd (Option.some.inj z) codeO_lst
theorem Ext.notL {g g' : G} {H H' : Hp} {p : Addr} (e : Ext g H g' H') (h2 : ¬ Live g p) (h3 : H p ≠ none) : ¬ Live g' p := fun z => by
  rcases e.newL p z with y | y
  · exact h2 y
  · exact h3 y

/-! ### comprehensions -/
def wipeE (ρ : Env) : List Nat → Env
  | [] => ρ
  | v :: vs => (wipeE ρ vs).set v none
theorem DenE.wipe {K : PySem.W.Frag} {cm : CM} {g : G} {ρ : Env} {σ : L2.St} (h : DenE K cm g ρ σ) : ∀ vs : List Nat, DenE K cm g (wipeE ρ vs) (L2.wipe σ vs)
  | [] => h
  | v :: vs => (DenE.wipe h vs).unset v none
theorem wipe_set (σ : L2.St) (i : Nat) (o : Option V) : ∀ vs : List Nat, L2.wipe (σ.set i o) vs = if i ∈ vs then L2.wipe σ vs else (L2.wipe σ vs).set i o
  | [] => by simp [L2.wipe]
  | v :: vs => by
    show (L2.wipe (σ.set i o) vs).set v none = if i ∈ v :: vs then (L2.wipe σ vs).set v none else ((L2.wipe σ vs).set v none).set i o
    rw [wipe_set σ i o vs]
    by_cases h : i ∈ vs
    · rw [if_pos h, if_pos (List.mem_cons_of_mem _ h)]
    · rw [if_neg h]
      by_cases e : i = v
      · subst e
        rw [if_pos (by simp), List.set_set]
      · rw [if_neg (by simp [e, h]), List.set_comm _ _ e]
theorem wipe_in {σ : L2.St} {i : Nat} {o : Option V} {vs : List Nat} (h : i ∈ vs) : L2.wipe (σ.set i o) vs = L2.wipe σ vs := by rw [wipe_set, if_pos h]
theorem wipe_wipe (σ : L2.St) (vs : List Nat) : ∀ ws : List Nat, (∀ w ∈ ws, w ∈ vs) → L2.wipe (L2.wipe σ ws) vs = L2.wipe σ vs
  | [], _ => rfl
  | w :: ws, h => by
    show L2.wipe ((L2.wipe σ ws).set w none) vs = _
    rw [wipe_in (h w (by simp)), wipe_wipe σ vs ws fun x hx => h x (List.mem_cons_of_mem _ hx)]
/-- a target that stores within the slots vs alone -/
def tGO (K : PySem.W.Frag) (cm : CM) (vs : List Nat) (f : SG) : TG := fun v σ H Q => ∃ g ρ d, Rel K cm g H ∧ DenE K cm g ρ σ ∧ Den K cm g v d ∧ RP K cm (fun g σ' ρ' => DenE K cm g ρ' σ') (fun c d H' => False) g H (f d ρ g.S) fun σ' H' => L2.wipe σ' vs = L2.wipe σ vs → Q σ' H'
def tGOs (K : PySem.W.Frag) (cm : CM) (vs : List Nat) (f : SGs) : TGs := fun v σ H Q => ∃ g ρ d, Rel K cm g H ∧ DenE K cm g ρ σ ∧ DenL K cm g v d ∧ RP K cm (fun g σ' ρ' => DenE K cm g ρ' σ') (fun c d H' => False) g H (f d ρ g.S) fun σ' H' => L2.wipe σ' vs = L2.wipe σ vs → Q σ' H'
abbrev VGO (X : Cx) (cm : CM) (vs : List Nat) (e : Expr) (f : SG) : Prop := PG X e (tGO X.K cm vs f)
abbrev VGOs (X : Cx) (cm : CM) (vs : List Nat) (es : List Expr) (f : SGs) : Prop := PGs X es (tGOs X.K cm vs f)
section
variable {X : Cx} {cm : CM} {W : WX} {e : Expr} {es : List Expr} {pos : Pos} {vs : List Nat}
theorem vgo_name {i : Nat} {x : Str} (hi : i ∈ vs) (h : PG X (.Name x pos) (gName i)) : VGO X cm vs (.Name x pos) (gVar i) :=
  PG.imp h fun v σ H Q ⟨g, ρ, d, rl, de, dn, q⟩ => RP.ret q rl (de.set i dn) (wipe_in hi)
theorem vgos_nil : VGOs X cm vs [] gsNil := PGs.imp pgs_nil fun v σ H Q ⟨g, ρ, d, rl, de, dn, q⟩ => by
  unfold gsNil at q
  cases dn with
  | nil => exact ⟨rfl, RP.ret (v := σ) q rl de rfl⟩
  | cons => exact q.elim
theorem vgos_cons {f : SG} {fs : SGs} (h1 : VGO X cm vs e f) (h2 : VGOs X cm vs es fs) (hs : (assignEach (e :: es) X.env).map (·.2) = assign e X.env :: (assignEach es X.env).map (·.2) := by rfl) : VGOs X cm vs (e :: es) (gsCons f fs) :=
  PGs.imp (pgs_cons h1 h2 hs) fun v σ H Q ⟨g, ρ, d, rl, de, dn, q⟩ => by
    unfold gsCons at q
    cases dn with
    | nil => exact q.elim
    | cons hd tl =>
      refine ⟨_, _, rfl, g, ρ, _, rl, de, hd, RP.mono (RP.step q) fun σ1 H1 ⟨ρ1, g1, e1, rl1, de1, q1⟩ w1 => ?_⟩
      exact ⟨g1, ρ1, _, rl1, de1, e1.denL tl, RP.mono q1 fun σ2 H2 h w2 => h (w2.trans w1)⟩
theorem vgo_seq {k n : Nat} {fs : SGs} (hc : X.calm = true) (h : VGOs X cm vs es fs) (hn : (assignEach es X.env).length = n := by rfl) (hst : (assignEach es X.env).findIdx? (·.1) = none := by rfl) : VGO X cm vs (.Tuple es k pos) (gSeq n fs) := by
  refine PG.imp (PG.or (pg_tup hc h hn hst) (pg_lst (k := k) hc h hn hst)) fun v σ H Q ⟨g, ρ, d, rl, de, dn, q⟩ => ?_
  unfold gSeq at q
  split at q
  · rename_i ds e1
    obtain ⟨a, vs, rfl, h1, h2⟩ := dn.lookT rl e1
    split at q
    · rename_i hl
      exact .inl ⟨a, vs, rfl, h1, by rw [h2.length]; exact hl, g, ρ, ds, rl, de, h2, q⟩
    · exact q.elim
  · split at q
    · rename_i ds e1
      obtain ⟨a, vs, rfl, h1, h2⟩ := dn.lookL rl e1
      split at q
      · rename_i hl
        exact .inr ⟨a, vs, rfl, h1, by rw [h2.length]; exact hl, g, ρ, ds, rl, de, h2, q⟩
      · exact q.elim
    · exact q.elim
end
def lcS (src : Src) (gt : SG) (tt : ST) (te : SE) (vs : List Nat) (ρ : Env) : Nat → Nat → List D → Store → R (List D)
  | 0, _, _, _ => .bad
  | m + 1, i, acc, S => match src.at S i with
    | none => .bad
    | some none => .ok acc S
    | some (some d) => match gt d (wipeE ρ vs) S with
      | .ok ρ1 S1 => match tt ρ1 S1 with
        | .ok true S2 => match te ρ1 S2 with
          | .ok y S3 => if acc.length < sizeLine then lcS src gt tt te vs ρ m (i + 1) (acc ++ [y]) S3 else .bad
          | _ => .bad
        | .ok false S2 => lcS src gt tt te vs ρ m (i + 1) acc S2
        | _ => .bad
      | _ => .bad
def fLc (fi : SI) (gt : SG) (tt : ST) (te : SE) (vs : List Nat) : SF := fun ρ S => (fi ρ S).bind fun src S1 => lcS src gt tt te vs ρ (src.len S1 + 1) 0 [] S1
/-- the tests of a comprehension -/
def tAll : ST := fun _ S => .ok true S
abbrev VTs (X : Cx) (cm : CM) (ifs : List Expr) (f : ST) : Prop := PTs X ifs (tT X.K cm WF f)
theorem PTs.imp {X : Cx} {e : List Expr} {t t' : TT} (h : PTs X e t) (w : ∀ σ H Q, t' σ H Q → t σ H Q) : PTs X e t' := ⟨fun pins s σ H Q I q => h.run pins s σ H Q I (w σ H Q q)⟩
section
variable {X : Cx} {cm : CM} {W : WX}
theorem vts_nil : VTs X cm [] tAll := PTs.imp pts_nil fun σ H Q ⟨g, ρ, rl, de, q⟩ => RP.ret (v := true) q rl rfl
theorem vts_one {c : Expr} {t : ST} (h : VT X cm WF c t) : VTs X cm [c] t := pts_one h
theorem fr_lc {K : PySem.W.Frag} {fi : SI} {gt : SG} {tt : ST} {te : SE} {vs : List Nat} {σ : L2.St} {H : Hp} {Q : VK} (q : tFr K cm W (fLc fi gt tt te vs) σ H Q) :
    tLc (tI K cm W fi) (tGO K cm vs gt) (tT K cm WF tt) (tE K cm WF te) vs σ H Q := by
  obtain ⟨g, ρ, rl, de, q⟩ := q
  refine ⟨g, ρ, rl, de, ?_⟩
  unfold fLc at q
  cases hf : fi ρ g.S with
  | ok src S' =>
    rw [hf] at q
    intro g1 H1 J ex rl1 es1 sok D hD
    obtain ⟨f1, f2⟩ := rl1.free hD
    have q1 : FP K cm (fun c d H' => W c d σ H') g H (lcS src gt tt te vs ρ (src.len g1.S + 1) 0 [] g1.S) Q := by
      rw [es1]
      exact q
    refine ⟨fun i m H' => ∃ g' accV acc, Ext g1 H1 g' H' ∧ Rel K cm g' H' ∧ H' D = some (.lst accV) ∧ DenL K cm g' accV acc ∧ g'.F D = none ∧ ¬ Live g' D ∧ FP K cm (fun c d H' => W c d σ H') g H (lcS src gt tt te vs ρ m i acc g'.S) Q,
      ⟨_, g1, [], [], Ext.laid hD, rl1.laid hD, upd_same, .nil, f1, f2, q1⟩, ?_⟩
    rintro i m H' ⟨g', accV, acc, e', rl', hd', dl', n1, n2, q'⟩
    have hD' : H' D ≠ none := by rw [hd']; simp
    cases m with
    | zero => exact q'.elim
    | succ m =>
      unfold lcS at q'
      cases ha : src.at g'.S i with
      | none =>
        simp only [ha] at q'
        exact q'.elim
      | some o =>
        cases o with
        | none =>
          simp only [ha] at q'
          exact .inl ⟨sok.stop g' H' i e' rl' ha, q' g' H' D accV (ex.trans e') rl' rfl dl' (ex.nn D hD) n1 n2 hd'⟩
        | some d =>
          simp only [ha] at q'
          refine .inr ⟨sok.go g' H' i d e' rl' ha, fun H2 => ∃ g2 accV2 acc2, Ext g1 H1 g2 H2 ∧ Rel K cm g2 H2 ∧ H2 D = some (.lst accV2) ∧ DenL K cm g2 accV2 acc2 ∧ g2.F D = none ∧ ¬ Live g2 D ∧ FP K cm (fun c d H' => W c d σ H') g H (lcS src gt tt te vs ρ m (i + 1) acc2 g2.S) Q, fun H2 hN => ⟨m, Nat.lt_succ_self m, hN⟩, fun x H'' y => ?_⟩
          obtain ⟨g2, e2, rl2, es2, dx⟩ := sok.yld g' H' i d x H'' e' rl' ha y
          refine ⟨g2, wipeE ρ vs, d, rl2, (DenE.wipe ((ex.trans e').denE de) vs |> e2.denE), dx, ?_⟩
          rw [← es2] at q'
          cases hg2 : gt d (wipeE ρ vs) g2.S with
          | ok ρ3 S3 =>
            simp only [hg2] at q'
            intro g3 H3 σ3 e3 rl3 es3 de3 w3
            have w3' : L2.wipe σ3 vs = L2.wipe σ vs := w3.trans (wipe_wipe σ vs vs fun _ h => h)
            refine ⟨w3', g3, ρ3, rl3, de3, ?_⟩
            rw [es3]
            have E3 := e2.trans e3
            cases ht3 : tt ρ3 S3 with
            | ok b S4 =>
              intro g4 H4 b' e4 rl4 es4 eb
              obtain rfl : b' = b := eb
              have E4 := E3.trans e4
              cases b' with
              | true =>
                simp only [ht3] at q'
                rw [if_pos rfl]
                refine ⟨g4, ρ3, rl4, e4.denE de3, ?_⟩
                rw [es4]
                cases he4 : te ρ3 S4 with
                | ok z S5 =>
                  simp only [he4] at q'
                  intro g5 H5 v5 e5 rl5 es5 dv5
                  have E5 := E4.trans e5
                  have hd5 : H5 D = some (.lst accV) := E5.keep D _ hd' n2 (fun _ z => nomatch z)
                  split at q'
                  · rename_i hz
                    have n15 := E5.notF n1 n2 hd'
                    have n25 := E5.notL n2 hD'
                    refine ⟨accV, hd5, by rw [dl'.length]; exact hz, g5, accV ++ [v5], acc ++ [z], (e'.trans E5).other hD, rl5.other n15 n25 hd5, upd_same, (E5.denL dl').append (.cons dv5 .nil), n15, n25, ?_⟩
                    rw [es5]
                    exact q'
                  · exact q'.elim
                | exc x S5 =>
                  simp only [he4] at q'
                  exact q'.elim
                | bad =>
                  simp only [he4] at q'
                  exact q'.elim
              | false =>
                simp only [ht3] at q'
                rw [if_neg Bool.false_ne_true]
                refine ⟨g4, accV, acc, e'.trans E4, rl4, E4.keep D _ hd' n2 (fun _ z => nomatch z), E4.denL dl', E4.notF n1 n2 hd', E4.notL n2 hD', ?_⟩
                rw [es4]
                exact q'
            | exc x S4 =>
              simp only [ht3] at q'
              exact q'.elim
            | bad =>
              simp only [ht3] at q'
              exact q'.elim
          | exc x S3 =>
            simp only [hg2] at q'
            exact q'.elim
          | bad =>
            simp only [hg2] at q'
            exact q'.elim
  | exc x S' =>
    rw [hf] at q
    exact q
  | bad =>
    rw [hf] at q
    exact q
theorem imm_fr {K : PySem.W.Frag} {f : SF} {σ : L2.St} {H : Hp} {Q : VK} (q : tE K cm W (immF f) σ H Q) : tFr K cm W f σ H Q := by
  obtain ⟨g, ρ, rl, de, q⟩ := q
  refine ⟨g, ρ, rl, de, ?_⟩
  unfold immF at q
  cases hf : f ρ g.S with
  | ok ds S' =>
    rw [hf] at q
    intro g' H' p vs ex rl' es' dl h0 hF hL hp
    exact q (g'.frz p (.lst vs)) H' (.ref p) (ex.frz h0 hF) (rl'.frz hF hL hp) es' (.lst upd_same (dl.mono (frz_sub hF) fun _ _ z => z))
  | exc x S' =>
    rw [hf] at q
    exact q
  | bad =>
    rw [hf] at q
    exact q
theorem mut_fr {K : PySem.W.Frag} {f : SF} {σ : L2.St} {H : Hp} {Q : VK} (q : tE K cm W (mutF f) σ H Q) : tFr K cm W f σ H Q := by
  obtain ⟨g, ρ, rl, de, q⟩ := q
  refine ⟨g, ρ, rl, de, ?_⟩
  unfold mutF at q
  cases hf : f ρ g.S with
  | ok ds S' =>
    rw [hf] at q
    intro g' H' p vs ex rl' es' dl h0 hF hL hp
    refine q (g'.cell p (.lst ds)) H' (.ref p) (ex.cell rl'.len h0) (rl'.cell hF hL ⟨vs, hp, dl⟩) (by show g'.S ++ [_] = _; rw [es']) (.cel ?_)
    show (g'.α ++ [p])[S'.length]? = some p
    rw [← es', ← rl'.len, List.getElem?_append_right (Nat.le_refl _)]
    simp
  | exc x S' =>
    rw [hf] at q
    exact q
  | bad =>
    rw [hf] at q
    exact q
variable {elt tg iter : Expr} {ifs : List Expr} {scope : Scope} {own : List (Str × Nat)} {pos : Pos} {fi : SI} {gt : SG} {tt : ST} {te : SE}
/-- a comprehension's block, wherever it stands -/
abbrev Blk (X : Cx) (scope : Scope) (P : Cx → Prop) : Prop := ∀ (s : Shared) (H : Hp) (C : Addr) (cl : List (Str × Addr)) (fp : List Addr), P (X.blk s H scope (compEnvC scope cl C X.env) fp)
theorem vf_lc (hc : X.calm = true) (hN : X.N.Nodup) (hi : VI X cm W tg iter fi) (ok : blkC X.N X.env.scope scope own = true) (hg : Blk X scope fun Y => VGO Y cm (own.map (·.2)) tg gt) (ht : Blk X scope fun Y => VTs Y cm ifs tt) (he : Blk X scope fun Y => VE Y cm WF elt te)
    (hs : ∀ x, foldedSetIterable iter X.env x = pure x := by intro _; rfl) : VF X cm W (.ListComp elt [⟨tg, iter, ifs, 0⟩] scope pos) (fLc fi gt tt te (own.map (·.2))) :=
  PE.imp (pe_lc hc hN hi (blkOk_by ok) hg ht he hs) fun σ H Q q => fr_lc q
theorem asg_lc {K : PySem.W.Frag} {f : SE} {i : Nat} {T : Ends} {σ : L2.St} {H : Hp} (q : tS K cm W (sAsg f (gVar i)) T σ H) : tE K cm W f σ H fun x H1 => gName i x σ H1 T.nx := by
  obtain ⟨g, ρ, rl, de, q⟩ := q
  exact ⟨g, ρ, rl, de, RP.mono (SPd.of de q) fun v H1 ⟨d, g1, e1, rl1, dn, de1, q1⟩ => q1 g1 H1 _ (Ext.refl _ _) rl1 rfl (de1.set i dn)⟩
theorem vs_setLc {i : Nat} {y : Str} {py spos : Pos} (hc : X.calm = true) (hN : X.N.Nodup) (hy : X.N[i]? = some y) (hyl : X.env.scope.names.lookup y = some .local) (hsw : swapsWith (.ListComp elt [⟨tg, iter, ifs, 0⟩] scope pos) (some (.Name y py)) spos.line X.env = pure true)
    (hi : VI X cm W tg iter fi) (ok : blkC X.N X.env.scope scope own = true) (hg : Blk X scope fun Y => VGO Y cm (own.map (·.2)) tg gt) (ht : Blk X scope fun Y => VTs Y cm ifs tt) (he : Blk X scope fun Y => VE Y cm WF elt te) (hs : ∀ x, foldedSetIterable iter X.env x = pure x := by intro _; rfl) :
    VS1 X cm W (.Assign [.Name y py] (.ListComp elt [⟨tg, iter, ifs, 0⟩] scope pos) spos) (sAsg (immF (fLc fi gt tt te (own.map (·.2)))) (gVar i)) :=
  PS.imp (ps_setLc hc hN hy hyl hsw hi (blkOk_by ok) hg ht he hs) fun T σ H q => fr_lc (imm_fr (asg_lc q))
theorem vs_setLcM {i : Nat} {y : Str} {py spos : Pos} (hc : X.calm = true) (hN : X.N.Nodup) (hy : X.N[i]? = some y) (hyl : X.env.scope.names.lookup y = some .local) (hsw : swapsWith (.ListComp elt [⟨tg, iter, ifs, 0⟩] scope pos) (some (.Name y py)) spos.line X.env = pure true)
    (hi : VI X cm W tg iter fi) (ok : blkC X.N X.env.scope scope own = true) (hg : Blk X scope fun Y => VGO Y cm (own.map (·.2)) tg gt) (ht : Blk X scope fun Y => VTs Y cm ifs tt) (he : Blk X scope fun Y => VE Y cm WF elt te) (hs : ∀ x, foldedSetIterable iter X.env x = pure x := by intro _; rfl) :
    VS1 X cm W (.Assign [.Name y py] (.ListComp elt [⟨tg, iter, ifs, 0⟩] scope pos) spos) (sAsg (mutF (fLc fi gt tt te (own.map (·.2)))) (gVar i)) :=
  PS.imp (ps_setLc hc hN hy hyl hsw hi (blkOk_by ok) hg ht he hs) fun T σ H q => fr_lc (mut_fr (asg_lc q))
end
end VS
end
section
set_option Elab.async false
set_option linter.all false
set_option maxRecDepth 100000
/-! VS: items, slices, built-in calls, methods, zip -/
namespace VS
open PySem PySem.Spec PyProof.Rows L2

/-! ### items -/
def ixL (xs : List D) (i : Int) (S : Store) : R D := match atI xs i with
  | some d => .ok d S
  | none => .bad
def ixStr (x : Str) (i : Int) (S : Store) : R D := if x.length ≤ sizeLine then match atI x.cps.toList i with
    | some c => .ok (.str ⟨#[c]⟩) S
    | none => .bad
  else .bad
def ixGet (a b : D) (S : Store) : R D := match b with
  | .int i => match lookT a with
    | some xs => ixL xs i S
    | none => match lookL S a with
      | some xs => ixL xs i S
      | none => match a with
        | .str x => ixStr x i S
        | _ => .bad
  | _ => .bad
theorem atI_den {K : PySem.W.Frag} {cm : CM} {g : G} {vs : List V} {ds : List D} {i : Int} {d : D} (l : DenL K cm g vs ds) (h : atI ds i = some d) : ∃ v, atI vs i = some v ∧ Den K cm g v d := by
  unfold atI at h ⊢
  obtain ⟨j, h1, h2⟩ := Option.bind_eq_some_iff.mp h
  obtain ⟨v, h3, h4⟩ := l.get h2
  exact ⟨v, Option.bind_eq_some_iff.mpr ⟨j, by rw [l.length]; exact h1, h3⟩, h4⟩
section
variable {X : Cx} {cm : CM} {W : WX} {a b e : Expr} {es : List Expr} {pos : Pos} {fa fb : SE}
theorem ixGet_ok : OpD X cm (rIx X.K) ixGet := by
  intro W g H x y a b Q rl da db q
  have hb : ∃ i, b = .int i := by cases b <;> first | exact q.elim | exact ⟨_, rfl⟩
  obtain ⟨i, rfl⟩ := hb
  cases db
  unfold ixGet at q
  simp only at q
  cases hT : lookT a with
  | some xs =>
    simp only [hT, ixL] at q
    obtain ⟨p, vs, rfl, h1, h2⟩ := da.lookT rl hT
    cases hi : atI xs i with
    | none =>
      simp only [hi] at q
      exact q.elim
    | some d =>
      simp only [hi] at q
      obtain ⟨v, h3, h4⟩ := atI_den h2 hi
      exact .inr (.inl ⟨p, vs, i, v, rfl, rfl, h1, h3, RP.ret q rl h4⟩)
  | none =>
    simp only [hT] at q
    cases hL : lookL g.S a with
    | some xs =>
      simp only [hL, ixL] at q
      obtain ⟨p, vs, rfl, h1, h2⟩ := da.lookL rl hL
      cases hi : atI xs i with
      | none =>
        simp only [hi] at q
        exact q.elim
      | some d =>
        simp only [hi] at q
        obtain ⟨v, h3, h4⟩ := atI_den h2 hi
        exact .inl ⟨p, vs, i, v, rfl, rfl, h1, h3, RP.ret q rl h4⟩
    | none =>
      simp only [hL] at q
      cases da with
      | str z =>
        simp only [ixStr] at q
        split at q
        · rename_i hz
          cases hi : atI z.cps.toList i with
          | none =>
            simp only [hi] at q
            exact q.elim
          | some c =>
            simp only [hi] at q
            exact .inr (.inr ⟨z, i, c, rfl, rfl, hz, hi, RP.ret q rl (.str _)⟩)
        · exact q.elim
      | _ => exact q.elim
theorem ve_ix (ha : VE X cm W a fa) (hb : VE X cm W b fb) (hs : PlainIx b := by exact fun _ _ => rfl) : VE X cm W (.Subscript a b pos) (sBin ixGet fa fb) :=
  PE.imp (pe_ix ix_seq ha hb hs) fun _ _ _ q => bin_step ixGet_ok q
end

/-! ### slices -/
abbrev SO := Env → Store → R (Option Int)
def oNone : SO := fun _ S => .ok none S
def oSome (f : SE) : SO := fun ρ S => (f ρ S).bind fun d S1 => match d with
  | .int i => .ok (some i) S1
  | _ => .bad
def tOs (K : PySem.W.Frag) (cm : CM) (W : WX) (f : SO) : TO := fun σ H Q => ∃ g ρ, Rel K cm g H ∧ DenE K cm g ρ σ ∧ RP K cm eqI (fun c d H' => W c d σ H') g H (f ρ g.S) Q
abbrev VO (X : Cx) (cm : CM) (W : WX) (e : Option Expr) (f : SO) : Prop := PO X e (tOs X.K cm W f)
theorem PO.imp {X : Cx} {e : Option Expr} {t t' : TO} (h : PO X e t) (w : ∀ σ H Q, t' σ H Q → t σ H Q) : PO X e t' := ⟨fun pins s σ H Q I q => h.run pins s σ H Q I (w σ H Q q)⟩
def cutD (xs : List D) (lo hi : Option Int) : List D := (xs.drop (HT.sIx xs.length 0 lo)).take (HT.sIx xs.length xs.length hi - HT.sIx xs.length 0 lo)
/-- a part of a list: new; of a tuple, a text -/
def sSliceL (fe : SE) (fl fh : SO) : SF := fun ρ S => (fe ρ S).bind fun d S1 => (fl ρ S1).bind fun lo S2 => (fh ρ S2).bind fun hi S3 => match lookL S3 d with
  | some xs => .ok (cutD xs lo hi) S3
  | none => .bad
def slD (d : D) (lo hi : Option Int) (S : Store) : R D := match d with
  | .tup xs => if HT.sIx xs.length 0 lo = 0 ∧ HT.sIx xs.length xs.length hi = xs.length then .ok (.tup xs) S else .ok (.tup (cutD xs lo hi)) S
  | .str z => if z.length ≤ sizeLine then .ok (.str (cutS z lo hi)) S else .bad
  | d => match lookL S d with
    | some xs => .ok (.lst (cutD xs lo hi)) S
    | none => .bad
def sSlice (fe : SE) (fl fh : SO) : SE := fun ρ S => (fe ρ S).bind fun d S1 => (fl ρ S1).bind fun lo S2 => (fh ρ S2).bind fun hi S3 => slD d lo hi S3
section
variable {X : Cx} {cm : CM} {W : WX} {a b e : Expr} {es : List Expr} {pos p2 : Pos} {fa fb fe : SE} {lo hi : Option Expr} {fl fh : SO}
theorem vo_none : VO X cm W none oNone := PO.imp po_none fun σ H Q ⟨g, ρ, rl, de, q⟩ => RP.ret (v := none) q rl rfl
theorem vo_some (h : VE X cm W e fe) : VO X cm W (some e) (oSome fe) := PO.imp (po_some h) fun σ H Q ⟨g, ρ, rl, de, q⟩ => ⟨g, ρ, rl, de, RP.mono (RP.step q) fun v H1 ⟨d, g1, e1, rl1, dn, q1⟩ => by
  have hb : ∃ i, d = .int i := by cases d <;> first | exact q1.elim | exact ⟨_, rfl⟩
  obtain ⟨i, rfl⟩ := hb
  cases dn
  exact ⟨i, rfl, RP.ret (v := some i) q1 rl1 rfl⟩⟩
theorem cut_den {K : PySem.W.Frag} {g : G} {vs : List V} {ds : List D} (l : DenL K cm g vs ds) (lo hi : Option Int) : DenL K cm g (cutV vs lo hi) (cutD ds lo hi) := by
  unfold cutV cutD
  rw [l.length]
  exact (l.drop _).take _
theorem vf_sliceL (he : VE X cm W e fe) (hl : VO X cm W lo fl) (hh : VO X cm W hi fh) : VF X cm W (.Subscript e (.Slice lo hi none p2) pos) (sSliceL fe fl fh) := by
  refine PE.imp (pe_slice sl_list he hl hh) fun σ H Q ⟨g, ρ, rl, de, q⟩ => ⟨g, ρ, rl, de, ?_⟩
  unfold sSliceL at q
  cases h1 : fe ρ g.S with
  | ok d S1 =>
    simp only [h1, R.bind] at q
    intro g1 H1 x e1 rl1 es1 dn1
    refine ⟨g1, ρ, rl1, e1.denE de, ?_⟩
    rw [es1]
    cases h2 : fl ρ S1 with
    | ok l S2 =>
      simp only [h2] at q
      intro g2 H2 l' e2 rl2 es2 el
      obtain rfl : l' = l := el
      refine ⟨g2, ρ, rl2, (e1.trans e2).denE de, ?_⟩
      rw [es2]
      cases h3 : fh ρ S2 with
      | ok u S3 =>
        simp only [h3] at q
        intro g3 H3 u' e3 rl3 es3 eu
        obtain rfl : u' = u := eu
        have E := (e1.trans e2).trans e3
        cases hx : lookL S3 d with
        | none =>
          simp only [hx] at q
          exact q.elim
        | some xs =>
          simp only [hx] at q
          rw [← es3] at hx
          obtain ⟨p, vs, rfl, h4, h5⟩ := ((e2.trans e3).den dn1).lookL rl3 hx
          refine ⟨p, vs, rfl, h4, fun z hz => ?_⟩
          obtain ⟨n1, n2⟩ := rl3.free hz
          exact q g3 (upd H3 z _) z _ (E.trans (Ext.laid hz)) (rl3.laid hz) es3 (cut_den h5 l' u') (E.nn z hz) n1 n2 upd_same
      | exc x S3 =>
        simp only [h3] at q
        exact fun g3 H3 cls dd e3 rl3 es3 ⟨C, d, vs, a1, a2, a3, a4, a5⟩ => q g3 H3 cls dd ((e1.trans e2).trans e3) rl3 es3 ⟨C, d, vs, a1, a2, a3, (e1.trans e2).nn d a4, a5⟩
      | bad =>
        simp only [h3] at q
        exact q.elim
    | exc x S2 =>
      simp only [h2] at q
      exact fun g3 H3 cls dd e3 rl3 es3 ⟨C, d, vs, a1, a2, a3, a4, a5⟩ => q g3 H3 cls dd (e1.trans e3) rl3 es3 ⟨C, d, vs, a1, a2, a3, e1.nn d a4, a5⟩
    | bad =>
      simp only [h2] at q
      exact q.elim
  | exc x S1 =>
    simp only [h1] at q
    exact q
  | bad =>
    simp only [h1] at q
    exact q.elim

def rSls (K : PySem.W.Frag) : V → Option Int → Option Int → Hp → VK → Prop := fun x lo hi H Q => rSlA K x lo hi H Q ∨ rSlS x lo hi H Q ∨ rSlL K x lo hi H Q
theorem sl_any : SlR X (rSls X.K) := sl_tupA.or (sl_str.or sl_list)
theorem ve_slice (he : VE X cm W e fe) (hl : VO X cm W lo fl) (hh : VO X cm W hi fh) : VE X cm W (.Subscript e (.Slice lo hi none p2) pos) (sSlice fe fl fh) := by
  refine PE.imp (pe_slice sl_any he hl hh) fun σ H Q ⟨g, ρ, rl, de, q⟩ => ⟨g, ρ, rl, de, RP.mono (RP.step q) fun x H1 ⟨d, g1, e1, rl1, dn, q1⟩ => ?_⟩
  refine ⟨g1, ρ, rl1, e1.denE de, RP.mono (RP.step q1) fun l H2 ⟨l', g2, e2, rl2, el, q2⟩ => ?_⟩
  obtain rfl : l = l' := el
  refine ⟨g2, ρ, rl2, (e1.trans e2).denE de, RP.mono (RP.step q2) fun u H3 ⟨u', g3, e3, rl3, eu, q3⟩ => ?_⟩
  obtain rfl : u = u' := eu
  have dn3 := (e2.trans e3).den dn
  cases dn3 with
  | @tup a vs ds hs dl =>
    refine .inl ⟨a, vs, rfl, SqT.sub rl3.sub hs, fun hw => ?_, fun hw p hp => ?_⟩
    · rw [dl.length] at hw
      simp only [slD, if_pos hw] at q3
      exact RP.ret q3 rl3 (.tup hs dl)
    · rw [dl.length] at hw
      simp only [slD, if_neg hw] at q3
      exact RP.alloc q3 rl3 hp (.tup (SqT.of upd_same) ((cut_den dl l u).mono (frz_sub (rl3.free hp).1) fun _ _ z => z))
  | str z =>
    simp only [slD] at q3
    split at q3
    · rename_i hz
      exact .inr (.inl ⟨z, rfl, hz, RP.ret q3 rl3 (.str _)⟩)
    · exact q3.elim
  | _ =>
    refine .inr (.inr ?_)
    simp only [slD] at q3
    split at q3
    · rename_i xs hx
      obtain ⟨p, vs, ep, h4, h5⟩ := ((e2.trans e3).den dn).lookL rl3 hx
      exact ⟨p, vs, ep, h4, fun z hz => RP.alloc q3 rl3 hz (.lst upd_same ((cut_den h5 l u).mono (frz_sub (rl3.free hz).1) fun _ _ w => w))⟩
    · exact q3.elim
end

/-! ### built-in calls -/
def CallD (X : Cx) (cm : CM) (r : List V → Hp → VK → Prop) (f : List D → Store → R D) : Prop :=
  ∀ (W : Value → Option Addr → Hp → Prop) (g : G) (H : Hp) (xs : List V) (ds : List D) (Q : VK), Rel X.K cm g H → DenL X.K cm g xs ds → RP X.K cm (Den X.K cm) W g H (f ds g.S) Q → r xs H Q
def CallF (X : Cx) (cm : CM) (r : List V → Hp → VK → Prop) (f : List D → Store → R (List D)) : Prop :=
  ∀ (W : Value → Option Addr → Hp → Prop) (g : G) (H : Hp) (xs : List V) (ds : List D) (Q : VK), Rel X.K cm g H → DenL X.K cm g xs ds → FP X.K cm W g H (f ds g.S) Q → r xs H Q
def sCall (f : List D → Store → R D) (fa : SA) : SE := fun ρ S => (fa ρ S).bind f
def fCall (f : List D → Store → R (List D)) (fa : SA) : SF := fun ρ S => (fa ρ S).bind f
theorem FP.ext {K : PySem.W.Frag} {cm : CM} {W' : Value → Option Addr → Hp → Prop} {g g1 : G} {H H1 : Hp} {r : R (List D)} {Q : VK} (e : Ext g H g1 H1) (h : FP K cm W' g H r Q) : FP K cm W' g1 H1 r Q := by
  cases r with
  | ok d S => exact fun g' H' p vs e' rl es dl h0 => h g' H' p vs (e.trans e') rl es dl (e.nn p h0)
  | exc x S => exact fun g' H' cls dd e' rl es ⟨C, d, vs, a1, a2, a3, a4, a5⟩ => h g' H' cls dd (e.trans e') rl es ⟨C, d, vs, a1, a2, a3, e.nn d a4, a5⟩
  | bad => exact h
theorem FP.step {K : PySem.W.Frag} {cm : CM} {β γ : Type} {den : G → γ → β → Prop} {W : Value → Option Addr → Hp → Prop} {g : G} {H : Hp} {r : R β} {f : β → Store → R (List D)} {Q : VK} (h : FP K cm W g H (r.bind f) Q) :
    RP K cm den W g H r fun v H1 => ∃ d g1, Ext g H g1 H1 ∧ Rel K cm g1 H1 ∧ den g1 v d ∧ FP K cm W g1 H1 (f d g1.S) Q := by
  cases r with
  | ok d S =>
    intro g1 H1 v e rl es q
    refine ⟨d, g1, e, rl, q, ?_⟩
    rw [es]
    exact FP.ext e h
  | exc x S => exact h
  | bad => exact h
theorem FP.new {K : PySem.W.Frag} {cm : CM} {W : Value → Option Addr → Hp → Prop} {g : G} {H : Hp} {ds : List D} {vs : List V} {Q : VK} (h : FP K cm W g H (.ok ds g.S) Q) (rl : Rel K cm g H) (dl : DenL K cm g vs ds) {p : Addr} (hp : H p = none) : Q (.ref p) (upd H p (.lst vs)) := by
  obtain ⟨n1, n2⟩ := rl.free hp
  exact h g _ p vs (Ext.laid hp) (rl.laid hp) rfl dl hp n1 n2 upd_same
section
variable {X : Cx} {cm : CM} {W : WX} {e : Expr} {es : List Expr} {p pos : Pos} {fa : SA} {x : Str} {id T : String} {r : List V → Hp → VK → Prop} {f : List D → Store → R D} {fF : List D → Store → R (List D)}
theorem ve_callB (hc : CallR X (.builtin id) r) (hd : CallD X cm r f) (hg : Gl X x) (hm : X.mg x = none) (hv : bootBuiltins x = some (.builtin id)) (ha : VA X cm W (e :: es) fa) (hn : x ≠ "__name__" := by decide) (hdb : (x == ("__debug__" : Str)) = false := by decide)
    (he : starEach (e :: es) X.env = (false, eval e X.env) :: starEach es X.env := by rfl) (hpl : (backTo pos (starEach es X.env)).any (·.1) = false := by rfl) : VE X cm W (.Call (.Name x p) (e :: es) [] pos) (sCall f fa) :=
  PE.imp (pe_callB hc hg hm hv ha hn hdb he hpl) fun σ H Q ⟨g, ρ, rl, de, q⟩ => ⟨g, ρ, rl, de, RP.mono (RP.step q) fun v H1 ⟨d, g1, e1, rl1, dn, q1⟩ => hd _ g1 H1 v d Q rl1 dn q1⟩
theorem ve_callT (hc : CallR X (.type T) r) (hd : CallD X cm r f) (hg : Gl X x) (hm : X.mg x = none) (hv : bootBuiltins x = some (.type T)) (ha : VA X cm W (e :: es) fa) (hn : x ≠ "__name__" := by decide) (hdb : (x == ("__debug__" : Str)) = false := by decide)
    (he : starEach (e :: es) X.env = (false, eval e X.env) :: starEach es X.env := by rfl) (hpl : (backTo pos (starEach es X.env)).any (·.1) = false := by rfl) : VE X cm W (.Call (.Name x p) (e :: es) [] pos) (sCall f fa) :=
  PE.imp (pe_callTy hc hg hm hv ha hn hdb he hpl) fun σ H Q ⟨g, ρ, rl, de, q⟩ => ⟨g, ρ, rl, de, RP.mono (RP.step q) fun v H1 ⟨d, g1, e1, rl1, dn, q1⟩ => hd _ g1 H1 v d Q rl1 dn q1⟩
theorem vf_callB (hc : CallR X (.builtin id) r) (hd : CallF X cm r fF) (hg : Gl X x) (hm : X.mg x = none) (hv : bootBuiltins x = some (.builtin id)) (ha : VA X cm W (e :: es) fa) (hn : x ≠ "__name__" := by decide) (hdb : (x == ("__debug__" : Str)) = false := by decide)
    (he : starEach (e :: es) X.env = (false, eval e X.env) :: starEach es X.env := by rfl) (hpl : (backTo pos (starEach es X.env)).any (·.1) = false := by rfl) : VF X cm W (.Call (.Name x p) (e :: es) [] pos) (fCall fF fa) :=
  PE.imp (pe_callB hc hg hm hv ha hn hdb he hpl) fun σ H Q ⟨g, ρ, rl, de, q⟩ => ⟨g, ρ, rl, de, RP.mono (FP.step q) fun v H1 ⟨d, g1, e1, rl1, dn, q1⟩ => hd _ g1 H1 v d Q rl1 dn q1⟩
theorem vf_callT (hc : CallR X (.type T) r) (hd : CallF X cm r fF) (hg : Gl X x) (hm : X.mg x = none) (hv : bootBuiltins x = some (.type T)) (ha : VA X cm W (e :: es) fa) (hn : x ≠ "__name__" := by decide) (hdb : (x == ("__debug__" : Str)) = false := by decide)
    (he : starEach (e :: es) X.env = (false, eval e X.env) :: starEach es X.env := by rfl) (hpl : (backTo pos (starEach es X.env)).any (·.1) = false := by rfl) : VF X cm W (.Call (.Name x p) (e :: es) [] pos) (fCall fF fa) :=
  PE.imp (pe_callTy hc hg hm hv ha hn hdb he hpl) fun σ H Q ⟨g, ρ, rl, de, q⟩ => ⟨g, ρ, rl, de, RP.mono (FP.step q) fun v H1 ⟨d, g1, e1, rl1, dn, q1⟩ => hd _ g1 H1 v d Q rl1 dn q1⟩
end

/-! flat data -/
def flatD : D → Bool
  | .non => true
  | .bl _ => true
  | .int _ => true
  | .str _ => true
  | _ => false
def toV : D → V
  | .bl b => .bl b
  | .int i => .int i
  | .str x => .str x
  | _ => .non
def eqFl : D → D → Bool
  | .non, .non => true
  | .bl a, .bl b => a == b
  | .bl a, .int b => (if a then 1 else 0) == b
  | .int a, .bl b => a == (if b then 1 else 0)
  | .int a, .int b => a == b
  | .str a, .str b => a == b
  | _, _ => false
section
variable {K : PySem.W.Frag} {cm : CM} {g : G}
theorem Den.flat {v : V} {d : D} (h : Den K cm g v d) (f : flatD d = true) : v = toV d := by cases h <;> first | rfl | cases f
theorem flat_toV {d : D} (f : flatD d = true) : flatV (toV d) = true := by cases d <;> first | rfl | cases f
theorem DenL.flatV : ∀ {vs : List V} {ds : List D}, DenL K cm g vs ds → ds.all flatD = true → vs = ds.map toV
  | _, _, .nil, _ => rfl
  | _, _, .cons h t, f => by
    rw [List.all_cons, Bool.and_eq_true] at f
    rw [List.map_cons, h.flat f.1, DenL.flatV t f.2]
theorem all_flatV : ∀ {ds : List D}, ds.all flatD = true → (ds.map toV).all L2.flatV = true
  | [], _ => rfl
  | d :: ds, f => by
    rw [List.all_cons, Bool.and_eq_true] at f
    rw [List.map_cons, List.all_cons, flat_toV f.1, all_flatV f.2]
    rfl
theorem eqFl_V {a b : D} (fa : flatD a = true) (fb : flatD b = true) : eqV (toV a) (toV b) = eqFl a b := by
  cases a <;> cases fa <;> cases b <;> cases fb <;> rfl
end
def boolsOf : List D → Option (List Bool)
  | [] => some []
  | .bl b :: ds => (boolsOf ds).map (b :: ·)
  | _ => none
def intsOf : List D → Option (List Int)
  | [] => some []
  | .int b :: ds => (intsOf ds).map (b :: ·)
  | _ => none
theorem boolsOf_V {K : PySem.W.Frag} {cm : CM} {g : G} : ∀ {vs : List V} {ds : List D} {bs : List Bool}, DenL K cm g vs ds → boolsOf ds = some bs → vs = bs.map V.bl
  | _, _, _, .nil, e => by cases e; rfl
  | _, _, bs, .cons (d := d) (ds := ds) h t, e => by
    have hb : ∃ b, d = .bl b := by cases d <;> first | cases e | exact ⟨_, rfl⟩
    obtain ⟨b, rfl⟩ := hb
    obtain ⟨bs', h1, rfl⟩ := Option.map_eq_some_iff.mp (show (boolsOf ds).map (b :: ·) = some bs from e)
    cases h
    rw [boolsOf_V t h1]
    rfl
theorem intsOf_V {K : PySem.W.Frag} {cm : CM} {g : G} : ∀ {vs : List V} {ds : List D} {bs : List Int}, DenL K cm g vs ds → intsOf ds = some bs → vs = bs.map V.int
  | _, _, _, .nil, e => by cases e; rfl
  | _, _, bs, .cons (d := d) (ds := ds) h t, e => by
    have hb : ∃ b, d = .int b := by cases d <;> first | cases e | exact ⟨_, rfl⟩
    obtain ⟨b, rfl⟩ := hb
    obtain ⟨bs', h1, rfl⟩ := Option.map_eq_some_iff.mp (show (intsOf ds).map (b :: ·) = some bs from e)
    cases h
    rw [intsOf_V t h1]
    rfl
theorem denL_ints {K : PySem.W.Frag} {cm : CM} {g : G} : ∀ (ns : List Int), DenL K cm g (ns.map V.int) (ns.map D.int)
  | [] => .nil
  | n :: ns => .cons (.int n) (denL_ints ns)

/-! len, abs, int, all, any, list, tuple, sorted -/
def lenD (ds : List D) (S : Store) : R D := match ds with
  | [.str x] => if x.length ≤ sizeLine then .ok (.int x.length) S else .bad
  | [.tup xs] => .ok (.int xs.length) S
  | [d] => match lookL S d with
    | some xs => .ok (.int xs.length) S
    | none => .bad
  | _ => .bad
def absD (ds : List D) (S : Store) : R D := match ds with
  | [.int i] => .ok (.int (if i < 0 then -i else i)) S
  | _ => .bad
def intD (ds : List D) (S : Store) : R D := match ds with
  | [.int i] => .ok (.int i) S
  | [.bl k] => .ok (.int (if k then 1 else 0)) S
  | _ => .bad
def allD (ds : List D) (S : Store) : R D := match ds with
  | [d] => match (lookL S d).bind boolsOf with
    | some bs => .ok (.bl (bs.all id)) S
    | none => .bad
  | _ => .bad
def anyD (ds : List D) (S : Store) : R D := match ds with
  | [d] => match (lookL S d).bind boolsOf with
    | some bs => .ok (.bl (bs.any id)) S
    | none => .bad
  | _ => .bad
def listF (ds : List D) (S : Store) : R (List D) := match ds with
  | [d] => match lookT d with
    | some xs => .ok xs S
    | none => match lookL S d with
      | some xs => .ok xs S
      | none => .bad
  | _ => .bad
def tupleD (ds : List D) (S : Store) : R D := match ds with
  | [d] => match lookT d with
    | some xs => .ok (.tup xs) S
    | none => match lookL S d with
      | some xs => .ok (.tup xs) S
      | none => .bad
  | _ => .bad
def insI (x : Int) : List Int → List Int
  | [] => [x]
  | y :: ys => if x ≤ y then x :: y :: ys else y :: insI x ys
def sortI (l : List Int) : List Int := l.foldr insI []
def sortedF (ds : List D) (S : Store) : R (List D) := match ds with
  | [d] => match (lookL S d).bind intsOf with
    | some ns => .ok ((sortI ns).map .int) S
    | none => .bad
  | _ => .bad
theorem insI_perm (x : Int) : ∀ l : List Int, (insI x l).Perm (x :: l)
  | [] => .refl _
  | y :: ys => by
    unfold insI
    split
    · exact .refl _
    · exact ((insI_perm x ys).cons y).trans (List.Perm.swap x y ys)
theorem sortI_perm : ∀ l : List Int, (sortI l).Perm l
  | [] => .refl _
  | x :: l => (insI_perm x (sortI l)).trans ((sortI_perm l).cons x)
theorem insI_sorted (x : Int) : ∀ {l : List Int}, l.Pairwise (· ≤ ·) → (insI x l).Pairwise (· ≤ ·)
  | [], _ => List.pairwise_singleton _ _
  | y :: ys, h => by
    unfold insI
    split
    · rename_i c
      refine List.pairwise_cons.mpr ⟨fun z hz => ?_, h⟩
      rcases List.mem_cons.mp hz with e | e
      · omega
      · have := (List.pairwise_cons.mp h).1 z e
        omega
    · rename_i c
      refine List.pairwise_cons.mpr ⟨fun z hz => ?_, insI_sorted x (List.pairwise_cons.mp h).2⟩
      rcases List.mem_cons.mp ((insI_perm x ys).mem_iff.mp hz) with e | e
      · omega
      · exact (List.pairwise_cons.mp h).1 z e
theorem sortI_sorted : ∀ l : List Int, (sortI l).Pairwise (· ≤ ·)
  | [] => .nil
  | x :: l => insI_sorted x (sortI_sorted l)
theorem sortI_uniq {l m : List Int} (hp : m.Perm l) (hs : m.Pairwise (· ≤ ·)) : m = sortI l :=
  List.Perm.eq_of_pairwise (fun x y _ _ h1 h2 => Int.le_antisymm h1 h2) hs (sortI_sorted l) (hp.trans (sortI_perm l).symm)
section
variable {X : Cx} {cm : CM}
theorem one_of {α : Type} {K : PySem.W.Frag} {g : G} {xs : List V} {d : D} (h : DenL K cm g xs [d]) : ∃ x, xs = [x] ∧ Den K cm g x d := by
  cases h with
  | cons h t =>
    cases t
    exact ⟨_, rfl, h⟩
theorem len1 {P : List D → Prop} : ∀ (ds : List D), (∀ d, ds = [d] → P ds) → (ds.length ≠ 1 → P ds) → P ds
  | [], _, h => h (by simp)
  | [d], h, _ => h d rfl
  | _ :: _ :: _, _, h => h (by simp)
theorem lenD_ok : CallD X cm (fun xs H Q => ∃ x n, xs = [x] ∧ LenV X.K x H n ∧ Q (.int n) H) lenD := by
  intro W g H xs ds Q rl dl q
  unfold lenD at q
  split at q
  · obtain ⟨x, rfl, dx⟩ := one_of (α := Unit) dl
    cases dx
    split at q
    · rename_i z hz
      exact ⟨_, z.length, rfl, ⟨hz, rfl⟩, RP.ret q rl (.int _)⟩
    · exact q.elim
  · obtain ⟨x, rfl, dx⟩ := one_of (α := Unit) dl
    obtain ⟨a, vs, rfl, h1, h2⟩ := dx.lookT rl rfl
    exact ⟨_, _, rfl, .inr ⟨vs, h1, rfl⟩, by rw [h2.length]; exact RP.ret q rl (.int _)⟩
  · obtain ⟨x, rfl, dx⟩ := one_of (α := Unit) dl
    split at q
    · rename_i ys hy
      obtain ⟨a, vs, rfl, h1, h2⟩ := dx.lookL rl hy
      exact ⟨_, _, rfl, .inl ⟨vs, h1, rfl⟩, by rw [h2.length]; exact RP.ret q rl (.int _)⟩
    · exact q.elim
  · exact q.elim
theorem absD_ok : CallD X cm (fun xs H Q => ∃ i, xs = [.int i] ∧ Q (.int (if i < 0 then -i else i)) H) absD := by
  intro W g H xs ds Q rl dl q
  unfold absD at q
  split at q
  · obtain ⟨x, rfl, dx⟩ := one_of (α := Unit) dl
    cases dx
    exact ⟨_, rfl, RP.ret q rl (.int _)⟩
  · exact q.elim
theorem intD_ok : CallD X cm (fun xs H Q => (∃ i, xs = [.int i] ∧ Q (.int i) H) ∨ ∃ k, xs = [.bl k] ∧ Q (.int (if k then 1 else 0)) H) intD := by
  intro W g H xs ds Q rl dl q
  unfold intD at q
  split at q
  · obtain ⟨x, rfl, dx⟩ := one_of (α := Unit) dl
    cases dx
    exact .inl ⟨_, rfl, RP.ret q rl (.int _)⟩
  · obtain ⟨x, rfl, dx⟩ := one_of (α := Unit) dl
    cases dx
    exact .inr ⟨_, rfl, RP.ret q rl (.int _)⟩
  · exact q.elim
theorem allD_ok : CallD X cm (rAll X.K) allD := by
  intro W g H xs ds Q rl dl q
  unfold allD at q
  split at q
  · obtain ⟨x, rfl, dx⟩ := one_of (α := Unit) dl
    split at q
    · rename_i bs hb
      obtain ⟨ys, h1, h2⟩ := Option.bind_eq_some_iff.mp hb
      obtain ⟨a, vs, rfl, h3, h4⟩ := dx.lookL rl h1
      rw [boolsOf_V h4 h2] at h3
      exact ⟨a, bs, rfl, h3, RP.ret q rl (.bl _)⟩
    · exact q.elim
  · exact q.elim
theorem anyD_ok : CallD X cm (rAny X.K) anyD := by
  intro W g H xs ds Q rl dl q
  unfold anyD at q
  split at q
  · obtain ⟨x, rfl, dx⟩ := one_of (α := Unit) dl
    split at q
    · rename_i bs hb
      obtain ⟨ys, h1, h2⟩ := Option.bind_eq_some_iff.mp hb
      obtain ⟨a, vs, rfl, h3, h4⟩ := dx.lookL rl h1
      rw [boolsOf_V h4 h2] at h3
      exact ⟨a, bs, rfl, h3, RP.ret q rl (.bl _)⟩
    · exact q.elim
  · exact q.elim
theorem listF_ok : CallF X cm (fun xs H Q => ∃ p ys, xs = [.ref p] ∧ (SqL X.K H p ys ∨ SqT X.K H p ys) ∧ ∀ l, H l = none → Q (.ref l) (upd H l (.lst ys))) listF := by
  intro W g H xs ds Q rl dl q
  unfold listF at q
  split at q
  · obtain ⟨x, rfl, dx⟩ := one_of (α := Unit) dl
    split at q
    · rename_i ys hy
      obtain ⟨a, vs, rfl, h1, h2⟩ := dx.lookT rl hy
      exact ⟨a, vs, rfl, .inr h1, fun l hl => FP.new q rl h2 hl⟩
    · split at q
      · rename_i ys hy
        obtain ⟨a, vs, rfl, h1, h2⟩ := dx.lookL rl hy
        exact ⟨a, vs, rfl, .inl h1, fun l hl => FP.new q rl h2 hl⟩
      · exact q.elim
  · exact q.elim
theorem tupleD_ok : CallD X cm (fun xs H Q => ∃ p ys, xs = [.ref p] ∧ ((SqL X.K H p ys ∧ ∀ l, H l = none → Q (.ref l) (upd H l (.tup ys))) ∨ (SqT X.K H p ys ∧ Q (.ref p) H))) tupleD := by
  intro W g H xs ds Q rl dl q
  unfold tupleD at q
  split at q
  · obtain ⟨x, rfl, dx⟩ := one_of (α := Unit) dl
    split at q
    · rename_i ys hy
      cases dx with
      | tup hs dl2 =>
        cases hy
        exact ⟨_, _, rfl, .inr ⟨SqT.sub rl.sub hs, RP.ret q rl (.tup hs dl2)⟩⟩
      | _ => cases hy
    · split at q
      · rename_i ys hy
        obtain ⟨a, vs, rfl, h1, h2⟩ := dx.lookL rl hy
        exact ⟨a, vs, rfl, .inl ⟨h1, fun l hl => RP.alloc q rl hl (.tup (SqT.of upd_same) (h2.mono (frz_sub (rl.free hl).1) fun _ _ w => w))⟩⟩
      · exact q.elim
  · exact q.elim
theorem sortedF_ok : CallF X cm (rSortedI X.K) sortedF := by
  intro W g H xs ds Q rl dl q
  unfold sortedF at q
  split at q
  · obtain ⟨x, rfl, dx⟩ := one_of (α := Unit) dl
    split at q
    · rename_i ns hb
      obtain ⟨ys, h1, h2⟩ := Option.bind_eq_some_iff.mp hb
      obtain ⟨a, vs, rfl, h3, h4⟩ := dx.lookL rl h1
      rw [intsOf_V h4 h2] at h3
      refine ⟨a, ns, rfl, h3, fun ns' p hp hs hn => ?_⟩
      rw [sortI_uniq hp hs]
      exact FP.new q rl (denL_ints _) hn
    · exact q.elim
  · exact q.elim
end
end VS
end
section
set_option Elab.async false
set_option linter.all false
set_option maxRecDepth 100000
/-! VS: defs, calls -/
namespace VS
open PySem PySem.Spec PyProof.Rows L2

/-! ### what is below a place of the store -/
mutual
def D.und (n : Nat) : D → Bool
  | .cel k => decide (k < n)
  | .lst xs => undL n xs
  | .tup xs => undL n xs
  | .scr xs => undL n xs
  | .ins _ fs => undF n fs
  | .exc _ fs => undF n fs
  | .dic es => undK n es
  | .clo _ _ _ _ _ => false
  | _ => true
def undL (n : Nat) : List D → Bool
  | [] => true
  | d :: ds => d.und n && undL n ds
def undF (n : Nat) : List (Str × D) → Bool
  | [] => true
  | (_, d) :: ds => d.und n && undF n ds
def undK (n : Nat) : List (Key × D) → Bool
  | [] => true
  | (_, d) :: ds => d.und n && undK n ds
end
def Cell.und (n : Nat) : Cell → Bool
  | .dead => true
  | .lst xs => undL n xs
  | .obj _ fs => undF n fs
  | .dic es => undK n es
/-- behind a def: the cells that it has opened are dropped -/
def cut (n : Nat) (d : D) (S : Store) : R D := if S.length = n then .ok d S else if n ≤ S.length ∧ d.und n = true ∧ (S.take n).all (Cell.und n) = true then .ok d (S.take n) else .ok d S
def cutX (n : Nat) (x : Ex) (S : Store) : R D := if S.length = n then .exc x S else if n ≤ S.length ∧ undF n x.fs = true ∧ (S.take n).all (Cell.und n) = true then .exc x (S.take n) else .exc x S
section
variable {K : PySem.W.Frag} {cm : CM} {g g' : G} {n : Nat}
mutual
theorem Den.und (hF : ∀ a o, g.F a = some o → g'.F a = some o) (hα : ∀ (k : Nat) (a : Addr), k < n → g.α[k]? = some a → g'.α[k]? = some a) : ∀ {v : V} {d : D}, Den K cm g v d → d.und n = true → Den K cm g' v d
  | _, _, .non, _ => .non
  | _, _, .bl b, _ => .bl b
  | _, _, .int i, _ => .int i
  | _, _, .str x, _ => .str x
  | _, _, .ty t, _ => .ty t
  | _, _, .cls h, _ => .cls h
  | _, _, .lst s l, b => .lst (hF _ _ s) (DenL.und hF hα l b)
  | _, _, .scr s l, b => .scr (SqL.sub hF s) (DenL.und hF hα l b)
  | _, _, .tup s l, b => .tup (SqT.sub hF s) (DenL.und hF hα l b)
  | _, _, .cel h, b => .cel (hα _ _ (of_decide_eq_true b) h)
  | _, _, .ins h c l, b => .ins (hF _ _ h) c (DenF.und hF hα l b)
  | _, _, .exc h h2 c l, b => .exc (hF _ _ h) (hF _ _ h2) c (DenF.und hF hα l b)
  | _, _, .dic h l, b => .dic (hF _ _ h) (DenK.und hF hα l b)
  | _, _, .clo _ _, b => nomatch b
theorem DenL.und (hF : ∀ a o, g.F a = some o → g'.F a = some o) (hα : ∀ (k : Nat) (a : Addr), k < n → g.α[k]? = some a → g'.α[k]? = some a) : ∀ {v : List V} {d : List D}, DenL K cm g v d → undL n d = true → DenL K cm g' v d
  | _, _, .nil, _ => .nil
  | _, _, .cons h t, b => .cons (Den.und hF hα h (Bool.and_eq_true_iff.mp b).1) (DenL.und hF hα t (Bool.and_eq_true_iff.mp b).2)
theorem DenF.und (hF : ∀ a o, g.F a = some o → g'.F a = some o) (hα : ∀ (k : Nat) (a : Addr), k < n → g.α[k]? = some a → g'.α[k]? = some a) : ∀ {v : List (Str × V)} {d : List (Str × D)}, DenF K cm g v d → undF n d = true → DenF K cm g' v d
  | _, _, .nil, _ => .nil
  | _, _, .cons h t, b => .cons (Den.und hF hα h (Bool.and_eq_true_iff.mp b).1) (DenF.und hF hα t (Bool.and_eq_true_iff.mp b).2)
theorem DenK.und (hF : ∀ a o, g.F a = some o → g'.F a = some o) (hα : ∀ (k : Nat) (a : Addr), k < n → g.α[k]? = some a → g'.α[k]? = some a) : ∀ {v : List (Key × V)} {d : List (Key × D)}, DenK K cm g v d → undK n d = true → DenK K cm g' v d
  | _, _, .nil, _ => .nil
  | _, _, .cons h t, b => .cons (Den.und hF hα h (Bool.and_eq_true_iff.mp b).1) (DenK.und hF hα t (Bool.and_eq_true_iff.mp b).2)
end
/-- the world without the cells from n on -/
def G.cut (g : G) (n : Nat) : G := ⟨g.F, g.α.take n, g.S.take n⟩
theorem Den.cutted {v : V} {d : D} (h : Den K cm g v d) (b : d.und n = true) : Den K cm (g.cut n) v d :=
  Den.und (g := g) (g' := g.cut n) (fun _ _ z => z) (fun k a c h => by show (g.α.take n)[k]? = some a; rw [List.getElem?_take_of_lt c]; exact h) h b
theorem DenL.cutted {v : List V} {d : List D} (h : DenL K cm g v d) (b : undL n d = true) : DenL K cm (g.cut n) v d :=
  DenL.und (g := g) (g' := g.cut n) (fun _ _ z => z) (fun k a c h => by show (g.α.take n)[k]? = some a; rw [List.getElem?_take_of_lt c]; exact h) h b
theorem DenF.cutted {v : List (Str × V)} {d : List (Str × D)} (h : DenF K cm g v d) (b : undF n d = true) : DenF K cm (g.cut n) v d :=
  DenF.und (g := g) (g' := g.cut n) (fun _ _ z => z) (fun k a c h => by show (g.α.take n)[k]? = some a; rw [List.getElem?_take_of_lt c]; exact h) h b
theorem DenK.cutted {v : List (Key × V)} {d : List (Key × D)} (h : DenK K cm g v d) (b : undK n d = true) : DenK K cm (g.cut n) v d :=
  DenK.und (g := g) (g' := g.cut n) (fun _ _ z => z) (fun k a c h => by show (g.α.take n)[k]? = some a; rw [List.getElem?_take_of_lt c]; exact h) h b
theorem get_take {α : Type} {l : List α} {k n : Nat} {x : α} (h : (l.take n)[k]? = some x) : l[k]? = some x ∧ k < n := by
  by_cases c : k < n
  · rw [List.getElem?_take_of_lt c] at h
    exact ⟨h, c⟩
  · have : (l.take n)[k]? = none := List.getElem?_eq_none_iff.mpr (by rw [List.length_take]; omega)
    rw [this] at h
    cases h
theorem take_get {α : Type} {l : List α} {k n : Nat} {x : α} (c : k < n) (h : l[k]? = some x) : (l.take n)[k]? = some x := by
  rw [List.getElem?_take_of_lt c]
  exact h
theorem live_cut {a : Addr} (h : Live (g.cut n) a) : Live g a := by
  obtain ⟨k, c, h1, h2, h3⟩ := h
  exact ⟨k, c, (get_take h1).1, (get_take h2).1, h3⟩
theorem Rel.cut {H : Hp} (rl : Rel K cm g H) (hb : (g.S.take n).all (Cell.und n) = true) : Rel K cm (g.cut n) H := by
  refine ⟨by show (g.α.take n).length = (g.S.take n).length; simp [rl.len], rl.sub, fun k a c h1 h2 h3 => ?_, fun j k a c d h1 h2 h3 h4 h5 h6 => rl.inj j k a c d (get_take h1).1 (get_take h2).1 (get_take h3).1 (get_take h4).1 h5 h6, rl.tabs, rl.nt⟩
  obtain ⟨n1, ok⟩ := rl.cells k a c (get_take h1).1 (get_take h2).1 h3
  refine ⟨n1, ?_⟩
  have hbc : c.und n = true := List.all_eq_true.mp hb c (List.mem_of_getElem? h2)
  cases c with
  | dead => exact True.intro
  | lst ds =>
    obtain ⟨vs, e, l⟩ := ok
    exact ⟨vs, e, l.cutted hbc⟩
  | obj c fs =>
    obtain ⟨C, dx, vs, ec, e, l⟩ := ok
    exact ⟨C, dx, vs, ec, e, l.cutted hbc⟩
  | dic es =>
    obtain ⟨kvs, e, l⟩ := ok
    exact ⟨kvs, e, l.cutted hbc⟩
theorem Ext.cut {g0 : G} {H0 H : Hp} (e : Ext g0 H0 g H) (hn : n = g0.α.length) : Ext g0 H0 (g.cut n) H where
  fz := e.fz
  al := fun k a h => take_get (by rw [hn]; exact (List.getElem?_eq_some_iff.mp h).1) (e.al k a h)
  keep := e.keep
  newF := e.newF
  newL := fun a h => e.newL a (live_cut h)
  nn := e.nn
  tb := e.tb
end

/-! ### a def's promise -/
/-- what a def gives: its arguments and the store in, a result out -/
abbrev Fn := List D → Store → R D
def spV (K : PySem.W.Frag) (cm : CM) (n : Nat) (F : Fn) : Sp := fun vs H Q E => vs.length = n ∧ ∃ g ds, Rel K cm g H ∧ DenL K cm g vs ds ∧ RP K cm (Den K cm) E g H (F ds g.S) Q
/-- a body run: n names -/
def runB (n : Nat) (body : SS) : Fn := fun ds S => match body (ds.map some ++ List.replicate (n - ds.length) none) S with
  | .nx _ S' => cut S.length .non S'
  | .ret d S' => cut S.length d S'
  | .exc x _ S' => cutX S.length x S'
  | _ => .bad
theorem denE_start {K : PySem.W.Frag} {cm : CM} {g : G} {vs : List V} {ds : List D} (l : DenL K cm g vs ds) (N : List Str) : DenE K cm g (ds.map some ++ List.replicate (N.length - ds.length) none) (L2.start N vs) := by
  unfold L2.start
  rw [← l.length]
  refine ⟨by simp [l.length], fun i d h => ?_⟩
  by_cases c : i < ds.length
  · rw [List.getElem?_append_left (by simpa using c), List.getElem?_map] at h
    obtain ⟨d', h1, h2⟩ := Option.map_eq_some_iff.mp h
    cases h2
    obtain ⟨v, h3, h4⟩ := l.get h1
    refine ⟨v, ?_, h4⟩
    rw [List.getElem?_append_left (by rw [List.length_map, l.length]; exact c), List.getElem?_map, h3]
    rfl
  · rw [List.getElem?_append_right (by simpa using Nat.le_of_not_lt c)] at h
    have := List.mem_of_getElem? h
    rw [List.mem_replicate] at this
    cases this.2
theorem cut_ok {K : PySem.W.Frag} {cm : CM} {E : Value → Option Addr → Hp → Prop} {g : G} {H : Hp} {d : D} {S' : Store} {Q : VK} (rl : Rel K cm g H) (q : RP K cm (Den K cm) E g H (cut g.S.length d S') Q) :
    ∀ g' H' v, Ext g H g' H' → Rel K cm g' H' → g'.S = S' → Den K cm g' v d → Q v H' := by
  intro g' H' v e rl' es dn
  unfold cut at q
  split at q
  · exact q g' H' v e rl' es dn
  · split at q
    · rename_i hb
      rw [← es] at q hb
      refine q (g'.cut g.S.length) H' v (e.cut rl.len.symm) (rl'.cut hb.2.2) rfl (dn.cutted hb.2.1)
    · exact q g' H' v e rl' es dn
theorem cutX_ok {K : PySem.W.Frag} {cm : CM} {E : Value → Option Addr → Hp → Prop} {g : G} {H : Hp} {x : Ex} {S' : Store} {Q : VK} (rl : Rel K cm g H) (q : RP K cm (Den K cm) E g H (cutX g.S.length x S') Q) :
    ∀ g' H' cls dd, Ext g H g' H' → Rel K cm g' H' → g'.S = S' → ExcAt K cm H g' x cls dd H' → E cls dd H' := by
  intro g' H' cls dd e rl' es xa
  unfold cutX at q
  split at q
  · exact q g' H' cls dd e rl' es xa
  · split at q
    · rename_i hb
      rw [← es] at q hb
      obtain ⟨C, d, vs, a1, a2, a3, a4, a5, a6, a7, a8⟩ := xa
      refine q (g'.cut g.S.length) H' cls dd (e.cut rl.len.symm) (rl'.cut hb.2.2) rfl ⟨C, d, vs, a1, a2, a3, a4, a5, a6, fun z => a7 (live_cut z), a8.cutted hb.2.1⟩
    · exact q g' H' cls dd e rl' es xa
section
variable {P : Program} {w : World} {K : PySem.W.Frag} {mg : Str → Option Value} {base : Heap} {cm : CM}
/-- the wish of a def's body about errors -/
abbrev WO (E : XK) : WX := fun cls d _ H => E cls d H
theorem body_ok {N : List Str} {X : Cx} {f : SS} {E : XK} {vs : List V} {H : Hp} {Q : VK} {n : Nat} (hX : X.K = K) (hN : X.N = N) (h : spV K cm n (runB N.length f) vs H Q E) :
    tS K cm (WO E) f { nx := fun _ H' => Q .non H', rt := Q } (L2.start N vs) H := by
  obtain ⟨_, g, ds, rl, dl, q⟩ := h
  refine ⟨g, _, rl, denE_start dl N, ?_⟩
  unfold runB at q
  revert q
  cases hr : f (ds.map some ++ List.replicate (N.length - ds.length) none) g.S with
  | nx ρ' S' => exact fun q g' H' σ' e rl' es de => cut_ok rl q g' H' .non e rl' es .non
  | ret d S' => exact fun q g' H' v e rl' es dn => cut_ok rl q g' H' v e rl' es dn
  | brk ρ' S' => exact fun q => q.elim
  | cnt ρ' S' => exact fun q => q.elim
  | exc x ρ' S' => exact fun q g' H' σ' cls dd e rl' es de xa => cutX_ok rl q g' H' cls dd e rl' es xa
  | bad => exact fun q => q
theorem fn_vs {x qual : Str} {st : Stmt} {f : Addr} {fd : FuncData} {N ps : List Str} {k : Nat} {body : SS} (F : Fun K x qual st f fd) (S : FnScope N ps (defScope st))
    (hbody : ∀ (cdv : Value) (A : Around) (outer : List PySem.Env) (s : Shared) (H : Hp) (E : XK), Room k (A.deeper (envOfC qual (defScope st) s.heap.objs.size f cdv)) →
      VSs (cxOf (L2.CX P w) P w K mg base N qual (defScope st) f cdv A outer s H E) cm (WO E) (defBody st) body) : FnOk P w K mg base (L2.CX P w) (k + 1) f fd ps (spV K cm ps.length (runB N.length body)) :=
  F.okX S (fun vs H Q E h => h.1) fun cdv A outer s H vs Q E hr h => ⟨_, hbody cdv A outer s H E hr, body_ok (X := cxOf (L2.CX P w) P w K mg base N qual (defScope st) f cdv A outer s H E) rfl rfl h⟩
end

/-! ### calls of defs -/
/-- a def that stands at f, called x in the text -/
structure FV (P : Program) (w : World) (K : PySem.W.Frag) (mg : Str → Option Value) (base : Heap) (cm : CM) (k : Nat) (x : Str) (ps : List Str) (F : Fn) : Prop where
  ex : ∃ (f : Addr) (fd : FuncData), FnOk P w K mg base (L2.CX P w) k f fd ps (spV K cm ps.length F) ∧ mg x = some (.ref f) ∧ PySem.W.keepIn K (.ref f) = true ∧ Binds K fd ps []
section
variable {X : Cx} {cm : CM} {W : WX} {k : Nat} {x : Str} {ps : List Str} {F : Fn} {p pos : Pos} {e : Expr} {es : List Expr} {fa : SA}
/-- f(e, ..), as many as there are parameters -/
def sApp (n : Nat) (F : Fn) (fa : SA) : SE := fun ρ S => (fa ρ S).bind fun ds S1 => if ds.length = n then F ds S1 else .bad
theorem ve_app (V : FV X.prog X.w X.K X.mg X.base cm k x ps F) (hr : Room k X.A) (tk : Takes X W) (hg : Gl X x) (ha : VA X cm W (e :: es) fa) (hdb : (x == ("__debug__" : Str)) = false := by decide)
    (he : starEach (e :: es) X.env = (false, eval e X.env) :: starEach es X.env := by rfl) (hpl : (backTo pos (starEach es X.env)).any (·.1) = false := by rfl) : VE X cm W (.Call (.Name x p) (e :: es) [] pos) (sApp ps.length F fa) := by
  obtain ⟨f, fd, hF, hm, hk, hb⟩ := V.ex
  refine PE.imp (pe_callS (E := WE W) hF hr hg hm hk hb (fun σ => passAt tk σ) ha hdb he hpl) fun σ H Q ⟨g, ρ, rl, de, q⟩ => ⟨g, ρ, rl, de, RP.mono (RP.step q) fun vs H1 ⟨ds, g1, e1, rl1, dl, q1⟩ => ?_⟩
  split at q1
  · rename_i hl
    exact ⟨by rw [dl.length]; exact hl, g1, ds, rl1, dl, q1⟩
  · exact q1.elim
end
end VS
end
section
set_option Elab.async false
set_option linter.all false
set_option maxRecDepth 100000
/-! VS: zip, enumerate, isinstance, methods, dicts displayed, keywords -/
namespace VS
open PySem PySem.Spec PyProof.Rows L2

/-! ### zip, enumerate -/
theorem pairAt_some {xs ys : List D} {i : Nat} {d : D} (h : pairAt xs ys i = some d) : ∃ x y, xs[i]? = some x ∧ ys[i]? = some y ∧ d = .tup [x, y] := by
  unfold pairAt at h
  split at h
  · rename_i x y h1 h2
    exact ⟨x, y, h1, h2, (Option.some.inj h).symm⟩
  · cases h
theorem pairAt_none {xs ys : List D} {i : Nat} (h : pairAt xs ys i = none) : xs.length ≤ i ∨ ys.length ≤ i := by
  unfold pairAt at h
  split at h
  · cases h
  · rename_i hn
    cases h1 : xs[i]? with
    | none => exact .inl (List.getElem?_eq_none_iff.mp h1)
    | some x =>
      cases h2 : ys[i]? with
      | none => exact .inr (List.getElem?_eq_none_iff.mp h2)
      | some y => exact absurd h2 (hn x y h1)
section
variable {K : PySem.W.Frag} {cm : CM} {g : G} {H : Hp}
theorem new_pair {x y : V} {d e : D} {T : Addr} (rl : Rel K cm g H) (hT : H T = none) (dx : Den K cm g x d) (dy : Den K cm g y e) :
    ∃ g'', Ext g H g'' (upd H T (.tup [x, y])) ∧ Rel K cm g'' (upd H T (.tup [x, y])) ∧ g''.S = g.S ∧ Den K cm g'' (.ref T) (.tup [d, e]) := by
  obtain ⟨n1, n2⟩ := rl.free hT
  have m := frz_sub (o := .tup [x, y]) n1
  exact ⟨g.frz T _, (Ext.laid hT).frz hT n1, (rl.laid hT).frz n1 n2 upd_same, rfl, .tup (SqT.of upd_same) (.cons (dx.mono m fun _ _ z => z) (.cons (dy.mono m fun _ _ z => z) .nil))⟩
theorem src_zipL {a b : Addr} {d e : D} (da : Den K cm g (.ref a) d) (db : Den K cm g (.ref b) e) : SrcOk K cm g H (Itz K a b) (.zipL d e) := by
  have inv : ∀ {g' H' i o}, Ext g H g' H' → Rel K cm g' H' → (Src.zipL d e).at g'.S i = some o → ∃ xs ys vs ws, SqL K H' a vs ∧ DenL K cm g' vs xs ∧ SqL K H' b ws ∧ DenL K cm g' ws ys ∧ pairAt xs ys i = o := by
    intro g' H' i o ex rl h
    obtain ⟨xs, h1, h⟩ := Option.bind_eq_some_iff.mp (show (lookL g'.S d).bind (fun xs => (lookL g'.S e).map fun ys => pairAt xs ys i) = some o from h)
    obtain ⟨ys, h2, h⟩ := Option.map_eq_some_iff.mp h
    obtain ⟨a', vs, ea, q1, q2⟩ := (ex.den da).lookL rl h1
    obtain ⟨b', ws, eb, q3, q4⟩ := (ex.den db).lookL rl h2
    cases ea
    cases eb
    exact ⟨xs, ys, vs, ws, q1, q2, q3, q4, h⟩
  refine ⟨fun g' H' i o ex rl h => ?_, fun g' H' i o x H'' ex rl h y => ?_, fun g' H' i ex rl h => ?_⟩
  · obtain ⟨xs, ys, vs, ws, q1, q2, q3, q4, hp⟩ := inv ex rl h
    obtain ⟨x, y, h1, h2, _⟩ := pairAt_some hp
    obtain ⟨v, h3, _⟩ := q2.get h1
    obtain ⟨w, h4, _⟩ := q4.get h2
    exact ⟨vs, ws, v, w, q1, q3, h3, h4⟩
  · obtain ⟨xs, ys, vs, ws, q1, q2, q3, q4, hp⟩ := inv ex rl h
    obtain ⟨x', y', h1, h2, rfl⟩ := pairAt_some hp
    obtain ⟨v, h3, h5⟩ := q2.get h1
    obtain ⟨w, h4, h6⟩ := q4.get h2
    obtain ⟨T, v', w', rfl, hT, rfl, z1, z2⟩ := y
    have e1 := z1 vs q1
    rw [h3] at e1
    cases e1
    have e2 := z2 ws q3
    rw [h4] at e2
    cases e2
    exact new_pair rl hT h5 h6
  · obtain ⟨xs, ys, vs, ws, q1, q2, q3, q4, hp⟩ := inv ex rl h
    exact ⟨vs, ws, q1, q3, by rw [q2.length, q4.length]; exact pairAt_none hp⟩
theorem src_zipT {a b : Addr} {xs ys : List D} {vs ws : List V} (q1 : SqT K g.F a vs) (q2 : DenL K cm g vs xs) (q3 : SqT K g.F b ws) (q4 : DenL K cm g ws ys) : SrcOk K cm g H (RZ.ItzT K a b) (.zipT xs ys) := by
  have up : ∀ {g' H' c us}, Ext g H g' H' → Rel K cm g' H' → SqT K g.F c us → SqT K H' c us := fun {g' H' c us} ex rl q => SqT.sub (fun b o z => rl.sub b o (ex.fz b o z)) q
  refine ⟨fun g' H' i o ex rl h => ?_, fun g' H' i o x H'' ex rl h y => ?_, fun g' H' i ex rl h => ?_⟩
  · obtain ⟨x, y, h1, h2, _⟩ := pairAt_some (Option.some.inj h)
    obtain ⟨v, h3, _⟩ := q2.get h1
    obtain ⟨w, h4, _⟩ := q4.get h2
    exact ⟨vs, ws, v, w, up ex rl q1, up ex rl q3, h3, h4⟩
  · obtain ⟨x', y', h1, h2, rfl⟩ := pairAt_some (Option.some.inj h)
    obtain ⟨v, h3, h5⟩ := q2.get h1
    obtain ⟨w, h4, h6⟩ := q4.get h2
    obtain ⟨T, v', w', rfl, hT, rfl, z1, z2⟩ := y
    have e1 := z1 vs (up ex rl q1)
    rw [h3] at e1
    cases e1
    have e2 := z2 ws (up ex rl q3)
    rw [h4] at e2
    cases e2
    exact new_pair rl hT (ex.den h5) (ex.den h6)
  · exact ⟨vs, ws, up ex rl q1, up ex rl q3, by rw [q2.length, q4.length]; exact pairAt_none (Option.some.inj h)⟩
theorem src_enum {a : Addr} {d : D} (dn : Den K cm g (.ref a) d) : SrcOk K cm g H (Ite K a) (.enum d) := by
  have inv : ∀ {g' H' i o}, Ext g H g' H' → Rel K cm g' H' → (Src.enum d).at g'.S i = some o → ∃ xs vs, SqL K H' a vs ∧ DenL K cm g' vs xs ∧ xs[i]?.map (fun x => D.tup [.int i, x]) = o := by
    intro g' H' i o ex rl h
    obtain ⟨xs, h1, h⟩ := Option.map_eq_some_iff.mp (show (lookL g'.S d).map (fun xs => xs[i]?.map fun x => D.tup [.int i, x]) = some o from h)
    obtain ⟨a', vs, ea, q1, q2⟩ := (ex.den dn).lookL rl h1
    cases ea
    exact ⟨xs, vs, q1, q2, h⟩
  refine ⟨fun g' H' i o ex rl h => ?_, fun g' H' i o x H'' ex rl h y => ?_, fun g' H' i ex rl h => ?_⟩
  · obtain ⟨xs, vs, q1, q2, hp⟩ := inv ex rl h
    obtain ⟨x, h1, _⟩ := Option.map_eq_some_iff.mp hp
    obtain ⟨v, h3, _⟩ := q2.get h1
    exact ⟨vs, v, q1, h3⟩
  · obtain ⟨xs, vs, q1, q2, hp⟩ := inv ex rl h
    obtain ⟨x', h1, rfl⟩ := Option.map_eq_some_iff.mp hp
    obtain ⟨v, h3, h5⟩ := q2.get h1
    obtain ⟨T, v', rfl, hT, rfl, z1⟩ := y
    have e1 := z1 vs q1
    rw [h3] at e1
    cases e1
    exact new_pair rl hT (.int _) h5
  · obtain ⟨xs, vs, q1, q2, hp⟩ := inv ex rl h
    refine ⟨vs, q1, ?_⟩
    rw [q2.length]
    cases h1 : xs[i]? with
    | none => exact List.getElem?_eq_none_iff.mp h1
    | some x =>
      rw [h1] at hp
      cases hp
end
def iZipS (fa : SA) : SI := fun ρ S => (fa ρ S).bind fun ds S1 => match ds with
  | [a, b] => match lookT a, lookT b with
    | some xs, some ys => .ok (.zipT xs ys) S1
    | _, _ => match lookL S1 a, lookL S1 b with
      | some _, some _ => .ok (.zipL a b) S1
      | _, _ => .bad
  | _ => .bad
def iEnumS (fa : SA) : SI := fun ρ S => (fa ρ S).bind fun ds S1 => match ds with
  | [a] => match lookL S1 a with
    | some _ => .ok (.enum a) S1
    | none => .bad
  | _ => .bad
theorem IP.step {K : PySem.W.Frag} {cm : CM} {β γ : Type} {den : G → γ → β → Prop} {W : Value → Option Addr → Hp → Prop} {g : G} {H : Hp} {r : R β} {f : β → Store → R Src} {Q : It → Hp → Prop} (h : IP K cm W g H (r.bind f) Q) :
    RP K cm den W g H r fun v H1 => ∃ d g1, Ext g H g1 H1 ∧ Rel K cm g1 H1 ∧ den g1 v d ∧ IP K cm W g1 H1 (f d g1.S) Q := by
  cases r with
  | ok d S =>
    intro g1 H1 v e rl es q
    refine ⟨d, g1, e, rl, q, ?_⟩
    rw [es]
    have h' : IP K cm W g H (f d S) Q := h
    revert h'
    cases f d S with
    | ok src S2 => exact fun h' g2 H2 J e2 => h' g2 H2 J (e.trans e2)
    | exc x S2 => exact fun h' g2 H2 cls dd e2 rl2 es2 ⟨C, d, vs, a1, a2, a3, a4, a5⟩ => h' g2 H2 cls dd (e.trans e2) rl2 es2 ⟨C, d, vs, a1, a2, a3, e.nn d a4, a5⟩
    | bad => exact fun h' => h'
  | exc x S => exact h
  | bad => exact h
theorem IP.ret {K : PySem.W.Frag} {cm : CM} {W : Value → Option Addr → Hp → Prop} {g : G} {H : Hp} {src : Src} {J : It} {Q : It → Hp → Prop} (h : IP K cm W g H (.ok src g.S) Q) (rl : Rel K cm g H) (s : SrcOk K cm g H J src) : Q J H := h g H J (Ext.refl _ _) rl rfl s
section
variable {X : Cx} {cm : CM} {W : WX} {e e2 : Expr} {fa : SA} {p pos tpos : Pos} {elts : List Expr} {kk : Nat}
theorem two_of {K : PySem.W.Frag} {g : G} {xs : List V} {d e : D} (h : DenL K cm g xs [d, e]) : ∃ x y, xs = [x, y] ∧ Den K cm g x d ∧ Den K cm g y e := by
  cases h with
  | cons h t =>
    cases t with
    | cons h2 t =>
      cases t
      exact ⟨_, _, rfl, h, h2⟩
theorem vi_zip (hg : Gl X "zip") (hm : X.mg "zip" = none) (ha : VA X cm W [e, e2] fa) (hs : starEach [e, e2] X.env = (false, eval e X.env) :: starEach [e2] X.env := by rfl) (hpl : (backTo pos (starEach [e2] X.env)).any (·.1) = false := by rfl) :
    VI X cm W (.Tuple elts kk tpos) (.Call (.Name "zip" p) [e, e2] [] pos) (iZipS fa) := by
  refine PI.imp (RZ.pi_zipA hg hm ha hs hpl) fun σ H Q ⟨g, ρ, rl, de, q⟩ => ⟨g, ρ, rl, de, RP.mono (IP.step q) fun vs H1 ⟨ds, g1, e1, rl1, dl, q1⟩ => ?_⟩
  split at q1
  · rename_i a b
    obtain ⟨x, y, rfl, dx, dy⟩ := two_of dl
    split at q1
    · rename_i xs ys h1 h2
      cases dx with
      | tup s1 l1 =>
        cases h1
        cases dy with
        | tup s2 l2 =>
          cases h2
          exact ⟨_, _, _, _, rfl, .inr ⟨SqT.sub rl1.sub s1, SqT.sub rl1.sub s2, IP.ret q1 rl1 (src_zipT s1 l1 s2 l2)⟩⟩
        | _ => cases h2
      | _ => cases h1
    · split at q1
      · rename_i xs ys h1 h2
        obtain ⟨a', vs, rfl, q3, q4⟩ := dx.lookL rl1 h1
        obtain ⟨b', ws, rfl, q5, q6⟩ := dy.lookL rl1 h2
        exact ⟨_, _, _, _, rfl, .inl ⟨q3, q5, IP.ret q1 rl1 (src_zipL dx dy)⟩⟩
      · exact q1.elim
  · exact q1.elim
theorem vi_enum (hg : Gl X "enumerate") (hm : X.mg "enumerate" = none) (ha : VA X cm W [e] fa) (hs : starEach [e] X.env = [(false, eval e X.env)] := by rfl) :
    VI X cm W (.Tuple elts kk tpos) (.Call (.Name "enumerate" p) [e] [] pos) (iEnumS fa) := by
  refine PI.imp (pi_enum hg hm ha hs) fun σ H Q ⟨g, ρ, rl, de, q⟩ => ⟨g, ρ, rl, de, RP.mono (IP.step q) fun vs H1 ⟨ds, g1, e1, rl1, dl, q1⟩ => ?_⟩
  split at q1
  · rename_i a
    obtain ⟨x, rfl, dx⟩ := one_of (α := Unit) dl
    split at q1
    · rename_i xs h1
      obtain ⟨a', vs, rfl, q3, q4⟩ := dx.lookL rl1 h1
      exact ⟨_, _, rfl, q3, IP.ret q1 rl1 (src_enum dx)⟩
    · exact q1.elim
  · exact q1.elim
end

/-! ### methods of lists -/
def mApp (f : D → List D → Store → R D) (fo : SE) (fa : SA) : SE := fun ρ S => (fo ρ S).bind fun o S1 => (fa ρ S1).bind fun ds S2 => f o ds S2
def isListD (S : Store) (d : D) : Bool := (lookL S d).isSome
/-- a list's method: the object is looked at ahead of the arguments -/
def mList (f : D → List D → Store → R D) (fo : SE) (fa : SA) : SE := fun ρ S => (fo ρ S).bind fun o S1 => if isListD S1 o = true then (fa ρ S1).bind fun ds S2 => f o ds S2 else .bad
def MethD (X : Cx) (cm : CM) (r : V → List V → Hp → VK → Prop) (f : D → List D → Store → R D) : Prop :=
  ∀ (W : Value → Option Addr → Hp → Prop) (g : G) (H : Hp) (x : V) (d : D) (xs : List V) (ds : List D) (Q : VK), Rel X.K cm g H → Den X.K cm g x d → DenL X.K cm g xs ds → RP X.K cm (Den X.K cm) W g H (f d ds g.S) Q → r x xs H Q
def appendD (o : D) (ds : List D) (S : Store) : R D := match o, ds with
  | .cel k, [d] => match S[k]? with
    | some (.lst xs) => if xs.length < sizeLine then .ok .non (S.set k (.lst (xs ++ [d]))) else .bad
    | _ => .bad
  | _, _ => .bad
def popAtD (o : D) (ds : List D) (S : Store) : R D := match o, ds with
  | .cel k, [.int i] => match S[k]? with
    | some (.lst xs) => if -(2 ^ 63) ≤ i ∧ i < 2 ^ 63 then match seqIndex? i xs.length with
        | some j => match xs[j]? with
          | some d => .ok d (S.set k (.lst (xs.eraseIdx j)))
          | none => .bad
        | none => .bad
      else .bad
    | _ => .bad
  | _, _ => .bad
def countD (o : D) (ds : List D) (S : Store) : R D := match ds with
  | [d] => match lookL S o with
    | some xs => if flatD d = true ∧ xs.all flatD = true then .ok (.int (xs.countP fun y => eqFl y d)) S else .bad
    | none => .bad
  | _ => .bad
def indexD (o : D) (ds : List D) (S : Store) : R D := match ds with
  | [d] => match lookL S o with
    | some xs => if flatD d = true ∧ xs.all flatD = true then match xs.findIdx? fun y => eqFl y d with
        | some j => .ok (.int (j : Nat)) S
        | none => .bad
      else .bad
    | none => .bad
  | _ => .bad
def rCnt (K : PySem.W.Frag) : V → List V → Hp → VK → Prop := fun x xs H Q => ∃ (p : Addr) (ys : List V) (y : V), x = .ref p ∧ xs = [y] ∧ SqL K H p ys ∧ flatV y = true ∧ ys.all flatV = true ∧ Q (.int (ys.countP fun z => eqV z y : Nat)) H
section
variable {X : Cx} {cm : CM} {W : WX} {o e : Expr} {es : List Expr} {fo : SE} {fa : SA} {apos cpos : Pos}
theorem countP_eqU {x : V} : ∀ {xs : List V} {us : List Value}, Vals xs us → xs.all flatV = true → us.countP (eqU x) = xs.countP fun y => eqV y x
  | _, _, .nil, _ => rfl
  | y :: xs, u :: us, .cons r t, f => by
    rw [List.all_cons, Bool.and_eq_true] at f
    rw [List.countP_cons, List.countP_cons, eqU_of r f.1, countP_eqU t f.2]
theorem mt_cnt : MtR X "list.count" (rCnt X.K) := by
  intro pins s σ H x xs v us Q I rx rxs h
  obtain ⟨p, ys, y, rfl, rfl, hs, fy, fs, q⟩ := h
  cases rx
  obtain ⟨u, rfl, ru⟩ := rxs.one
  obtain ⟨its, rv, ⟨⟨cls, dd, data, sl⟩, n, ho, hc, hdn, hd⟩, hlen⟩ := I.list hs
  simp only at hc hd
  subst hc hd
  refine call_meets PySem.F.slot_list_count ⟨_, ho, rfl⟩ PySem.F.entry_list_count (PySem.F.args_list_count_2 _ _)
    (SeqAt.list_countAt p its.toArray n dd sl u (eqU y)) ⟨ho, fun z hz => mem_eqAt ru fy rv fs z (by simpa using hz), ?_⟩
  refine ⟨.int (ys.countP fun z => eqV z y : Nat), H, I.tok _, ⟨s.toks, ?_⟩, q⟩
  show Value.int ((its.toArray.toList.countP (eqU y) : Nat) : Int) s.toks = Value.int ((ys.countP fun z => eqV z y : Nat) : Int) s.toks
  rw [← countP_eqU rv fs]
theorem celL {K : PySem.W.Frag} {g : G} {H : Hp} {x : V} {k : Nat} {xs : List D} (rl : Rel K cm g H) (h : Den K cm g x (.cel k)) (hk : g.S[k]? = some (.lst xs)) : ∃ a vs, x = .ref a ∧ g.α[k]? = some a ∧ H a = some (.lst vs) ∧ DenL K cm g vs xs := by
  cases h with
  | cel ha =>
    obtain ⟨_, vs, e, l⟩ := rl.cells k _ _ ha hk rfl
    exact ⟨_, vs, rfl, ha, e, l⟩
/-- a cell's list becomes another -/
theorem put_list {K : PySem.W.Frag} {g : G} {H : Hp} {a : Addr} {k : Nat} {xs ys : List D} {vs ws : List V} {W : Value → Option Addr → Hp → Prop} {d : D} {v : V} {Q : VK} (rl : Rel K cm g H) (ha : g.α[k]? = some a) (hk : g.S[k]? = some (.lst xs)) (e : H a = some (.lst vs)) (l : DenL K cm g ws ys) (dn : Den K cm g v d)
    (q : RP K cm (Den K cm) W g H (.ok d (g.S.set k (.lst ys))) Q) : Q v (upd H a (.lst ws)) := by
  have ok : CellOk K cm g (upd H a (.lst ws)) a (.lst ys) := ⟨_, upd_same, l⟩
  have ex := Ext.put (H := H) (o := .lst ws) (c := .lst ys) ha hk rfl ⟨_, e, fun _ z => nomatch z⟩
  exact q (g.put k _) _ v ex (rl.put ha hk rfl ok) rfl (ex.den dn)
theorem appendD_ok : MethD X cm rAppend appendD := by
  intro W g H x d xs ds Q rl dn dl q
  unfold appendD at q
  split at q
  · split at q
    · rename_i ys hk
      split at q
      · rename_i hz
        obtain ⟨a, vs, rfl, ha, e, l⟩ := celL rl dn hk
        obtain ⟨y, rfl, dy⟩ := one_of (α := Unit) dl
        exact ⟨a, vs, y, rfl, rfl, e, by rw [l.length]; exact hz, put_list rl ha hk e (l.append (.cons dy .nil)) .non q⟩
      · exact q.elim
    · exact q.elim
  · exact q.elim
theorem popAtD_ok : MethD X cm rPopAt popAtD := by
  intro W g H x d xs ds Q rl dn dl q
  unfold popAtD at q
  split at q
  · split at q
    · rename_i ys hk
      split at q
      · rename_i hz
        split at q
        · rename_i j hj
          split at q
          · rename_i z hzj
            obtain ⟨a, vs, rfl, ha, e, l⟩ := celL rl dn hk
            obtain ⟨y, rfl, dy⟩ := one_of (α := Unit) dl
            cases dy
            obtain ⟨v, h1, h2⟩ := l.get hzj
            exact ⟨a, vs, _, j, v, rfl, rfl, e, hz.1, hz.2, by rw [l.length]; exact hj, h1, put_list rl ha hk e (l.eraseIdx j) h2 q⟩
          · exact q.elim
        · exact q.elim
      · exact q.elim
    · exact q.elim
  · exact q.elim
theorem countD_ok : MethD X cm (rCnt X.K) countD := by
  intro W g H x d xs ds Q rl dn dl q
  unfold countD at q
  split at q
  · rename_i c
    split at q
    · rename_i ys hk
      split at q
      · rename_i hf
        obtain ⟨a, vs, rfl, h1, h2⟩ := dn.lookL rl hk
        obtain ⟨y, rfl, dy⟩ := one_of (α := Unit) dl
        have e1 := dy.flat hf.1
        have e2 := h2.flatV hf.2
        subst e1 e2
        refine ⟨a, _, _, rfl, rfl, h1, flat_toV hf.1, all_flatV hf.2, ?_⟩
        have e3 : (ys.map toV).countP (fun z => eqV z (toV c)) = ys.countP fun y => eqFl y c := by
          rw [List.countP_map]
          refine List.countP_congr fun z hz => ?_
          show eqV (toV z) (toV c) = true ↔ eqFl z c = true
          rw [eqFl_V (List.all_eq_true.mp hf.2 z hz) hf.1]
        rw [e3]
        exact RP.ret q rl (.int _)
      · exact q.elim
    · exact q.elim
  · exact q.elim
theorem indexD_ok : MethD X cm (rIndex X.K) indexD := by
  intro W g H x d xs ds Q rl dn dl q
  unfold indexD at q
  split at q
  · rename_i c
    split at q
    · rename_i ys hk
      split at q
      · rename_i hf
        split at q
        · rename_i j hj
          obtain ⟨a, vs, rfl, h1, h2⟩ := dn.lookL rl hk
          obtain ⟨y, rfl, dy⟩ := one_of (α := Unit) dl
          have e1 := dy.flat hf.1
          have e2 := h2.flatV hf.2
          subst e1 e2
          obtain ⟨hlt, hp, hno⟩ := List.findIdx?_eq_some_iff_getElem.mp hj
          refine ⟨a, _, _, j, toV ys[j], rfl, rfl, h1, flat_toV hf.1, all_flatV hf.2, by rw [List.getElem?_map, List.getElem?_eq_getElem hlt]; rfl, ?_, fun m z' hm hz' => ?_, RP.ret q rl (.int _)⟩
          · rw [eqFl_V (List.all_eq_true.mp hf.2 _ (List.getElem_mem hlt)) hf.1]
            exact hp
          · rw [List.getElem?_map] at hz'
            obtain ⟨z, h3, rfl⟩ := Option.map_eq_some_iff.mp hz'
            obtain ⟨h4, h5⟩ := List.getElem?_eq_some_iff.mp h3
            rw [eqFl_V (List.all_eq_true.mp hf.2 _ (List.mem_of_getElem? h3)) hf.1, ← h5]
            simpa using hno m hm
        · exact q.elim
      · exact q.elim
    · exact q.elim
  · exact q.elim
theorem ve_listM {T id name} {r : V → List V → Hp → VK → Prop} {f : D → List D → Store → R D} (hT : T = "list") (pa : PlainAttrs T) (slot : Slot T name id) (hty : typeOf (.builtin id) = pure (.type "method_descriptor")) (hm : MtR X id r) (hd : MethD X cm r f) (ho : VE X cm W o fo) (ha : VA X cm W (e :: es) fa)
    (hbase : attributeBase o name X.env (eval o X.env) = eval o X.env := by rfl)
    (hfew : ((backTo cpos (starEach (e :: es) X.env)).all (fun x => !x.1) && (backToKw cpos (keywordEach [] X.env)).all (fun x => x.1.isSome)
      && decide ((e :: es).length + ([] : List Keyword).length + (if ([] : List Keyword).isEmpty then 0 else 1) < 30)) = true := by rfl)
    (hline : (apos.endLine == cpos.line) = true := by rfl) (hs : starEach (e :: es) X.env = (false, eval e X.env) :: starEach es X.env := by rfl) (hplain : (backTo cpos (starEach es X.env)).any (·.1) = false := by rfl) :
    VE X cm W (.Call (.Attribute o name apos) (e :: es) [] cpos) (mList f fo fa) := by
  subst hT
  refine PE.imp (pe_bm pa slot hty hm ho ha hbase hfew hline hs hplain) fun σ H Q ⟨g, ρ, rl, de, q⟩ => ⟨g, ρ, rl, de, RP.mono (RP.step q) fun x H1 ⟨d, g1, e1, rl1, dn, q1⟩ => ?_⟩
  split at q1
  · rename_i hl
    obtain ⟨xs, hx⟩ := Option.isSome_iff_exists.mp hl
    obtain ⟨a, vs, rfl, h1, h2⟩ := dn.lookL rl1 hx
    refine ⟨.inl ⟨rfl, vs, h1⟩, g1, ρ, rl1, e1.denE de, RP.mono (RP.step q1) fun ys H2 ⟨ds, g2, e2, rl2, dl, q2⟩ => ?_⟩
    exact hd _ g2 H2 _ d ys ds Q rl2 (e2.den dn) dl q2
  · exact q1.elim
theorem ve_append (ho : VE X cm W o fo) (ha : VA X cm W [e] fa) (hbase : attributeBase o "append" X.env (eval o X.env) = eval o X.env := by rfl) (hline : (apos.endLine == cpos.line) = true := by rfl)
    (hfew : ((backTo cpos (starEach [e] X.env)).all (fun x => !x.1) && (backToKw cpos (keywordEach [] X.env)).all (fun x => x.1.isSome) && decide ([e].length + ([] : List Keyword).length + (if ([] : List Keyword).isEmpty then 0 else 1) < 30)) = true := by rfl)
    (hs : starEach [e] X.env = (false, eval e X.env) :: starEach [] X.env := by rfl) (hplain : (backTo cpos (starEach [] X.env)).any (·.1) = false := by rfl) : VE X cm W (.Call (.Attribute o "append" apos) [e] [] cpos) (mList appendD fo fa) :=
  ve_listM rfl PySem.F.plainAttrs_list PySem.F.slot_list_append PySem.F.type_list_append mt_append appendD_ok ho ha hbase hfew hline hs hplain
theorem ve_popAt (ho : VE X cm W o fo) (ha : VA X cm W [e] fa) (hbase : attributeBase o "pop" X.env (eval o X.env) = eval o X.env := by rfl) (hline : (apos.endLine == cpos.line) = true := by rfl)
    (hfew : ((backTo cpos (starEach [e] X.env)).all (fun x => !x.1) && (backToKw cpos (keywordEach [] X.env)).all (fun x => x.1.isSome) && decide ([e].length + ([] : List Keyword).length + (if ([] : List Keyword).isEmpty then 0 else 1) < 30)) = true := by rfl)
    (hs : starEach [e] X.env = (false, eval e X.env) :: starEach [] X.env := by rfl) (hplain : (backTo cpos (starEach [] X.env)).any (·.1) = false := by rfl) : VE X cm W (.Call (.Attribute o "pop" apos) [e] [] cpos) (mList popAtD fo fa) :=
  ve_listM rfl PySem.F.plainAttrs_list PySem.F.slot_list_pop PySem.F.type_list_pop mt_popAt popAtD_ok ho ha hbase hfew hline hs hplain
theorem ve_count (ho : VE X cm W o fo) (ha : VA X cm W [e] fa) (hbase : attributeBase o "count" X.env (eval o X.env) = eval o X.env := by rfl) (hline : (apos.endLine == cpos.line) = true := by rfl)
    (hfew : ((backTo cpos (starEach [e] X.env)).all (fun x => !x.1) && (backToKw cpos (keywordEach [] X.env)).all (fun x => x.1.isSome) && decide ([e].length + ([] : List Keyword).length + (if ([] : List Keyword).isEmpty then 0 else 1) < 30)) = true := by rfl)
    (hs : starEach [e] X.env = (false, eval e X.env) :: starEach [] X.env := by rfl) (hplain : (backTo cpos (starEach [] X.env)).any (·.1) = false := by rfl) : VE X cm W (.Call (.Attribute o "count" apos) [e] [] cpos) (mList countD fo fa) :=
  ve_listM rfl PySem.F.plainAttrs_list PySem.F.slot_list_count PySem.F.type_list_count mt_cnt countD_ok ho ha hbase hfew hline hs hplain
theorem ve_index (ho : VE X cm W o fo) (ha : VA X cm W [e] fa) (hbase : attributeBase o "index" X.env (eval o X.env) = eval o X.env := by rfl) (hline : (apos.endLine == cpos.line) = true := by rfl)
    (hfew : ((backTo cpos (starEach [e] X.env)).all (fun x => !x.1) && (backToKw cpos (keywordEach [] X.env)).all (fun x => x.1.isSome) && decide ([e].length + ([] : List Keyword).length + (if ([] : List Keyword).isEmpty then 0 else 1) < 30)) = true := by rfl)
    (hs : starEach [e] X.env = (false, eval e X.env) :: starEach [] X.env := by rfl) (hplain : (backTo cpos (starEach [] X.env)).any (·.1) = false := by rfl) : VE X cm W (.Call (.Attribute o "index" apos) [e] [] cpos) (mList indexD fo fa) :=
  ve_listM rfl PySem.F.plainAttrs_list PySem.F.slot_list_index PySem.F.type_list_index mt_index indexD_ok ho ha hbase hfew hline hs hplain
end
end VS
end
section
set_option Elab.async false
set_option linter.all false
set_option maxRecDepth 100000
/-! VS: isinstance, classes -/
namespace VS
open PySem PySem.Spec PyProof.Rows L2

def subB (a b : BT) : Bool := a == b || (a == .bl && b == .int)
/-- what the text's own classes are: sub c c': c is below c' -/
structure CFacts (K : PySem.W.Frag) (cm : CM) (sub : Nat → Nat → Bool) : Prop where
  cc : ∀ c C c' C', cm c = some C → cm c' = some C' → PySem.W.kitOne K (.ref C) (.ref C') = some (sub c c')
  bc : ∀ (t : BT) c C, cm c = some C → PySem.W.kitOne K (.type t.nm) (.ref C) = some false
  cb : ∀ (t : BT) c C, cm c = some C → PySem.W.kitOne K (.ref C) (.type t.nm) = some false
  kx : ∀ c C, cm c = some C → ∀ x ox od, PySem.W.KitX K (.ref x) (.ref C) (fun h => PySem.W.InstAt h x ox C (some od))
  kp : ∀ c C, cm c = some C → PySem.W.keepIn K (.ref C) = true
/-- a datum's class -/
def tyD (S : Store) : D → Option D
  | .non => some (.ty .non)
  | .bl _ => some (.ty .bl)
  | .int _ => some (.ty .int)
  | .str _ => some (.ty .str)
  | .lst _ => some (.ty .lst)
  | .scr _ => some (.ty .lst)
  | .tup _ => some (.ty .tup)
  | .dic _ => some (.ty .dic)
  | .ins c _ => some (.cls c)
  | .exc c _ => some (.cls c)
  | .cel k => match S[k]? with
    | some (.lst _) => some (.ty .lst)
    | some (.dic _) => some (.ty .dic)
    | some (.obj c _) => some (.cls c)
    | _ => none
  | _ => none
def isOne (sub : Nat → Nat → Bool) : D → D → Option Bool
  | .ty a, .ty b => some (subB a b)
  | .ty _, .cls _ => some false
  | .cls _, .ty _ => some false
  | .cls a, .cls b => some (sub a b)
  | _, _ => none
def isAny (sub : Nat → Nat → Bool) (t : D) : List D → Option Bool
  | [] => some false
  | c :: cs => match isOne sub t c, isAny sub t cs with
    | some a, some b => some (a || b)
    | _, _ => none
def isiD (sub : Nat → Nat → Bool) (ds : List D) (S : Store) : R D := match ds with
  | [x, c] => match lookT c with
    | some cs => match (tyD S x).bind fun t => isAny sub t cs with
      | some b => .ok (.bl b) S
      | none => .bad
    | none => match (tyD S x).bind fun t => isOne sub t c with
      | some b => .ok (.bl b) S
      | none => .bad
  | _ => .bad

section
variable {K : PySem.W.Frag} {cm : CM} {sub : Nat → Nat → Bool} {g : G} {H : Hp}
/-- a class and its value -/
inductive TyV (cm : CM) : D → Value → Prop where
  | ty (t : BT) : TyV cm (.ty t) (.type t.nm)
  | cls {c : Nat} {C : Addr} : cm c = some C → TyV cm (.cls c) (.ref C)
theorem kit_bb : ∀ (a b : BT), kitB a.nm b.nm = some (subB a b) := by
  intro a b
  cases a <;> cases b <;> decide +kernel
theorem isOne_ok (cf : CFacts K cm sub) {t c : D} {tv cv : Value} {b : Bool} (ht : TyV cm t tv) (hc : TyV cm c cv) (h : isOne sub t c = some b) : PySem.W.kitOne K tv cv = some b := by
  cases ht with
  | ty a =>
    cases hc with
    | ty a' =>
      cases h
      exact kit_ty (kit_bb a a')
    | cls h' =>
      cases h
      exact cf.bc a _ _ h'
  | cls h1 =>
    cases hc with
    | ty a' =>
      cases h
      exact cf.cb a' _ _ h1
    | cls h2 =>
      cases h
      exact cf.cc _ _ _ _ h1 h2
theorem den_ty {v : V} {c : D} {u : Value} {t tv : _} (dn : Den K cm g v c) (r : RelV v u) (h : isOne sub t c ≠ none) (ht : TyV cm t tv) : TyV cm c u := by
  cases dn with
  | ty b =>
    obtain rfl : u = Value.type b.nm := r
    exact .ty b
  | @cls c C hc =>
    obtain rfl : u = Value.ref C := r
    exact .cls hc
  | _ =>
    cases ht <;> exact absurd rfl h
theorem isAny_ok (cf : CFacts K cm sub) {t : D} {tv : Value} (ht : TyV cm t tv) : ∀ {vs : List V} {cs : List D} {us : List Value} {b : Bool}, DenL K cm g vs cs → Vals vs us → isAny sub t cs = some b → PySem.W.kitAny K tv us = some b
  | _, _, _, b, .nil, .nil, h => by
    cases h
    rfl
  | _, _, _, b, .cons dn dl, .cons r rs, h => by
    unfold isAny at h
    split at h
    · rename_i b1 b2 h1 h2
      cases h
      have tv1 := den_ty dn r (by rw [h1]; exact fun z => nomatch z) ht
      refine kitAny_cons (b := b1) (isOne_ok cf ht tv1 h1) (fun e => ?_) fun e => by rw [e]; rfl
      rw [e, Bool.false_or]
      exact isAny_ok cf ht dl rs h2
    · cases h
variable {X : Cx} {pins : List (Addr × Obj)} {σ : L2.St} {s : Shared}
theorem kit_D (cf : CFacts X.K cm sub) (I : Inv X pins σ H s) (rl : Rel X.K cm g H) {x : V} {u : Value} {d t : D} (r : RelV x u) (dn : Den X.K cm g x d) (h : tyD g.S d = some t) :
    ∃ tv P, TyV cm t tv ∧ PySem.W.KitX X.K u tv P ∧ P s.heap ∧ u ≠ .builtin "__main__.__loader__#opaque" := by
  have own : ∀ {a C dx : Addr} {vs : List (Str × V)} {c : Nat}, cm c = some C → u = .ref a → H a = some (.ins C dx vs) → ∃ tv P, TyV cm (.cls c) tv ∧ PySem.W.KitX X.K u tv P ∧ P s.heap ∧ u ≠ .builtin "__main__.__loader__#opaque" := by
    intro a C dx vs c hc e ea
    subst e
    obtain ⟨mA, O, _⟩ := ins_get I.hok ea
    obtain ⟨od, J, _⟩ := O.look
    exact ⟨_, _, .cls hc, cf.kx _ _ hc _ _ od, J, fun z => nomatch z⟩
  have lst : ∀ {a : Addr} {vs : List V}, u = .ref a → SqL X.K H a vs → ∃ tv P, TyV cm (.ty .lst) tv ∧ PySem.W.KitX X.K u tv P ∧ P s.heap ∧ u ≠ .builtin "__main__.__loader__#opaque" := by
    intro a vs e ea
    subst e
    obtain ⟨its, _, ⟨o, n, e1, e2, _⟩, _⟩ := I.list ea
    exact ⟨_, _, .ty .lst, PySem.W.kitx_list, ⟨_, e1, e2⟩, fun z => nomatch z⟩
  have dic : ∀ {a : Addr} {kvs : List (Key × V)}, u = .ref a → H a = some (.dK kvs) → ∃ tv P, TyV cm (.ty .dic) tv ∧ PySem.W.KitX X.K u tv P ∧ P s.heap ∧ u ≠ .builtin "__main__.__loader__#opaque" := by
    intro a kvs e ea
    subst e
    obtain ⟨_, _, vs, _, o, es, ep, h1, h2, _⟩ := (show ObjOk X.prog X.w H s.heap a (.dK kvs) from I.hok a _ ea)
    exact ⟨_, _, .ty .dic, PySem.W.kitx_dict, ⟨o, h1, h2.1⟩, fun z => nomatch z⟩
  cases dn with
  | non => cases h; cases (show u = Value.none from r); exact ⟨_, _, .ty .non, PySem.W.kitx_none, True.intro, fun z => nomatch z⟩
  | bl b => cases h; cases (show u = Value.bool b from r); exact ⟨_, _, .ty .bl, PySem.W.kitx_bool, True.intro, fun z => nomatch z⟩
  | int i => cases h; obtain ⟨t, q⟩ := (show ∃ t, u = Value.int i t from r); cases q; exact ⟨_, _, .ty .int, PySem.W.kitx_int, True.intro, fun z => nomatch z⟩
  | str i => cases h; obtain ⟨t, q⟩ := (show ∃ t, u = Value.str i t from r); cases q; exact ⟨_, _, .ty .str, PySem.W.kitx_str, True.intro, fun z => nomatch z⟩
  | ty b => cases h
  | cls hc => cases h
  | clo => cases h
  | lst ea dl => cases h; exact lst r (SqL.of (rl.sub _ _ ea))
  | scr ea dl => cases h; exact lst r (SqL.sub rl.sub ea)
  | @tup a vs ds ea dl =>
    cases h
    obtain rfl : u = Value.ref a := r
    obtain ⟨its, _, ⟨o, e1, e2, _⟩, _⟩ := I.tuple (SqT.sub rl.sub ea)
    exact ⟨_, _, .ty .tup, PySem.W.kitx_tuple, ⟨_, e1, e2⟩, fun z => nomatch z⟩
  | ins ea hc dl => cases h; exact own hc r (rl.sub _ _ ea)
  | @exc a C dd c vs fs ea ed hc dl =>
    cases h
    obtain rfl : u = Value.ref a := r
    obtain ⟨⟨oe, w, e1, ⟨z1, z2⟩, e3⟩, _, _⟩ := (show ObjOk X.prog X.w H s.heap a (exO a C dd) from I.hok a _ (rl.sub _ _ ea))
    obtain ⟨mA, hns, _⟩ := (show ObjOk X.prog X.w H s.heap dd (.xd vs) from I.hok dd _ (rl.sub _ _ ed))
    obtain ⟨od, ho, _⟩ := lookIn_ns hns
    exact ⟨_, _, .cls hc, cf.kx _ _ hc _ oe od, ⟨e1, z1, by unfold PySem.W.notCls; rw [e3] <;> rfl, by rw [z2]; exact ho⟩, fun z => nomatch z⟩
  | dic ea dl => cases h; exact dic r (rl.sub _ _ ea)
  | @cel a k ha =>
    simp only [tyD] at h
    cases hS : g.S[k]? with
    | none => rw [hS] at h; cases h
    | some c =>
      rw [hS] at h
      cases c with
      | dead => cases h
      | lst ds =>
        cases h
        obtain ⟨_, vs, e, _⟩ := rl.cells k a _ ha hS rfl
        exact lst r (SqL.of e)
      | dic es =>
        cases h
        obtain ⟨_, kvs, e, _⟩ := rl.cells k a _ ha hS rfl
        exact dic r e
      | obj c fs =>
        cases h
        obtain ⟨_, C, dx, vs, hc, e, _⟩ := rl.cells k a _ ha hS rfl
        exact own hc r e
/-- isinstance(x, C), isinstance(x, (C1, ..)) -/
def rIsiS (cm : CM) (sub : Nat → Nat → Bool) (K : PySem.W.Frag) : List V → Hp → VK → Prop := fun xs H Q => ∃ (g : G) (ds : List D) (b : Bool), Rel K cm g H ∧ DenL K cm g xs ds ∧ isiD sub ds g.S = .ok (.bl b) g.S ∧ Q (.bl b) H
theorem call_isiS (cf : CFacts X.K cm sub) : CallR X (.builtin "isinstance") (rIsiS cm sub X.K) := by
  intro pins s σ H xs us Q I r h
  obtain ⟨g, ds, b, rl, dl, e, q⟩ := h
  unfold isiD at e
  split at e
  · rename_i x c
    cases dl with
    | cons d1 dl =>
    cases dl with
    | cons d2 dl =>
    cases dl
    obtain ⟨u1, u2, rfl, r1, r2⟩ := vals2 r
    split at e
    · rename_i cs hcs
      split at e
      · rename_i b' hb
        cases e
        obtain ⟨t, ht, ha⟩ := Option.bind_eq_some_iff.mp hb
        obtain ⟨tv, P, T, Z, p, hx⟩ := kit_D cf I rl r1 d1 ht
        obtain ⟨a, vs, rfl, h3, h4⟩ := d2.lookT rl hcs
        cases (show u2 = Value.ref a from r2)
        obtain ⟨its, rv, ⟨o, e1, e2, n, e3⟩, _⟩ := I.tuple h3
        obtain ⟨oc, od, dt, sl⟩ := o
        simp only at e2 e3
        subst e2 e3
        exact PySem.W.kia_tup Z I.kIn p e1 (isAny_ok cf T h4 rv ha) hx fun tk => ⟨.bl b, H, I.tok tk, rfl, q⟩
      · cases e
    · split at e
      · rename_i b' hb
        cases e
        obtain ⟨t, ht, ha⟩ := Option.bind_eq_some_iff.mp hb
        obtain ⟨tv, P, T, Z, p, hx⟩ := kit_D cf I rl r1 d1 ht
        exact PySem.W.kia_one Z I.kIn p (isOne_ok cf T (den_ty d2 r2 (by rw [ha]; exact fun z => nomatch z) T) ha) hx fun tk => ⟨.bl b, H, I.tok tk, rfl, q⟩
      · cases e
  · cases e
theorem isiD_ok : CallD X cm (rIsiS cm sub X.K) (isiD sub) := by
  intro W g H xs ds Q rl dl q
  have key : (∃ b, isiD sub ds g.S = .ok (.bl b) g.S) ∨ isiD sub ds g.S = .bad := by
    unfold isiD
    split
    · split
      · split
        · exact .inl ⟨_, rfl⟩
        · exact .inr rfl
      · split
        · exact .inl ⟨_, rfl⟩
        · exact .inr rfl
    · exact .inr rfl
  rcases key with ⟨b, e⟩ | e
  · rw [e] at q
    exact ⟨g, ds, b, rl, dl, e, RP.ret q rl (.bl b)⟩
  · rw [e] at q
    exact q.elim
end

/-! ### classes as values -/
section
variable {X : Cx} {cm : CM} {W : WX} {x : Str} {p : Pos}
theorem ve_ty (t : BT) (hg : Gl X x) (hm : X.mg x = none) (hv : bootBuiltins x = some (.type t.nm)) (hn : x ≠ "__name__" := by decide) (hdb : (x == ("__debug__" : Str)) = false := by decide) : VE X cm W (.Name x p) (sC (.ty t)) :=
  PE.imp (pe_bltn (v := .ty t.nm) hg hm hv rfl hn hdb) fun σ H Q ⟨g, ρ, rl, de, q⟩ => RP.ret q rl (.ty t)
theorem ve_cls {c : Nat} {C : Addr} (hc : cm c = some C) (hg : Gl X x) (hm : X.mg x = some (.ref C)) (hdb : (x == ("__debug__" : Str)) = false := by decide) : VE X cm W (.Name x p) (sC (.cls c)) :=
  PE.imp (pe_glob (v := .ref C) hg hm rfl hdb) fun σ H Q ⟨g, ρ, rl, de, q⟩ => RP.ret q rl (.cls hc)
end
end VS
end
section
set_option Elab.async false
set_option linter.all false
set_option maxRecDepth 100000
set_option maxHeartbeats 2000000
/-! VS: own errors: made, raised, caught, read -/
namespace VS
open PySem PySem.Spec PyProof.Rows L2
open PySem.W (Looks)

/-- super().__init__(msg); self.f = f for each field -/
def supS (msg : Str) (j : Nat) (p0 p1 p2 p3 p4 p5 : Pos) : Stmt := .Expr (.Call (.Attribute (.Call (.Name "super" p0) [] [] p1) "__init__" p2) [.Constant (.str msg) j p3] [] p4) p5
def asgS (f : Str) (q1 q2 q3 q4 : Pos) : Stmt := .Assign [.Attribute (.Name "self" q1) f q2] (.Name f q3) q4
def supE (msg : Str) (j : Nat) (p0 p1 p2 p3 p4 : Pos) : Expr := .Call (.Attribute (.Call (.Name "super" p0) [] [] p1) "__init__" p2) [.Constant (.str msg) j p3] [] p4
/-- how super().__init__(msg) is taken apart: by fun _ => ⟨_, rfl⟩ -/
def SupHe (msg : Str) (j : Nat) (p0 p1 p2 p3 p4 : Pos) : Prop := ∀ env : PySem.Env, ∃ pl : Sem Bool, eval (supE msg j p0 p1 p2 p3 p4) env = (do
      let ov ← attributeBase (.Call (.Name "super" p0) [] [] p1) "__init__" env (eval (.Call (.Name "super" p0) [] [] p1) env)
      standAt p2.atName
      let (f, first) ← holding [ov] (getMethod ov "__init__" pl)
      callWith p4 f first (backTo p4 (starEach [.Constant (.str msg) j p3] env)) [])
/-- what the written part says of an own error class at C, called x in the text, with its __init__ at fI (closing over the class's cell) -/
structure ErrC (P : Program) (K : PySem.W.Frag) (mg : Str → Option Value) (x : Str) (C fI : Addr) : Prop where
  gC : mg x = some (.ref C)
  cls : ∃ nm q N bs bm sn sub ab col dd k0 k1 k2 k3 k5, K.lookup C = some (excClassObj nm q C N bs bm true sn sub ab col dd k0 k1 k2 k3 k5 "ValueError.__new__") ∧ PySem.HandSPX.refsVE bm = true
  sa : PySem.W.findIn K (.ref C) "__setattr__" = some (some (.builtin "object.__setattr__"))
  ga : PySem.W.findIn K (.ref C) "__getattribute__" = some (some (.builtin "BaseException.__getattribute__"))
  gg : PySem.W.findIn K (.ref C) "__getattr__" = some none
  iC : PySem.W.findIn K (.ref C) "__init__" = some (some (.ref fI))
  tC : PySem.W.typeIn K (.ref fI) = some (.type "function")
  kC : PySem.W.keepIn K (.ref C) = true
  exC : PySem.W.subIn K (.ref C) (.type "BaseException") = some true
  veC : PySem.W.subIn K (.ref C) (.type "ValueError") = some true
  tyC : PySem.W.typeIn K (.ref C) = some (.type "type")
  hdC : PySem.W.hasDictIn K C = true
  mroC : PySem.W.mroIn K C (.ref C) = some true
  sup : PySem.W.ks_superIn K C C "__init__" = some (some (.builtin "ValueError.__init__"))
  tp : PySem.W.nsIn K cStatics "thirdparty.any" = some none
/-- its __init__, the def st -/
structure ErrI (P : Program) (K : PySem.W.Frag) (C fI : Addr) (qual : Str) (ps : List Str) (st : Stmt) : Prop where
  fn : ∃ (oc : Value) (od : Option Addr) (doc pm : Value) (an : Option Addr) (cda : Addr) (ct : Value) (osl : Array (Option Value)) (cc : Addr) (ccl cl : Value) (cdd cld : Option Addr) (vs : Array Value) (ccs csl : Array (Option Value)) (file : Str) (tf : Tok),
    K.lookup fI = some ⟨oc, od, .func (PySem.W.ksFn "__init__" qual (defArgs st) (defBody st) (defScope st) .none .none doc pm an (.ref cda) ct cc), osl⟩ ∧ PySem.W.codeIn K (.ref cda) qual = true ∧
    K.lookup cda = some ⟨ccl, cdd, .fields vs, ccs⟩ ∧ vs[2]? = some (.str file tf) ∧ ((P.main.file : Str) == file) = true ∧ K.lookup cc = some ⟨cl, cld, .cell (some (.ref C)), csl⟩
  bd : ∀ (doc pm : Value) (an : Option Addr) (cdv ct : Value) (cc : Addr) (us : List Value), us.length = ps.length → bindArgs (PySem.W.ksFn "__init__" qual (defArgs st) (defBody st) (defScope st) .none .none doc pm an cdv ct cc) ⟨us, []⟩ = pure (ps.zip us)
  hd : ((defArgs st).posonlyargs ++ (defArgs st).args).head?.map (·.arg) = some "self"
  cel : ∀ x ∈ (defScope st).names, x.2 ≠ .cell
  loc : ∀ y ∈ ps, (defScope st).names.lookup y = some .local
  co : (defScope st).isCoroutine = false
  gen : (defScope st).isGenerator = false
  kd : (defScope st).kind = .function
  ks : (defScope st).names.lookup ("super" : Str) = some .globalImplicit
  kc : (defScope st).names.lookup ("__class__" : Str) = some .free
  top : (P.main.scope.names.lookup ("super" : Str)).isSome = false

/-- the error's object behind __init__ -/
structure Made (h h' : Heap) (x C dx : Addr) (m : Str → Option Value) : Prop where
  keep : ∀ b o, b ≠ x → h.get? b = some o → h'.get? b = some o
  obj : ∃ t1 : Addr, h'.get? x = some ({ cls := .ref C, dict := some dx, data := .fields #[.ref t1, .none, .none, .none, .bool false, .none] } : Obj)
  dbig : h.objs.size ≤ dx
  dne : dx ≠ x
  ns : h'.Ns1 dx m
section
variable {prog : Program} {w : World} {A : Around} {E : Value → Shared → Prop} {R : Result → Shared → Prop} {s : Shared} {K : PySem.W.Frag} {mg : Str → Option Value} {base : Heap} {C fI : Addr} {x : Str} {qual : Str} {st : Stmt}
theorem kept_but {h h' : Heap} {x : Addr} (X : K.In h) (hx : K.lookup x = none) (k : ∀ b o, b ≠ x → h.get? b = some o → h'.get? b = some o) : K.In h' := fun a o e =>
  k a o (fun z => by rw [z, hx] at e; cases e) (X a o e)
theorem ldC {M : Model} {env : PySem.Env} {m : Str → Option Value} {y : Str} {pos : Pos} {v : Value} {Q : Value → Shared → Prop} (hn : s.heap.Ns env.locals m) (hv : m y = some v) (h : Q v s)
    (hk : env.scope.kind = .function) (hl : env.kindOf y = some .local) (hd : (y == ("__debug__" : Str)) = false) :
    wpAny M A (eval (.Name y pos) env) Q E s := wpAny_Name (wpAny_loadName_local hk hl hn hv h) hd

/-- super().__init__(msg) at the beginning of the __init__ -/
theorem sup_ok (hm : Mod K mg base) (T : ErrC prog K mg x C fI) {e t0 cc cda L : Addr} {m : Str → Option Value} {Q : Flow → Shared → Prop} {fd : FuncData} {ar : Arg} {oc ccl cl : Value} {od cdd cld : Option Addr} {vs : Array Value} {osl ccs csl : Array (Option Value)} {file : Str} {tf : Tok} {body : List Stmt} {sc : Scope}
    {msg : Str} {j : Nat} {p0 p1 p2 p3 p4 p5 : Pos} (hms : mg "super" = none) (kb : ∀ b o, base.get? b = some o → s.heap.get? b = some o) (hne : K.lookup e = none)
    (hx : s.heap.get? e = some (PySem.HandSPX.excO C t0)) (hns : s.heap.Ns L m)
    (hf : K.lookup fI = some ⟨oc, od, .func fd, osl⟩) (hp : (fd.params.posonlyargs ++ fd.params.args).head? = some ar) (ha : ar.arg = "self") (hv : m "self" = some (.ref e))
    (hcode : K.lookup cda = some ⟨ccl, cdd, .fields vs, ccs⟩) (hvs : vs[2]? = some (.str file tf)) (hfile : ((prog.main.file : Str) == file) = true)
    (hcell : K.lookup cc = some ⟨cl, cld, .cell (some (.ref C)), csl⟩) (hks : sc.names.lookup ("super" : Str) = some .globalImplicit) (hkc : sc.names.lookup ("__class__" : Str) = some .free) (hka : sc.names.lookup ("self" : Str) = some .local) (hk : sc.kind = .function)
    (htop : (prog.main.scope.names.lookup ("super" : Str)).isSome = false)
    (he : SupHe msg j p0 p1 p2 p3 p4) (hsw : ∀ env, swapsWith (supE msg j p0 p1 p2 p3 p4) none p5.line env = pure false)
    (h : ∀ h' tk t1, (∀ b o, b ≠ e → s.heap.get? b = some o → h'.get? b = some o) → h'.get? e = some (PySem.HandSPX.excO C t1) → s.heap.objs.size ≤ h'.objs.size → Q .next { s with heap := h', toks := tk }) :
    _root_.PySem.wpAt (model prog w) A (.func body (PySem.W.ksEnv qual sc L fI (.ref cda) cc)) (exec (supS msg j p0 p1 p2 p3 p4 p5) (PySem.W.ksEnv qual sc L fI (.ref cda) cc)) Q E s := by
  have X : K.In s.heap := hm.kin.keeps kb
  obtain ⟨nm, q, N, bs, bm, sn, sub, ab, col, dd, k0, k1, k2, k3, k5, hC, hbm⟩ := T.cls
  have hcl : PySem.W.clsIn K C = some { name := nm, bases := bs, mro := .ref C :: bm, ns := N, qualname := q, hasDict := true, slotNames := sn, subclasses := sub, abstract := ab, collection := col, hasDel := false } := by unfold PySem.W.clsIn; rw [hC] <;> rfl
  obtain ⟨mb, hb1, hb2⟩ := hm.blt
  obtain ⟨hp0, g, d, t, os⟩ := s
  obtain ⟨pl, hpl⟩ := he (PySem.W.ksEnv qual sc L fI (.ref cda) cc)
  refine ks_wpAt_Expr_any (ks_wpAt_MethodCall (pl := pl) ?_ hpl) (by unfold interactive; rw [show (PySem.W.ksEnv qual sc L fI (.ref cda) cc).scope.kind = .function from hk] <;> rfl) (hsw _)
  refine ks_wpAt_super_base (env := PySem.W.ksEnv qual sc L fI (.ref cda) cc) hks hkc (by decide) rfl (X _ _ hf) rfl hp rfl (X _ _ hcode) rfl hvs hfile htop ?_
  refine PySem.W.ks_loadName_global hk hks (Calls.loadGlobal_builtin (env := PySem.W.ksEnv qual sc L fI (.ref cda) cc) (hm.glob.keeps kb) hms (hb1.keeps kb) ((hb2 "super" (by decide)).trans (by decide +kernel : bootBuiltins "super" = some (.type "super"))) ⟨rfl, ?_⟩)
  refine wpAny_loadName_free hk hkc rfl ⟨_, X _ _ hcell, rfl⟩ ?_
  rw [ha]
  refine wpAny_loadName_local hk hka hns hv ?_
  refine ks_wpAny_isType_cls (X _ _ hC) rfl ⟨rfl, ?_⟩
  refine ks_wpAny_call_super (X _ _ hC) rfl hx rfl (fun c z => by cases z) (PySem.W.looks_mroIn X T.mroC) (fun h1 e1 k1' => ?_)
  have X1 : K.In h1 := X.keeps k1'
  have I1 : PySem.W.InstAt h1 e (PySem.HandSPX.excO C t0) C none := ⟨k1' _ _ hx, rfl, rfl, trivial⟩
  have hI : Looks (model prog w) h1 (isInstance (.ref e) (.type "ValueError")) true := I1.type.andThen (PySem.W.looks_subIn X1 T.veC)
  have hsup : PySem.W.alongIn K "__init__" (((Value.ref C :: bm).dropWhile (· != .ref C)).drop 1) = some (some (.builtin "ValueError.__init__")) := by
    have z := T.sup
    unfold PySem.W.ks_superIn at z
    rw [hcl] at z
    exact z
  refine PySem.W.kxs_getMethod PySem.W.kxs_ValueError e1 (PySem.W.looks_opaque X1 T.tp) (l₀ := Value.ref C :: bm) (fun A Q E s k q => wpAny_bind ((PySem.W.looks_clsIn X1 hcl) A _ E s k (wpAny_pure q))) rfl X1 hsup hI (PySem.W.ks_ne X1 I1 hcl) (by decide) ?_
  have hne2 : e ≠ hp0.objs.size := Nat.ne_of_lt (Heap.lt_size hx)
  refine PySem.W.kxs_callWith (i := "ValueError.__init__") (x := e) rfl (PySem.Calls.evalArgs_plain (spliced_more (env := PySem.W.ksEnv qual sc L fI (.ref cda) cc) (pos := p4) (Calls.Constant_str (spliced_none ⟨?_, ?_⟩))))
  · exact Heap.get?_push_at rfl rfl
  · have up : ∀ b o, hp0.get? b = some o → (h1.push (PySem.W.kxs_mw "ValueError.__init__" e)).get? b = some o := fun b o z => Heap.get?_push_of_some _ (k1' b o z)
    refine wpAny_call (codeAny_of_tree ?_)
    show wpAny _ A.in1 (callAny (.ref h1.objs.size) ⟨_, []⟩) _ _ _
    simp only [callAny]
    refine wpAny_bind (wpAny_load (Heap.get?_push_at rfl rfl) ?_)
    simp only [PySem.W.kxs_mw, show (Value.type "method-wrapper" == Value.type "method" || Value.type "method-wrapper" == Value.type "builtin_function_or_method" || Value.type "method-wrapper" == Value.type "method-wrapper") = true by decide, if_true]
    refine PySem.W.KFB.if_so (by decide) ?_
    refine wpAny_bind (PySem.W.check_bound_init F.excBase_ValueError.toExcCallFacts (up _ _ (X _ _ hC |> fun z => z)) (up _ _ hx) rfl ?_)
    refine wpAny_bind (wpAny_pure (wpAny_pure ?_))
    refine ⟨plainId_quiet F.excBase_ValueError.init.plain _, codeAny_builtin F.excBase_ValueError.initEntry ?_⟩
    refine PySem.W.exc_init_tree (cls := .ref C) (t0 := t0) (dv := none) (c2 := .none) (c3 := .none) (b4 := .bool false) (up _ _ hx) (by rw [sizeLine_eq]; exact (by decide : 1 ≤ 16777216)) fun h' k' e' z' => ?_
    refine h h' _ _ (fun b o hb z => k' b o hb (up b o z)) e' ?_
    have z1 := Heap.lt_size z'
    have z2 : hp0.objs.size < h1.objs.size := Heap.lt_size e1
    have z3 : (h1.push (PySem.W.kxs_mw "ValueError.__init__" e)).objs.size < h'.objs.size := z1
    rw [Heap.size_push] at z3
    show hp0.objs.size ≤ h'.objs.size
    omega

/-! self.f = f -/
theorem asg_new (T : ErrC prog K mg x C fI) {env : PySem.Env} {e t0 : Addr} {f : Str} {v : Value} {q1 q2 q3 q4 : Pos} {m : Str → Option Value} {Q : Flow → Shared → Prop} (X : K.In s.heap) (hx : s.heap.get? e = some (PySem.HandSPX.excO C t0)) (hns : s.heap.Ns env.locals m) (hno : PySem.W.findIn K (.ref C) f = some none)
    (hk : env.scope.kind = .function) (h1 : env.kindOf "self" = some .local) (h2 : env.kindOf f = some .local) (v1 : m "self" = some (.ref e)) (v2 : m f = some v) (hd : (f == ("__debug__" : Str)) = false) (hsw : swapsWith (.Name f q3) (some (.Attribute (.Name "self" q1) f q2)) q4.line env = pure false)
    (h : ∀ h' tk dx, (∀ b o, b ≠ e → s.heap.get? b = some o → h'.get? b = some o) → s.heap.objs.size ≤ dx → dx ≠ e → h'.get? e = some { cls := .ref C, dict := some dx, data := .fields #[.ref t0, .none, .none, .none, .bool false, .none] } →
      h'.Ns1 dx (fun y => if y = f then some v else none) → Q .next { s with heap := h', toks := tk }) :
    wpAny (model prog w) A (exec (asgS f q1 q2 q3 q4) env) Q E s := by
  obtain ⟨nm, q, N, bs, bm, sn, sub, ab, col, dd, k0, k1, k2, k3, k5, hC, hbm⟩ := T.cls
  have hcl : PySem.W.clsIn K C = some { name := nm, bases := bs, mro := .ref C :: bm, ns := N, qualname := q, hasDict := true, slotNames := sn, subclasses := sub, abstract := ab, collection := col, hasDel := false } := by unfold PySem.W.clsIn; rw [hC] <;> rfl
  obtain ⟨hp, g, d, t, os⟩ := s
  refine plainObj_wpAny_Assign_Attribute (ldC hns v2 (ldC hns v1 ?_ hk h1 (by decide)) hk h2 hd) hsw
  refine PySem.W.set_plain X (ox := PySem.HandSPX.excO C t0) (od := none) ⟨hx, rfl, rfl, trivial⟩ T.sa ?_
  exact PySem.HandSPX.exc_osa X hx hcl (show PySem.HandSPX.refsVE (.ref C :: bm) = true from hbm) rfl hno fun h' tk' dx k dn dne hx' hn => h h' tk' dx k dn dne hx' hn
theorem asg_old (T : ErrC prog K mg x C fI) {env : PySem.Env} {e t0 dx : Addr} {f : Str} {v : Value} {q1 q2 q3 q4 : Pos} {m m0 : Str → Option Value} {nl : List Str} {Q : Flow → Shared → Prop} (X : K.In s.heap) (hx : s.heap.get? e = some { cls := .ref C, dict := some dx, data := .fields #[.ref t0, .none, .none, .none, .bool false, .none] })
    (hns0 : s.heap.Ns1 dx m0) (hw : Within m0 nl) (hz : nl.length ≤ 1000) (hns : s.heap.Ns env.locals m) (hno : PySem.W.findIn K (.ref C) f = some none)
    (hk : env.scope.kind = .function) (h1 : env.kindOf "self" = some .local) (h2 : env.kindOf f = some .local) (v1 : m "self" = some (.ref e)) (v2 : m f = some v) (hd : (f == ("__debug__" : Str)) = false) (hsw : swapsWith (.Name f q3) (some (.Attribute (.Name "self" q1) f q2)) q4.line env = pure false)
    (h : ∀ h' tk, (∀ b o, b ≠ dx → s.heap.get? b = some o → h'.get? b = some o) → h'.Ns1 dx (fun y => if y = f then some v else m0 y) → Q .next { s with heap := h', toks := tk }) :
    wpAny (model prog w) A (exec (asgS f q1 q2 q3 q4) env) Q E s := by
  obtain ⟨nm, q, N, bs, bm, sn, sub, ab, col, dd, k0, k1, k2, k3, k5, hC, hbm⟩ := T.cls
  have hcl : PySem.W.clsIn K C = some { name := nm, bases := bs, mro := .ref C :: bm, ns := N, qualname := q, hasDict := true, slotNames := sn, subclasses := sub, abstract := ab, collection := col, hasDel := false } := by unfold PySem.W.clsIn; rw [hC] <;> rfl
  obtain ⟨hp, g, d, t, os⟩ := s
  obtain ⟨oD, _, _, hoD, _, _⟩ := hns0.count hw
  refine plainObj_wpAny_Assign_Attribute (ldC hns v2 (ldC hns v1 ?_ hk h1 (by decide)) hk h2 hd) hsw
  refine PySem.W.set_plain X (ox := { cls := .ref C, dict := some dx, data := .fields #[.ref t0, .none, .none, .none, .bool false, .none] }) (od := some oD) ⟨hx, rfl, rfl, hoD⟩ T.sa ?_
  exact PySem.OEX.osa_old X hx hns0 hw hz hcl (show PySem.HandSPX.refsVE (.ref C :: bm) = true from hbm) rfl hno fun h' tk' k hn => h h' tk' k hn

theorem loc1 {f : Str} {v1 v2 : Value} (n1 : f ≠ "self") : (List.lookup ("self" : Str) [(("self" : Str), v1), (f, v2)].reverse = some v1) ∧ (List.lookup f [(("self" : Str), v1), (f, v2)].reverse = some v2) := by
  have e1 : (("self" : Str) == f) = false := by simpa using Ne.symm n1
  constructor
  · simp [List.lookup, e1]
  · simp [List.lookup]
theorem loc2 {f f2 : Str} {v1 v2 v3 : Value} (n1 : f ≠ "self") (n2 : f2 ≠ "self") (n3 : f ≠ f2) : (List.lookup ("self" : Str) [(("self" : Str), v1), (f, v2), (f2, v3)].reverse = some v1) ∧ (List.lookup f [(("self" : Str), v1), (f, v2), (f2, v3)].reverse = some v2) ∧ (List.lookup f2 [(("self" : Str), v1), (f, v2), (f2, v3)].reverse = some v3) := by
  have e1 : (("self" : Str) == f) = false := by simpa using Ne.symm n1
  have e2 : (("self" : Str) == f2) = false := by simpa using Ne.symm n2
  have e3 : (f == f2) = false := by simpa using n3
  refine ⟨?_, ?_, ?_⟩
  · simp [List.lookup, e1, e2]
  · simp [List.lookup, e3]
  · simp [List.lookup]
/-- __init__ with one field -/
theorem init1 (hm : Mod K mg base) (T : ErrC prog K mg x C fI) {f : Str} (Y : ErrI prog K C fI qual ["self", f] st) (hms : mg "super" = none) (kb : ∀ b o, base.get? b = some o → s.heap.get? b = some o) {e t0 : Addr} {v : Value}
    (hx : s.heap.get? e = some (PySem.HandSPX.excO C t0)) (hne : K.lookup e = none) (hroom : A.depth < recursionLimit) (hno : PySem.W.findIn K (.ref C) f = some none) (n1 : f ≠ "self") (hd : (f == ("__debug__" : Str)) = false)
    {msg : Str} {j : Nat} {p0 p1 p2 p3 p4 p5 q1 q2 q3 q4 : Pos} (hbody : defBody st = [supS msg j p0 p1 p2 p3 p4 p5, asgS f q1 q2 q3 q4]) (he : SupHe msg j p0 p1 p2 p3 p4) (hsw : ∀ env, swapsWith (supE msg j p0 p1 p2 p3 p4) none p5.line env = pure false)
    (hsw1 : ∀ env, swapsWith (.Name f q3) (some (.Attribute (.Name "self" q1) f q2)) q4.line env = pure false)
    (hq : ∀ h' tk dx, Made s.heap h' e C dx (fun y => if y = f then some v else none) → R (.ok (.ret .none)) { s with heap := h', toks := tk }) :
    codeAny (model prog w) A (.call (.ref fI) ⟨[.ref e, v], []⟩) R s := by
  obtain ⟨oc, od, doc, pm, an, cda, ct, osl, cc, ccl, cl, cdd, cld, vs, ccs, csl, file, tf, lk, hcd, hcode, hvs, hfile, hcell⟩ := Y.fn
  have X : K.In s.heap := hm.kin.keeps kb
  have hnl : s.heap.NoLimit := hm.nolimit.keeps kb
  obtain ⟨ar, hp, ha⟩ := Option.map_eq_some_iff.mp Y.hd
  obtain ⟨l1, l2⟩ := loc1 (v1 := .ref e) (v2 := v) n1
  refine ks_codeAny_call_defAt (binds := [("self", .ref e), (f, v)]) hroom (X _ _ lk) rfl hnl (PySem.W.codeRec_of X hcd) rfl (BindsTo.of_eq (Y.bd _ _ _ _ _ _ [_, _] rfl)) Y.cel (fun y hy => ?_) (fun h₁ hns hk₁ => ?_) Y.co Y.gen Y.kd
  · rcases List.mem_cons.mp hy with rfl | hy
    · exact Y.loc _ (by simp)
    · rcases List.mem_cons.mp hy with rfl | hy
      · exact Y.loc _ (by simp)
      · cases hy
  · rw [show execs (defBody st) = execs [supS msg j p0 p1 p2 p3 p4 p5, asgS f q1 q2 q3 q4] from by rw [hbody]]
    refine ks_wpAt_execs_cons (sup_ok (s := ⟨h₁, s.gens, s.drawn, _, s.os⟩) hm T (t0 := t0) hms (fun b o z => hk₁ _ _ (kb b o z)) hne (hk₁ _ _ hx) hns lk hp ha l1 hcode hvs hfile hcell Y.ks Y.kc (Y.loc _ (by simp)) Y.kd Y.top he hsw (fun h2 tk2 t2 k2 x2 z2 => ?_))
    have hLe : s.heap.objs.size ≠ e := Nat.ne_of_gt (Heap.lt_size hx)
    have ns2 : h2.Ns s.heap.objs.size (fun x => List.lookup x [(("self" : Str), Value.ref e), (f, v)].reverse) := by
      obtain ⟨oL, es, ep, hL, r⟩ := hns
      exact ⟨oL, es, ep, k2 _ _ hLe hL, r⟩
    have X2 : K.In h2 := kept_but (X.keeps hk₁) hne k2
    refine wpAt_of_wpAny (wpAny_execs_cons (asg_new (s := ⟨h2, s.gens, s.drawn, tk2, s.os⟩) (env := PySem.W.ksEnv qual (defScope st) s.heap.objs.size fI (.ref cda) cc) T X2 x2 ns2 hno Y.kd (Y.loc _ (by simp)) (Y.loc _ (by simp)) l1 l2 hd (hsw1 _) fun h3 tk3 dx k3 dn dne x3 n3 => ?_))
    have z4 : s.heap.objs.size ≤ dx := Nat.le_trans (Nat.le_of_lt (Heap.Ns.lt hns)) (Nat.le_trans z2 dn)
    have kk : ∀ b o, b ≠ e → s.heap.get? b = some o → h3.get? b = some o := fun b o hb z => k3 b o hb (k2 b o hb (hk₁ b o z))
    exact wpAny_execs_nil (hq h3 tk3 dx ⟨kk, ⟨t2, x3⟩, z4, dne, n3⟩)
/-- __init__ with two fields -/
theorem init2 (hm : Mod K mg base) (T : ErrC prog K mg x C fI) {f f2 : Str} (Y : ErrI prog K C fI qual ["self", f, f2] st) (hms : mg "super" = none) (kb : ∀ b o, base.get? b = some o → s.heap.get? b = some o) {e t0 : Addr} {v v2 : Value}
    (hx : s.heap.get? e = some (PySem.HandSPX.excO C t0)) (hne : K.lookup e = none) (hroom : A.depth < recursionLimit) (hno : PySem.W.findIn K (.ref C) f = some none) (hno2 : PySem.W.findIn K (.ref C) f2 = some none) (n1 : f ≠ "self") (n2 : f2 ≠ "self") (n3 : f ≠ f2) (hd2 : (f2 == ("__debug__" : Str)) = false) (hd : (f == ("__debug__" : Str)) = false)
    {msg : Str} {j : Nat} {p0 p1 p2 p3 p4 p5 q1 q2 q3 q4 r1 r2 r3 r4 : Pos} (hbody : defBody st = [supS msg j p0 p1 p2 p3 p4 p5, asgS f q1 q2 q3 q4, asgS f2 r1 r2 r3 r4]) (he : SupHe msg j p0 p1 p2 p3 p4) (hsw : ∀ env, swapsWith (supE msg j p0 p1 p2 p3 p4) none p5.line env = pure false)
    (hsw1 : ∀ env, swapsWith (.Name f q3) (some (.Attribute (.Name "self" q1) f q2)) q4.line env = pure false) (hsw2 : ∀ env, swapsWith (.Name f2 r3) (some (.Attribute (.Name "self" r1) f2 r2)) r4.line env = pure false)
    (hq : ∀ h' tk dx, Made s.heap h' e C dx (fun y => if y = f2 then some v2 else if y = f then some v else none) → R (.ok (.ret .none)) { s with heap := h', toks := tk }) :
    codeAny (model prog w) A (.call (.ref fI) ⟨[.ref e, v, v2], []⟩) R s := by
  obtain ⟨oc, od, doc, pm, an, cda, ct, osl, cc, ccl, cl, cdd, cld, vs, ccs, csl, file, tf, lk, hcd, hcode, hvs, hfile, hcell⟩ := Y.fn
  have X : K.In s.heap := hm.kin.keeps kb
  have hnl : s.heap.NoLimit := hm.nolimit.keeps kb
  obtain ⟨ar, hp, ha⟩ := Option.map_eq_some_iff.mp Y.hd
  obtain ⟨l1, l2, l3⟩ := loc2 (v1 := .ref e) (v2 := v) (v3 := v2) n1 n2 n3
  refine ks_codeAny_call_defAt (binds := [("self", .ref e), (f, v), (f2, v2)]) hroom (X _ _ lk) rfl hnl (PySem.W.codeRec_of X hcd) rfl (BindsTo.of_eq (Y.bd _ _ _ _ _ _ [_, _, _] rfl)) Y.cel (fun y hy => ?_) (fun h₁ hns hk₁ => ?_) Y.co Y.gen Y.kd
  · rcases List.mem_cons.mp hy with rfl | hy
    · exact Y.loc _ (by simp)
    · rcases List.mem_cons.mp hy with rfl | hy
      · exact Y.loc _ (by simp)
      · rcases List.mem_cons.mp hy with rfl | hy
        · exact Y.loc _ (by simp)
        · cases hy
  · rw [show execs (defBody st) = execs [supS msg j p0 p1 p2 p3 p4 p5, asgS f q1 q2 q3 q4, asgS f2 r1 r2 r3 r4] from by rw [hbody]]
    refine ks_wpAt_execs_cons (sup_ok (s := ⟨h₁, s.gens, s.drawn, _, s.os⟩) hm T (t0 := t0) hms (fun b o z => hk₁ _ _ (kb b o z)) hne (hk₁ _ _ hx) hns lk hp ha l1 hcode hvs hfile hcell Y.ks Y.kc (Y.loc _ (by simp)) Y.kd Y.top he hsw (fun h2 tk2 t2 k2 x2 z2 => ?_))
    have hLe : s.heap.objs.size ≠ e := Nat.ne_of_gt (Heap.lt_size hx)
    have ns2 : h2.Ns s.heap.objs.size (fun x => List.lookup x [(("self" : Str), Value.ref e), (f, v), (f2, v2)].reverse) := by
      obtain ⟨oL, es, ep, hL, r⟩ := hns
      exact ⟨oL, es, ep, k2 _ _ hLe hL, r⟩
    have X2 : K.In h2 := kept_but (X.keeps hk₁) hne k2
    refine wpAt_of_wpAny (wpAny_execs_cons (asg_new (s := ⟨h2, s.gens, s.drawn, tk2, s.os⟩) (env := PySem.W.ksEnv qual (defScope st) s.heap.objs.size fI (.ref cda) cc) T X2 x2 ns2 hno Y.kd (Y.loc _ (by simp)) (Y.loc _ (by simp)) l1 l2 hd (hsw1 _) fun h3 tk3 dx k3 dn dne x3 n3' => ?_))
    have z4 : s.heap.objs.size ≤ dx := Nat.le_trans (Nat.le_of_lt (Heap.Ns.lt hns)) (Nat.le_trans z2 dn)
    have kk : ∀ b o, b ≠ e → s.heap.get? b = some o → h3.get? b = some o := fun b o hb z => k3 b o hb (k2 b o hb (hk₁ b o z))
    have ns3 : h3.Ns s.heap.objs.size (fun x => List.lookup x [(("self" : Str), Value.ref e), (f, v), (f2, v2)].reverse) := by
      obtain ⟨oL, es, ep, hL, r⟩ := ns2
      exact ⟨oL, es, ep, k3 _ _ hLe hL, r⟩
    have hw : Within (fun y => if y = f then some v else none) [f] := fun y hy => by
      by_cases z : y = f
      · rw [z]; exact List.mem_cons_self
      · exact absurd (if_neg z) hy
    refine wpAny_execs_cons (asg_old (s := ⟨h3, s.gens, s.drawn, tk3, s.os⟩) (env := PySem.W.ksEnv qual (defScope st) s.heap.objs.size fI (.ref cda) cc) T (kept_but X2 hne k3) x3 n3' hw (by simp) ns3 hno2 Y.kd (Y.loc _ (by simp)) (Y.loc _ (by simp)) l1 l3 hd2 (hsw2 _) fun h4 tk4 k4 n4 => ?_)
    have big : ∀ b o, s.heap.get? b = some o → b ≠ dx := fun b o z => Nat.ne_of_lt (Nat.lt_of_lt_of_le (Heap.lt_size z) z4)
    exact wpAny_execs_nil (hq h4 tk4 dx ⟨fun b o hb z => k4 b o (big b o z) (kk b o hb z), ⟨t2, k4 _ _ (Ne.symm dne) x3⟩, z4, dne, n4⟩)

/-- a made error -/
structure OwnMade (h h' : Heap) (e C d : Addr) (m : Str → Option Value) : Prop where
  keep : ∀ b o, h.get? b = some o → h'.get? b = some o
  new : h.objs.size ≤ e
  obj : ∃ oe vs, h'.get? e = some oe ∧ oe.cls = .ref C ∧ oe.dict = some d ∧ oe.data = .fields vs ∧ vs[1]? = some .none
  dbig : h.objs.size ≤ d
  dne : d ≠ e
  ns : h'.Ns1 d m
/-- C(..) makes an error whose fields are fs -/
def MkE (P : Program) (w : World) (base : Heap) (C : Addr) (fs : List Str) : Prop := ∀ (A : Around) (R : Result → Shared → Prop) (s : Shared) (us : List Value), us.length = fs.length → (∀ b o, base.get? b = some o → s.heap.get? b = some o) → A.depth + 1 < recursionLimit →
  (∀ h' tk e d, OwnMade s.heap h' e C d (fun y => (fs.zip us).lookup y) → R (.ok (.ret (.ref e))) { s with heap := h', toks := tk }) → codeAny (model P w) A (.call (.ref C) ⟨us, []⟩) R s
theorem made_of (hm : Mod K mg base) (T : ErrC prog K mg x C fI) (kb : ∀ b o, base.get? b = some o → s.heap.get? b = some o) {us : List Value} (hl : us.length ≤ sizeLine) {m : Str → Option Value}
    (hinit : ∀ (R : Result → Shared → Prop) (A : Around) (s1 : Shared), (∀ b o, base.get? b = some o → s1.heap.get? b = some o) → s1.heap.get? (s.heap.objs.size + 1) = some (PySem.HandSPX.excO C s.heap.objs.size) → K.lookup (s.heap.objs.size + 1) = none → (∀ h' tk dx, Made s1.heap h' (s.heap.objs.size + 1) C dx m → R (.ok (.ret .none)) { s1 with heap := h', toks := tk }) → A.depth < recursionLimit →
      codeAny (model prog w) A (.call (.ref fI) ⟨.ref (s.heap.objs.size + 1) :: us, []⟩) R s1)
    (hroom : A.depth + 1 < recursionLimit)
    (hq : ∀ h' tk e d, OwnMade s.heap h' e C d m → R (.ok (.ret (.ref e))) { s with heap := h', toks := tk }) : codeAny (model prog w) A (.call (.ref C) ⟨us, []⟩) R s := by
  obtain ⟨nm, q, N, bs, bm, sn, sub, ab, col, dd, k0, k1, k2, k3, k5, hC, hbm⟩ := T.cls
  have X : K.In s.heap := hm.kin.keeps kb
  obtain ⟨hp, g, dr, tk, os⟩ := s
  have k : ∀ b o, hp.get? b = some o → ((hp.push (PySem.W.kdv_tup us)).push (PySem.HandSPX.excO C hp.objs.size)).get? b = some o := fun b o e => Heap.get?_push_of_some _ (Heap.get?_push_of_some _ e)
  have hget : ((hp.push (PySem.W.kdv_tup us)).push (PySem.HandSPX.excO C hp.objs.size)).get? (hp.objs.size + 1) = some (PySem.HandSPX.excO C hp.objs.size) := by heap_get
  have hnx : K.lookup (hp.objs.size + 1) = none := by
    cases e : K.lookup (hp.objs.size + 1) with
    | none => rfl
    | some o =>
      have z : hp.get? (hp.objs.size + 1) = some o := X _ _ e
      exact absurd (Nat.lt_of_succ_lt (Heap.lt_size z)) (Nat.lt_irrefl _)
  refine PySem.HandSPX.call_own F.excBase_ValueError (fun X => PySem.HandSPX.refsVE_contains X bm hbm) (X _ _ hC) (PySem.W.looks_findIn X T.iC) (fun self => PySem.W.bind_fn X self T.tC) hl ?_
  refine hinit _ _ ⟨(hp.push (PySem.W.kdv_tup us)).push (PySem.HandSPX.excO C hp.objs.size), g, dr, tk, os⟩ (fun b o z => k _ _ (kb b o z)) hget hnx (fun h' tk' dx ⟨k', ⟨t1, hx⟩, dn, dne, hns⟩ => ?_) hroom
  have old : ∀ b o, hp.get? b = some o → h'.get? b = some o := fun b o e => k' b o (Nat.ne_of_lt (Nat.lt_succ_of_lt (Heap.lt_size e))) (k b o e)
  have z : hp.objs.size + 1 + 1 ≤ dx := by
    first
      | (simpa only [Heap.size_push] using dn)
      | exact dn
      | (have q := dn; rw [Heap.size_push, Heap.size_push] at q; exact q)
  exact ⟨rfl, hq h' tk' (hp.objs.size + 1) dx ⟨old, Nat.le_succ _, ⟨_, _, hx, rfl, rfl, rfl, rfl⟩, Nat.le_trans (Nat.le_trans (Nat.le_succ _) (Nat.le_succ _)) z, dne, hns⟩⟩
theorem mk1 (hm : Mod K mg base) (T : ErrC prog K mg x C fI) {f : Str} (Y : ErrI prog K C fI qual ["self", f] st) (hms : mg "super" = none) (hno : PySem.W.findIn K (.ref C) f = some none) (n1 : f ≠ "self") (hd : (f == ("__debug__" : Str)) = false)
    {msg : Str} {j : Nat} {p0 p1 p2 p3 p4 p5 q1 q2 q3 q4 : Pos} (hbody : defBody st = [supS msg j p0 p1 p2 p3 p4 p5, asgS f q1 q2 q3 q4]) (he : SupHe msg j p0 p1 p2 p3 p4) (hsw : ∀ env, swapsWith (supE msg j p0 p1 p2 p3 p4) none p5.line env = pure false)
    (hsw1 : ∀ env, swapsWith (.Name f q3) (some (.Attribute (.Name "self" q1) f q2)) q4.line env = pure false) : MkE prog w base C [f] := by
  intro A R s us hl kb hr hq
  match us, hl with
  | [v], _ =>
    refine made_of (m := fun y => if y = f then some v else none) hm T kb (by rw [sizeLine_eq]; exact (by decide : 1 ≤ 16777216)) (fun R A s1 kb1 hx hne hq hr => init1 hm T Y hms kb1 hx hne hr hno n1 hd hbody he hsw hsw1 hq) hr fun h' tk e d O => hq h' tk e d ?_
    have e : (fun y => if y = f then some v else none) = (fun y => List.lookup y (List.zip [f] [v])) := by
      funext y
      by_cases z : y = f
      · subst z
        simp [List.lookup]
      · have z' : (y == f) = false := by simpa using z
        simp [List.lookup, z, z']
    rw [← e]
    exact O
theorem mk2 (hm : Mod K mg base) (T : ErrC prog K mg x C fI) {f f2 : Str} (Y : ErrI prog K C fI qual ["self", f, f2] st) (hms : mg "super" = none) (hno : PySem.W.findIn K (.ref C) f = some none) (hno2 : PySem.W.findIn K (.ref C) f2 = some none) (n1 : f ≠ "self") (n2 : f2 ≠ "self") (n3 : f ≠ f2) (hd : (f == ("__debug__" : Str)) = false) (hd2 : (f2 == ("__debug__" : Str)) = false)
    {msg : Str} {j : Nat} {p0 p1 p2 p3 p4 p5 q1 q2 q3 q4 r1 r2 r3 r4 : Pos} (hbody : defBody st = [supS msg j p0 p1 p2 p3 p4 p5, asgS f q1 q2 q3 q4, asgS f2 r1 r2 r3 r4]) (he : SupHe msg j p0 p1 p2 p3 p4) (hsw : ∀ env, swapsWith (supE msg j p0 p1 p2 p3 p4) none p5.line env = pure false)
    (hsw1 : ∀ env, swapsWith (.Name f q3) (some (.Attribute (.Name "self" q1) f q2)) q4.line env = pure false) (hsw2 : ∀ env, swapsWith (.Name f2 r3) (some (.Attribute (.Name "self" r1) f2 r2)) r4.line env = pure false) : MkE prog w base C [f, f2] := by
  intro A R s us hl kb hr hq
  match us, hl with
  | [v, v2], _ =>
    refine made_of (m := fun y => if y = f2 then some v2 else if y = f then some v else none) hm T kb (by rw [sizeLine_eq]; exact (by decide : 2 ≤ 16777216)) (fun R A s1 kb1 hx hne hq hr => init2 hm T Y hms kb1 hx hne hr hno hno2 n1 n2 n3 hd2 hd hbody he hsw hsw1 hsw2 hq) hr fun h' tk e d O => hq h' tk e d ?_
    have e : (fun y => if y = f2 then some v2 else if y = f then some v else none) = (fun y => List.lookup y (List.zip [f, f2] [v, v2])) := by
      funext y
      by_cases z : y = f
      · subst z
        simp [List.lookup, n3]
      · have z' : (y == f) = false := by simpa using z
        by_cases z2 : y = f2
        · subst z2
          simp [List.lookup, z']
        · have z2' : (y == f2) = false := by simpa using z2
          simp [List.lookup, z, z', z2, z2']
    rw [← e]
    exact O
end

/-! ### raise -/
theorem lookup_zip_rel : ∀ {fs : List Str} {vs : List V} {us : List Value}, Vals vs us → ∀ g : Str, RelO ((fs.zip vs).lookup g) ((fs.zip us).lookup g)
  | [], _, _, _, g => True.intro
  | f :: fs, _, _, .nil, g => True.intro
  | f :: fs, _, _, .cons r rs, g => by
    rw [List.zip_cons_cons, List.zip_cons_cons, List.lookup_cons, List.lookup_cons]
    cases g == f with
    | true => exact r
    | false => exact lookup_zip_rel rs g
section
variable {X : Cx} {C : Addr} {cm : CM} {W : WX} {x : Str} {es : List Expr} {e : Expr} {p pos pos2 : Pos} {fa : SA}
def tMkErr (C : Addr) (fs : List Str) (ta : TA) : L2.St → Hp → XK → Prop := fun σ H Q => ta σ H fun vs H1 => vs.length = fs.length ∧ ∀ d, H1 d = none → Q (.ref C) (some d) (upd H1 d (.xd (fs.zip vs)))
theorem pmk_err {ta : TA} {fs : List Str} {k : Nat} (M : MkE X.prog X.w X.base C fs) (hgC : X.mg x = some (.ref C)) (kC : PySem.W.keepIn X.K (.ref C) = true) (rC : Raises X (.ref C)) (hr : Room k X.A) (ha : PA X (e :: es) ta) (hg : Gl X x)
    (hdb : (x == ("__debug__" : Str)) = false := by decide) (he : starEach (e :: es) X.env = (false, eval e X.env) :: starEach es X.env := by rfl) (hpl : (backTo pos (starEach es X.env)).any (·.1) = false := by rfl) :
    PMk X (.Call (.Name x p) (e :: es) [] pos) (tMkErr C fs ta) := by
  intro pins s σ H Q I h
  refine wpAny_Call_Name_kw (ld_glob I hg hgC ?_ hdb)
  refine PySem.W.callWith_K (h₀ := X.base) I.ok.mod.kin kC (thn (ha.run pos pins s σ H _ I h) fun us s1 ⟨vs, H1, I1, r1, hl, q1⟩ => ⟨I1.kIn, ?_⟩) he hpl
  show wpAny _ _ (call (.ref C) us) _ _ _
  have hb := I1.bk
  obtain ⟨hp, g, dr, tk, os⟩ := s1
  refine wpAny_call (M _ _ ⟨hp, g, dr, tk, os⟩ us (by rw [← Paired.length r1]; exact hl) hb (by have := hr.dp; omega) fun h' tk' e d M => ?_)
  show MkP X pins σ Q (.ref e) ⟨h', g, dr, tk', os⟩
  obtain ⟨oe, fv, hoe, hc, hd, hdat, h1⟩ := M.obj
  have hns := M.ns
  obtain ⟨G', g1, g2⟩ := restrict h' fun b => decide (b ≠ e)
  have gk : ∀ b, b ≠ e → G'.get? b = h'.get? b := fun b hb => g1 b (decide_eq_true hb)
  have ge : G'.get? e = none := g2 e (by simp)
  have old : ∀ b o, hp.get? b = some o → G'.get? b = some o := fun b o q => (gk b (Nat.ne_of_lt (Nat.lt_of_lt_of_le (Heap.lt_size q) M.new))).trans (M.keep b o q)
  have ob : ObjOk X.prog X.w (upd H1 d (.xd (fs.zip vs))) G' d (.xd (fs.zip vs)) :=
    ⟨_, hns.at (fun o q => (gk d M.dne).trans q), fun f => lookup_zip_rel r1 f⟩
  have J : Inv X pins σ (upd H1 d (.xd (fs.zip vs))) ⟨G', g, dr, tk', os⟩ := I1.laid (t' := tk') old M.dbig ob
  refine ⟨e, oe, fv, ⟨G', g, dr, tk', os⟩, _, .ref C, some d, rfl, J, fun b o q => ?_, ge, hoe, ⟨hc, hd⟩, hdat, h1, ?_, rfl, I1.bare, rC, q1 d (I1.hok.fresh M.dbig)⟩
  · by_cases hb : b = e
    · have q' : G'.get? b = some o := q
      rw [hb, ge] at q'; cases q'
    · exact (gk b hb).symm.trans q
  · rw [upd_ne (Ne.symm M.dne)]
    exact I1.hok.fresh M.new
/-- an own error class -/
structure EV (P : Program) (w : World) (K : PySem.W.Frag) (mg : Str → Option Value) (base : Heap) (cm : CM) (x : Str) (c : Nat) (fs : List Str) : Prop where
  ex : ∃ C, cm c = some C ∧ MkE P w base C fs ∧ mg x = some (.ref C) ∧ PySem.W.keepIn K (.ref C) = true ∧ PySem.W.subIn K (.ref C) (.type "BaseException") = some true ∧ PySem.W.typeIn K (.ref C) = some (.type "type")
def sRaise (c : Nat) (fs : List Str) (fa : SA) : SS := fun ρ S => RS.of ρ (fa ρ S) fun ds S1 => if ds.length = fs.length then .exc ⟨c, fs.zip ds⟩ ρ S1 else .bad
theorem denF_zip {K : PySem.W.Frag} {g : G} : ∀ {fs : List Str} {vs : List V} {ds : List D}, DenL K cm g vs ds → DenF K cm g (fs.zip vs) (fs.zip ds)
  | [], _, _, _ => .nil
  | f :: fs, _, _, .nil => .nil
  | f :: fs, _, _, .cons h t => .cons h (denF_zip t)
theorem vs_raise {c : Nat} {fs : List Str} {k : Nat} (V : EV X.prog X.w X.K X.mg X.base cm x c fs) (hc : X.calm = true) (tk : Takes X W) (hr : Room k X.A) (ha : VA X cm W (e :: es) fa) (hg : Gl X x)
    (hdb : (x == ("__debug__" : Str)) = false := by decide) (he : starEach (e :: es) X.env = (false, eval e X.env) :: starEach es X.env := by rfl) (hpl : (backTo pos (starEach es X.env)).any (·.1) = false := by rfl) :
    VS1 X cm W (.Raise (some (.Call (.Name x p) (e :: es) [] pos)) none pos2) (sRaise c fs fa) := by
  obtain ⟨C, hcm, M, hgC, kC, h1, h2⟩ := V.ex
  refine PS.imp (ps_raise hc tk (pmk_err M hgC kC (raises_own h1 h2) hr ha hg hdb he hpl)) fun T σ H ⟨g, ρ, rl, de, q⟩ => ?_
  refine ⟨g, ρ, rl, de, RP.mono (SPd.of de q) fun vs H1 ⟨ds, g1, e1, rl1, dl, de1, q1⟩ => ?_⟩
  split at q1
  · rename_i hl
    refine ⟨by rw [dl.length]; exact hl, fun d hd => ?_⟩
    obtain ⟨n1, n2⟩ := rl1.free hd
    exact q1 g1 _ σ (.ref C) (some d) (Ext.laid hd) (rl1.laid hd) rfl de1 ⟨C, d, fs.zip vs, rfl, hcm, rfl, hd, upd_same, n1, n2, denF_zip dl⟩
  · exact q1.elim
end
end VS
end
section
set_option Elab.async false
set_option linter.all false
set_option maxRecDepth 100000
set_option maxHeartbeats 2000000
/-! VS: try: .. except C as n: .., an error's fields -/
namespace VS
open PySem PySem.Spec PyProof.Rows L2

section
variable {X : Cx} {pins : List (Addr × Obj)} {σ : L2.St} {H : Hp} {s : Shared}
/-- an object that stands on the heap, new since the entry, is tracked from now on -/
theorem Inv.track {a : Addr} {o : HO} {oe : Obj} {vs : Array Value} (I : L2.Inv X pins σ H s) (ha : s.heap.get? a = some oe) (hd : oe.data = .fields vs) (na : H a = none) (nL : a ≠ X.env.locals) (nF : a ∉ X.fs) (new : X.s_0.heap.get? a = none)
    (np : ∀ p ∈ X.pn ++ pins, p.1 ≠ a) (ok : ObjOk X.prog X.w (upd H a o) s.heap a o) (no : ∀ b, o ≠ .own b) : L2.Inv X pins σ (upd H a o) s where
  ok := I.ok
  os := I.os
  bare := I.bare
  base := ⟨I.base.keep, I.base.slot, fun b ob e n hx => by
    have hb : b ≠ a := fun z => by rw [z, new] at e; cases e
    rw [upd_ne hb]
    exact I.base.free b ob e n hx, I.base.there, fun b xs e => by
    have z := I.base.tups b xs e
    rw [upd_ne (ne_of_none z na)]
    exact z, fun b ob v e => by
    have z := I.base.frzs b ob v e
    rw [upd_ne (ne_of_none z na)]
    exact z, fun b ps e => by
    obtain ⟨ps', z⟩ := I.base.tbls b ps e
    exact ⟨ps', by rw [upd_ne (ne_of_none z na)]; exact z⟩⟩
  loc := I.loc
  cell := I.cell
  free := by rw [upd_ne (Ne.symm nL)]; exact I.free
  freeC := fun x c e => by
    obtain ⟨v, oc, h1, h2⟩ := I.cell x c e
    have hc : c ≠ a := fun z => by
      rw [z, ha] at h1
      cases h1
      rw [hd] at h2
      cases h2
    rw [upd_ne hc]
    exact I.freeC x c e
  pin := fun p hp => by
    obtain ⟨h1, h2, h3⟩ := I.pin p hp
    exact ⟨h1, by rw [upd_ne (np p hp)]; exact h2, h3⟩
  hok := fun b ob e => by
    by_cases hb : b = a
    · subst hb
      rw [upd_same] at e
      cases e
      exact ok
    · rw [upd_ne hb] at e
      exact (I.hok b ob e).stay (fun c v _ z => z) (fun c hc => by rw [upd_ne (ne_of_none hc na)]; exact hc) fun c xs hc => by rw [upd_ne (ne_of_none hc na)]; exact hc
  len := I.len
theorem Inv.suiteT (I : L2.Inv X pins σ H s) (a : Addr) : L2.Inv (X.suite a (X.pn ++ pins)) [] σ H s :=
  ⟨I.ok.suite _ _, I.os, I.bare, I.base, I.loc, I.cell, I.free, I.freeC, fun p hp => I.pin p (by rw [List.append_nil] at hp; exact hp), I.hok, I.len⟩
theorem Inv.unsuiteT {a : Addr} {pn' : List (Addr × Obj)} (I : L2.Inv (X.suite a (X.pn ++ pins)) pn' σ H s) (ok : X.Ok) : L2.Inv X pins σ H s :=
  ⟨ok, I.os, I.bare, I.base, I.loc, I.cell, I.free, I.freeC, fun p hp => I.pin p (List.mem_append_left _ hp), I.hok, I.len⟩
end
theorem exO_ok {P : Program} {w : World} {H : Hp} {h : Heap} {a C d : Addr} {oe : Obj} {vs : Array Value} (he : h.get? a = some oe) (hz : Zc (.ref C) (some d) oe) (hd : oe.data = .fields vs) : ObjOk P w H h a (exO a C d) :=
  ⟨⟨oe, vs, he, hz, hd⟩, ⟨_, he⟩, fun h1 h2 z k => by
    obtain ⟨oe, vs, q, r⟩ := z
    exact ⟨oe, vs, k _ q, r⟩⟩
/-- what the clause wishes of an error of the body: the error is tracked from there on -/
def wAsT (K : PySem.W.Frag) (c : Value) (i : Nat) (ts : TS) (Wout : WX) (D : Ends) : WX := fun cls d σ H =>
  ∃ b, PySem.W.exmOne K cls c = some b ∧ (b = true → ∃ C dd, cls = .ref C ∧ d = some dd ∧ ∀ a, H a = none → ts { nx := fun σ' H' => D.nx (σ'.set i none) H', rt := D.rt, bk := fun σ' H' => D.bk (σ'.set i none) H', ct := fun σ' H' => D.ct (σ'.set i none) H' } (σ.set i (some (.ref a))) (upd H a (exO a C dd))) ∧
    (b = false → Wout cls d σ H)

section
variable {X : Cx} {x n : Str} {c : Value} {i : Nat} {body suite : List Stmt} {b₀ : Stmt} {np pos pos' : Pos} {tb : WX → TS} {ts : TS} {Wout : WX}
theorem ps_try_tr (hex : X.ex = []) (hs : X.stack = X.env :: X.outer) (hf : X.env.frame = some X.env.locals) (hN : X.N.Nodup) (hi : X.N[i]? = some n) (hln : X.env.kindOf n = some .local) (hc : Names X x c) (tk : Takes X Wout)
    (hb : ∀ (W : WX) (pn : List (Addr × Obj)) (xe : Value → Shared → Prop), Takes (X.tr pn xe) W → PassesOwn (model X.prog X.w) X.A X.env xe → PSs (X.tr pn xe) body (tb W))
    (hsu : ∀ (a : Addr) (pn : List (Addr × Obj)), PSs (X.suite a pn) (b₀ :: suite) ts) :
    PS X (.Try body [.ExceptHandler (some (.Name x np)) (some n) (b₀ :: suite) pos'] [] [] pos) (fun D σ H => tb (wAsT X.K c i ts Wout D) D σ H) := by
  refine ⟨fun pins s σ H D I h => ?_⟩
  have ok := I.ok
  have hfr : X.A.frames = some (X.env :: X.outer) := by rw [ok.frames, hs]
  have hloc : Loc X.env.scope n := .inl hln
  refine wpAny_Try_except ?_
  refine wpAny_mono ((hb (wAsT X.K c i ts Wout D) (X.pn ++ pins) (fun e s₁ => wpAny (model X.prog X.w) X.A (noteFrame e X.env) (fun _ s₂ => wpAny (model X.prog X.w) X.A (setFlight e none) (fun _ s₃ =>
    wpAny (model X.prog X.w) X.A (handleBy e X.env [.ExceptHandler (some (.Name x np)) (some n) (b₀ :: suite) pos']) (SP X pins D) X.xe s₃) X.xe s₂) X.xe s₁) (fun u s' xx => ?_) PassesOwn.looking).run [] s σ H D (I.toTry _) h) (fun f s1 hsp => ?_) (fun e s1 he => he)
  · -- the catch
    obtain ⟨a, B, sI, pins', σ', H', cls, d, rfl, J', nb, up, sky, na, os, ag, b, hb1, hyes, hno⟩ := xx
    have J : L2.Inv X pins σ' H' sI := J'.ofTry ok
    have sky' : Sky B (X.env :: X.outer) a (Zc cls d) X.env.locals s'.heap := by rw [← hs]; exact sky
    show wpAny (model X.prog X.w) X.A (noteFrame (.ref a) X.env) _ _ _
    refine Sky.land Zc.steady hfr hf sky' fun h3 fl3 up3 => ?_
    have J3 : L2.Inv X pins σ' H' { s' with heap := h3 } := J.landed nb fl3.1 (up.trans up3) os ag
    obtain ⟨oe3, vs3, he3, hz3, hd3⟩ := fl3.there
    have notFr : ∀ {h : Heap} {o : Obj} {vs : Array Value}, h.FunFrames B (X.env :: X.outer) → h.get? a = some o → o.data = .fields vs → a ∉ frs (X.env :: X.outer) := fun {h o vs} ff e dd hm => by
      obtain ⟨_, o', e', hnf⟩ := ff.mem hm
      rw [e] at e'; cases e'
      exact hnf _ dd
    have nfr := notFr fl3.2.2.1 he3 hd3
    have nL : a ≠ X.env.locals := fun z => nfr (List.mem_filterMap.mpr ⟨X.env, List.mem_cons_self, by rw [hf, z]⟩)
    have nF : a ∉ X.fs := fun hm => by
      obtain ⟨e, he, q⟩ := List.mem_filterMap.mp hm
      exact nfr (List.mem_filterMap.mpr ⟨e, List.mem_cons_of_mem _ he, q⟩)
    have Ba : B.get? a = none := fl3.2.1
    have sIa : sI.heap.get? a = none := by
      cases q : sI.heap.get? a with
      | none => rfl
      | some o =>
        have z := nb a o q (by rw [hs]; exact nfr)
        rw [Ba] at z
        cases z
    have s0a : X.s_0.heap.get? a = none := by
      cases q : X.s_0.heap.get? a with
      | none => rfl
      | some o =>
        obtain ⟨o', z⟩ := J.base.there a o q (by rw [hex]; simp)
        rw [sIa] at z
        cases z
    have npA : ∀ p ∈ X.pn ++ pins, p.1 ≠ a := fun p hp z => by
      have y := (J.pin p hp).1
      rw [z, sIa] at y
      cases y
    have S3 := J3.suite he3 hd3 na nL nF
    refine wpAny_handleBy_cons (codeAny_handlers_test ?_) (by intro q; cases q)
    have LT : PySem.W.Looks (model X.prog X.w) h3 (typeOf (.ref a)) cls := fun A Q E s k q => wpAny_typeOf_ref (k _ _ he3) (by rw [hz3.1]; exact q)
    have LM := PySem.W.exm_one (M := model X.prog X.w) (J3.kIn) LT hb1
    have test : ∀ {Q : Value → Shared → Prop} {E : Value → Shared → Prop}, Q c { s' with heap := h3 } → wpAny (model X.prog X.w) (X.A.mark (some (.ref a))) (eval (.Name x np) X.env) Q E { s' with heap := h3 } := fun {Q E} q => by
      obtain ⟨hg, hdbg, hm | ⟨hm, hv, hnn⟩⟩ := hc
      · exact ld_glob (X := X.suite a ((a, oe3) :: (X.pn ++ pins))) S3 hg hm q hdbg
      · exact ld_blt (X := X.suite a ((a, oe3) :: (X.pn ++ pins))) S3 hg hm hv q hnn hdbg
    refine test (LM.here ?_)
    cases b with
    | true =>
      refine codeAny_handlers_suite_as ?_
      refine HandSPX.lands_againZ fl3 fun h4 fl4 up4 => ?_
      have J4 : L2.Inv X pins σ' H' { s' with heap := h4 } := J.landed nb fl4.1 ((up.trans up3).trans up4) os ag
      obtain ⟨oe4, vs4, he4, hz4, hd4⟩ := fl4.there
      obtain ⟨C, dd, rfl, rfl, hts⟩ := hyes rfl
      have S4 := Inv.suiteT (Inv.track (o := exO a C dd) J4 he4 hd4 na nL nF s0a npA (exO_ok he4 hz4 hd4) (fun b z => by have z' : HO.ext _ = HO.own b := z; cases z')) a
      refine store_ok (X := X.suite a (X.pn ++ pins)) (v := .ref a) S4 hN hi hloc rfl (fun s5 S5 => ?_) (.inr hln)
      refine wpAny_mono ((hsu a (X.pn ++ pins)).run [] s5 _ _ _ S5 (hts a na)) (fun f s6 hsp => ?_) (fun _ _ z => False.elim z)
      have end_ : ∀ {σ6 : L2.St} {H6 : Hp} {Q : Shared → Prop}, L2.Inv (X.suite a (X.pn ++ pins)) [] σ6 H6 s6 → (∀ s7, L2.Inv X pins (σ6.set i none) H6 s7 → Q s7) →
          wpAny (model X.prog X.w) X.A (do bindName X.env n .none; unbindBehindTheSuite X.env n pos') (fun _ s7 => Q s7) X.xe s6 := fun {σ6 H6 Q} S6 hq => gone_ok (Inv.unsuiteT S6 ok) hN hi hln hq
      cases f with
      | next =>
        obtain ⟨σ6, H6, S6, q6⟩ := hsp
        exact end_ S6 fun s7 J7 => ⟨_, _, J7, q6⟩
      | brk =>
        obtain ⟨σ6, H6, S6, q6⟩ := hsp
        exact end_ S6 fun s7 J7 => ⟨_, _, J7, q6⟩
      | cont =>
        obtain ⟨σ6, H6, S6, q6⟩ := hsp
        exact end_ S6 fun s7 J7 => ⟨_, _, J7, q6⟩
      | ret u =>
        obtain ⟨v6, σ6, H6, S6, r6, q6⟩ := hsp
        exact end_ S6 fun s7 J7 => ⟨_, _, _, J7, r6, q6⟩
    | false =>
      show wpAny _ X.A (handleBy (.ref a) X.env []) _ _ _
      refine wpAny_handleBy_nil ?_
      obtain ⟨k1, k2, k3, oe, vs, T, oT, ts', he, hz, hd, h1, hr⟩ := id fl3
      unfold PySem.passOn
      refine wpAny_bind (wpAny_field he hd h1 ?_)
      rw [if_neg (show ¬ ((Value.ref T == Value.none) = true) from by simp)]
      have fin : wpAny (model X.prog X.w) X.A (setFlight (.ref a) X.env.frame) (fun _ s4 => wpAny (model X.prog X.w) X.A (throw (.ref a) : Sem Flow) (SP X pins D) X.xe s4) X.xe { s' with heap := h3 } := by
        rw [hf]
        refine HandSPX.setFlight_upZ fl3 fun h4 hh4 up4 => wpAny_throw (tk _ _ ?_)
        exact ⟨a, B, sI, pins, σ', H', cls, d, rfl, J, nb, (up.trans up3).trans up4, .inr (.inr (by rw [hs]; exact hh4)), na, os, ag, hno rfl⟩
      first
        | exact wpAny_bind (wpAny_pure (wpAny_bind fin))
        | exact wpAny_bind fin
  · cases f with
    | next =>
      obtain ⟨σ', H', J', q⟩ := hsp
      exact wpAny_execs_nil ⟨σ', H', J'.ofTry ok, q⟩
    | brk =>
      obtain ⟨σ', H', J', q⟩ := hsp
      exact ⟨σ', H', J'.ofTry ok, q⟩
    | cont =>
      obtain ⟨σ', H', J', q⟩ := hsp
      exact ⟨σ', H', J'.ofTry ok, q⟩
    | ret u =>
      obtain ⟨v, σ', H', J', r, q⟩ := hsp
      exact ⟨v, σ', H', J'.ofTry ok, r, q⟩
end
/-- try: body / except C as n (slot i): suite; what the suite lets out is not told -/
def sTry (sub : Nat → Nat → Bool) (c i : Nat) (fb fs : SS) : SS := fun ρ S => match fb ρ S with
  | .exc x ρ1 S1 => match sub x.c c with
    | true => match fs (ρ1.set i (some (.exc x.c x.fs))) S1 with
      | .nx ρ2 S2 => .nx (ρ2.set i none) S2
      | .ret d S2 => .ret d S2
      | .brk ρ2 S2 => .brk (ρ2.set i none) S2
      | .cnt ρ2 S2 => .cnt (ρ2.set i none) S2
      | _ => .bad
    | false => .exc x ρ1 S1
  | r => r
/-- the clause's class: c's -/
structure XFacts (K : PySem.W.Frag) (cm : CM) (sub : Nat → Nat → Bool) (c : Nat) (cv : Value) : Prop where
  xm : ∀ c' C', cm c' = some C' → PySem.W.exmOne K (.ref C') cv = some (sub c' c)
section
variable {X : Cx} {cm : CM} {W : WX} {x n : Str} {cv : Value} {c i : Nat} {body suite : List Stmt} {b₀ : Stmt} {np pos pos' : Pos} {fb fs : SS} {sub : Nat → Nat → Bool}
theorem vs_try (xf : XFacts X.K cm sub c cv) (hex : X.ex = []) (hs : X.stack = X.env :: X.outer) (hf : X.env.frame = some X.env.locals) (hN : X.N.Nodup) (hi : X.N[i]? = some n) (hln : X.env.kindOf n = some .local) (hc : Names X x cv) (tk : Takes X W)
    (hb : ∀ (W' : WX) (pn : List (Addr × Obj)) (xe : Value → Shared → Prop), Takes (X.tr pn xe) W' → PassesOwn (model X.prog X.w) X.A X.env xe → VSs (X.tr pn xe) cm W' body fb)
    (hsu : ∀ (a : Addr) (pn : List (Addr × Obj)), VSs (X.suite a pn) cm WF (b₀ :: suite) fs) :
    VS1 X cm W (.Try body [.ExceptHandler (some (.Name x np)) (some n) (b₀ :: suite) pos'] [] [] pos) (sTry sub c i fb fs) := by
  refine PS.imp (ps_try_tr (tb := fun W' => tS X.K cm W' fb) (ts := tS X.K cm WF fs) hex hs hf hN hi hln hc tk hb hsu) fun T σ H ⟨g, ρ, rl, de, q⟩ => ⟨g, ρ, rl, de, ?_⟩
  unfold sTry at q
  cases hr : fb ρ g.S with
  | nx ρ1 S1 => rw [hr] at q; exact q
  | ret d S1 => rw [hr] at q; exact q
  | brk ρ1 S1 => rw [hr] at q; exact q
  | cnt ρ1 S1 => rw [hr] at q; exact q
  | bad => rw [hr] at q; exact q
  | exc e ρ1 S1 =>
    rw [hr] at q
    intro g' H' σ' cls dd ex rl' es de' xa
    obtain ⟨C, d, vs, a1, a2, a3, a4, a5, a6, a7, a8⟩ := id xa
    subst a1 a3
    refine ⟨sub e.c c, xf.xm _ _ a2, fun hb1 => ⟨C, d, rfl, rfl, fun a na => ?_⟩, fun hb0 => ?_⟩
    · have q' := q
      simp only [hb1] at q'
      have had : d ≠ a := fun z => by rw [z, na] at a5; cases a5
      obtain ⟨n1, n2⟩ := rl'.free na
      have e1 : Ext g H g' (upd H' a (exO a C d)) := ex.trans (Ext.laid na)
      have r1 : Rel X.K cm g' (upd H' a (exO a C d)) := rl'.laid na
      have e2 : Ext g H (g'.frz a (exO a C d)) (upd H' a (exO a C d)) := e1.frz (ex.nn a na) n1
      have r2 : Rel X.K cm (g'.frz a (exO a C d)) (upd H' a (exO a C d)) := r1.frz n1 n2 upd_same
      have nd : (g'.frz a (exO a C d)).F d = none := by
        show upd g'.F a (exO a C d) d = none
        rw [upd_ne had]
        exact a6
      have e3 := e2.frz (o := .xd vs) a4 nd
      have r3 := r2.frz (o := .xd vs) nd (fun z => a7 (live_frz.mp z)) (by rw [upd_ne had]; exact a5)
      have mono : ∀ b o, g'.F b = some o → ((g'.frz a (exO a C d)).frz d (.xd vs)).F b = some o := fun b o z => frz_sub nd b o (frz_sub n1 b o z)
      have dn : Den X.K cm ((g'.frz a (exO a C d)).frz d (.xd vs)) (.ref a) (.exc e.c e.fs) := .exc (frz_sub nd _ _ (show upd g'.F a (exO a C d) a = _ from upd_same)) (show upd _ d _ d = _ from upd_same) a2 (a8.mono mono fun _ _ z => z)
      have dv : DenE X.K cm ((g'.frz a (exO a C d)).frz d (.xd vs)) ρ1 σ' := ⟨de'.len, fun k b z => let ⟨v, y1, y2⟩ := de'.at_ k b z; ⟨v, y1, y2.mono mono fun _ _ z => z⟩⟩
      refine ⟨_, _, r3, dv.set i dn, ?_⟩
      have es2 : ((g'.frz a (exO a C d)).frz d (.xd vs)).S = S1 := es
      rw [es2]
      revert q'
      cases fs (ρ1.set i (some (.exc e.c e.fs))) S1 with
      | nx ρ2 S2 => exact fun q' g4 H4 σ4 e4 r4 s4 d4 => q' g4 H4 _ (e3.trans e4) r4 s4 (d4.unset i none)
      | ret d S2 => exact fun q' g4 H4 v e4 r4 s4 d4 => q' g4 H4 v (e3.trans e4) r4 s4 d4
      | brk ρ2 S2 => exact fun q' g4 H4 σ4 e4 r4 s4 d4 => q' g4 H4 _ (e3.trans e4) r4 s4 (d4.unset i none)
      | cnt ρ2 S2 => exact fun q' g4 H4 σ4 e4 r4 s4 d4 => q' g4 H4 _ (e3.trans e4) r4 s4 (d4.unset i none)
      | exc y ρ2 S2 => exact fun q' => q'.elim
      | bad => exact fun q' => q'.elim
    · have q' := q
      simp only [hb0] at q'
      exact q' g' H' σ' _ _ ex rl' es de' xa
end

/-! ### an error's field -/
def sXf (xs : Nat → Bool) (f : Str) (fe : SE) : SE := fun ρ S => (fe ρ S).bind fun d S1 => match d with
  | .exc c fs => match xs c, fs.lookup f with
    | true, some v => .ok v S1
    | _, _ => .bad
  | _ => .bad
/-- the error classes: their fields are read -/
structure XFld (K : PySem.W.Frag) (cm : CM) (xs : Nat → Bool) (f : Str) : Prop where
  xf : ∀ c C, cm c = some C → xs c = true → XfC K C ∧ PySem.W.findIn K (.ref C) f = some none
def tXo (xs : Nat → Bool) (cm : CM) (f : Str) (te : TE) : TE := fun σ H Q => te σ H fun x H1 => ∃ (c : Nat) (a C dd : Addr) (fs : List (Str × V)) (v : V), x = .ref a ∧ cm c = some C ∧ xs c = true ∧ H1 a = some (exO a C dd) ∧ H1 dd = some (.xd fs) ∧ fs.lookup f = some v ∧ Q v H1
section
variable {X : Cx} {cm : CM} {W : WX} {e : Expr} {te : TE} {fe : SE} {xs : Nat → Bool} {n : Str} {pos : Pos}
theorem pe_xo (T : XFld X.K cm xs n) (he : PE X e te) (hb : attributeBase e n X.env (eval e X.env) = eval e X.env := by rfl) : PE X (.Attribute e n pos) (tXo xs cm n te) := by
  refine ⟨fun pins s σ H Q I h => ?_⟩
  refine attr_of hb (thn (he.run pins s σ H _ I h) fun u s1 hh => ?_)
  obtain ⟨x, H1, I1, rx, c, a, C, dd, fs, v, ex, hc, hx, ea, ed, l, q⟩ := hh
  subst ex
  obtain rfl : u = Value.ref a := rx
  obtain ⟨xc, hno⟩ := T.xf c C hc hx
  obtain ⟨⟨oe, w, e1, ⟨z1, z2⟩, e3⟩, _, _⟩ := (show ObjOk X.prog X.w H1 s1.heap a (exO a C dd) from I1.hok a _ ea)
  have hx : ObjOk X.prog X.w H1 s1.heap dd (.xd fs) := I1.hok dd _ ed
  obtain ⟨mA, hns, hr⟩ := hx
  obtain ⟨od, ho, hl⟩ := lookIn_ns hns
  obtain ⟨u, hu, ru⟩ := RelO.some_of (v := v) (o := mA n) (by rw [← l]; exact hr n)
  have J : PySem.W.InstAt s1.heap a oe C (some od) := ⟨e1, z1, by unfold PySem.W.notCls; rw [e3] <;> rfl, by rw [z2]; exact ho⟩
  exact HandSPX.exc_get I1.kIn J xc.ga xc.gg xc.exC (PySem.W.findObj_own xc.hdC hno rfl (by rw [hl, hu])) (handed_of ru) ⟨v, H1, I1.tok _, ru, q⟩
theorem ve_xf (T : XFld X.K cm xs n) (he : VE X cm W e fe) (hb : attributeBase e n X.env (eval e X.env) = eval e X.env := by rfl) : VE X cm W (.Attribute e n pos) (sXf xs n fe) :=
  PE.imp (pe_xo T he hb) fun σ H Q ⟨g, ρ, rl, de, q⟩ => ⟨g, ρ, rl, de, RP.mono (RP.step q) fun v H1 ⟨d, g1, e1, rl1, dn, q1⟩ => by
    cases dn with
    | @exc a C dd c vs fs ha hd hc df =>
      simp only at q1
      split at q1
      · rename_i v hx hl
        obtain ⟨w, h1, h2⟩ := df.look hl
        exact ⟨c, a, C, dd, vs, w, rfl, hc, hx, rl1.sub _ _ ha, rl1.sub _ _ hd, h1, RP.ret q1 rl1 h2⟩
      · exact q1.elim
    | _ => exact q1.elim⟩
end
end VS
end
section
set_option Elab.async false
set_option linter.all false
set_option maxRecDepth 100000
set_option maxHeartbeats 2000000
/-! VS: a lambda handed to a def that calls it -/
namespace VS
open PySem PySem.Spec PyProof.Rows L2
open LamX (CodeO Tabs TabS TabB codeO_ne among_app inv_table)

/-- the lambda's object; dV: its defaults -/
abbrev lamO (q : Str) (params : Arguments) (body : Expr) (scope : Scope) (cl : List (Str × Addr)) (dV doc pm : Value) (c' : Addr) (ctv : Value) : Obj := PySem.W.kdv_obj "<lambda>" q params (.expr body) scope cl dV doc pm c' ctv
/-- its defaults on the heap: none, or one int -/
def DfOk (h : Heap) (H : Hp) (fs : List Addr) (dV : Value) (dfl : Option (Str × Int)) (us : List Value) : Prop := match dfl with
  | none => dV = .none ∧ us = []
  | some (_, i) => ∃ (T : Addr) (tk : Tok), dV = .ref T ∧ h.get? T = some (PySem.W.kdv_tup [.int i tk]) ∧ H T = none ∧ T ∉ fs ∧ us = [.int i tk]
def dflN (dfl : Option (Str × Int)) : List Str := match dfl with
  | none => []
  | some (a, _) => [a]
/-- how the lambda is written: its defaults -/
def DfTxt (params : Arguments) (dfl : Option (Str × Int)) : Prop := params.kw_defaults = [] ∧ match dfl with
  | none => params.defaults = []
  | some (_, i) => ∃ j p, params.defaults = [.Constant (.int i) j p]
/-- .. how it binds: by fun _ _ .. => rfl; by fun .. => ⟨_, rfl, fun _ => rfl⟩ -/
def DfBd (params : Arguments) (body : Expr) (scope : Scope) (dfl : Option (Str × Int)) : Prop := match dfl with
  | none => ∀ (q : Str) (cl : List (Str × Addr)) (doc pm cv ctv : Value), bindArgs (PySem.W.kdv_fn "<lambda>" q params (.expr body) scope cl .none doc pm cv ctv) ⟨[], []⟩ = pure []
  | some (a, _) => ∀ (q : Str) (cl : List (Str × Addr)) (doc pm cv ctv : Value) (T : Addr), ∃ k, bindArgs (PySem.W.kdv_fn "<lambda>" q params (.expr body) scope cl (.ref T) doc pm cv ctv) ⟨[], []⟩ = seqItems? (.ref T) >>= k ∧ ∀ u : Value, k (some #[u]) = pure [(a, u)]
/-- the heap's tracked part behind the making of a lambda -/
def ExtS (H H1 : Hp) : Prop := (∀ b o, H b = some o → (∀ ps, o ≠ .tbl ps) → H1 b = some o) ∧ (∀ b, H1 b = none → H b = none) ∧ ∀ b ps, H b = some (.tbl ps) → ∃ ps', H1 b = some (.tbl ps')

section
variable {X : Cx} {pins : List (Addr × Obj)} {σ : L2.St} {H : Hp} {s : Shared}
/-- the lambda is made: its code object is new, or found in the table -/
theorem lam_tail {T : List (Addr × Str)} {c P : Addr} {params : Arguments} {body : Expr} {scope : Scope} {pos : Pos} {dV : Value} {E : Value → Shared → Prop} {Q : Value → Shared → Prop} (I : L2.Inv X pins σ H s) (TB : TabB X.base X.mg c P) (hcode : X.env.code = .ref c)
    (hm : (P, X.env.qual ++ "<lambda>") ∈ T) (hu : ∀ p ∈ T, p.1 = P → p.2 = X.env.qual ++ "<lambda>") (hT : Tabs T H) (hfree : ∀ y ∈ scope.names, y.2 = .free → ∃ c, X.env.cells.lookup y.1 = some c)
    (h : ∀ (f c' : Addr) (doc pm ctv : Value) (H1 : Hp) (s' : Shared), L2.Inv X pins σ H1 s' → ExtS H H1 → Tabs T H1 → (∀ b o, b ≠ P → s.heap.get? b = some o → s'.heap.get? b = some o) → (∀ b, b < s.heap.objs.size → H b = none → b ≠ P → H1 b = none) →
      s'.heap.get? f = some (lamO (X.env.qual ++ "<lambda>") params body scope (cloFrom X.env.cells scope.names []) dV doc pm c' ctv) → H1 f = none → f ∉ frs X.stack → H1 c' = some (CodeO c' (X.env.qual ++ "<lambda>")) → (H c' = none ∨ H c' = some (CodeO c' (X.env.qual ++ "<lambda>"))) → Q (.ref f) s') :
    wpAny (model X.prog X.w) X.A (makeTail "<lambda>" (X.env.qual ++ "<lambda>") params (.expr body) scope X.env dV .none none pos pos.line) Q E s := by
  obtain ⟨ps, hP, ht, ha⟩ := hT _ hm
  have bP : s.heap.BuiltinsAt X.mg P := TB.bm.keeps I.bk
  have hP' : s.heap.get? P = some { cls := .none, data := .fields ps } := I.hok P _ hP
  have nofr : ∀ f, s.heap.objs.size ≤ f → f ∉ frs X.stack := fun f hf z => by
    rcases List.mem_cons.mp (I.stkSub _ z) with e | e
    · have h1 := I.lt
      rw [← e] at h1
      exact Nat.lt_irrefl _ (Nat.lt_of_lt_of_le h1 hf)
    · exact I.nofs hf e
  cases hc : codeAmong pos ps.toList with
  | none =>
    refine PySem.W.kdv_makeTail (mg := X.mg) (c := c) (P := P) (ps := ps) (closure_ok hfree) I.ok.glob (I.mod.glob.keeps I.bk) hcode (TB.code.keeps I.bk) hP' ht hc TB.gP bP fun c' ctv doc h' tk hx hge hlt hrec htb => ?_
    obtain ⟨c2, oc, vs, t, e2, hoc, hd, hv⟩ := hrec
    cases e2
    have hsz : s.heap.objs.size ≤ h'.objs.size := Nat.le_trans hge (Nat.le_of_lt hlt)
    have nC : H c' = none := I.hok.fresh hge
    have nPc : P ≠ c' := ne_of_none hP nC
    have I1 := inv_table (t' := tk) (more := #[rawInt pos.line, rawInt pos.col, .ref c']) (h' := h'.push (lamO (X.env.qual ++ "<lambda>") params body scope (cloFrom X.env.cells scope.names []) dV doc ((X.mg "__name__").getD .none) c' ctv)) I hP
      (fun b o hb e => Heap.get?_push_of_some _ (hx b o hb e)) (Heap.get?_push_of_some _ htb) hge ⟨oc, vs, t, Heap.get?_push_of_some _ hoc, hd, hv⟩
    have hE : ∀ b o, H b = some o → (∀ ps, o ≠ .tbl ps) → (upd (upd H P (.tbl (ps ++ #[rawInt pos.line, rawInt pos.col, .ref c']))) c' (CodeO c' (X.env.qual ++ "<lambda>"))) b = some o := fun b o e n => by
      rw [upd_ne (ne_of_none e nC), upd_ne (fun z => n ps (Option.some.inj (e.symm.trans (by rw [z]; exact hP))))]
      exact e
    have eL : (ps ++ #[rawInt pos.line, rawInt pos.col, .ref c']).toList = ps.toList ++ [rawInt pos.line, rawInt pos.col, .ref c'] := by simp
    refine h h'.objs.size c' doc ((X.mg "__name__").getD .none) ctv _ _ I1 ⟨hE, fun b n => ?_, fun b qs e => ?_⟩ (fun p hp => ?_) (fun b o hb e => Heap.get?_push_of_some _ (hx b o hb e)) (fun b hb n np => ?_) (Heap.get?_push_size _ rfl) ?_ (nofr _ hsz) upd_same (.inl nC)
    · by_cases hb : b = c'
      · rw [hb]; exact nC
      · rw [upd_ne hb] at n
        by_cases hb2 : b = P
        · rw [hb2, upd_same] at n
          cases n
        · rw [upd_ne hb2] at n
          exact n
    · by_cases hb2 : b = P
      · subst hb2
        exact ⟨_, by rw [upd_ne nPc, upd_same]⟩
      · exact ⟨qs, by rw [upd_ne (ne_of_none e nC), upd_ne hb2]; exact e⟩
    · by_cases hb : p.1 = P
      · rw [hu p hp hb, hb]
        refine ⟨_, by rw [upd_ne nPc, upd_same], by rw [eL]; exact PySem.TriplesOk_snoc _ _ _ _ ht, fun p' cv hcv => ?_⟩
        rw [eL] at hcv
        rcases among_app _ ht hcv with z | z
        · obtain ⟨c0, e1, e2⟩ := ha p' cv z
          exact ⟨c0, e1, hE _ _ e2 codeO_ne⟩
        · exact ⟨c', z, upd_same⟩
      · obtain ⟨ps', a1, a2, a3⟩ := hT p hp
        refine ⟨ps', by rw [upd_ne (ne_of_none a1 nC), upd_ne hb]; exact a1, a2, fun p' cv hcv => ?_⟩
        obtain ⟨c0, e1, e2⟩ := a3 p' cv hcv
        exact ⟨c0, e1, hE _ _ e2 codeO_ne⟩
    · have hne : b ≠ c' := Nat.ne_of_lt (Nat.lt_of_lt_of_le hb hge)
      rw [upd_ne hne, upd_ne np]
      exact n
    · have n1 : h'.objs.size ≠ c' := Nat.ne_of_gt hlt
      have n2 : h'.objs.size ≠ P := Nat.ne_of_gt (Nat.lt_of_lt_of_le (Heap.lt_size hP') hsz)
      rw [upd_ne n1, upd_ne n2]
      exact I.hok.fresh hsz
  | some cv =>
    obtain ⟨c', e, hco⟩ := ha pos cv hc
    subst e
    refine PySem.W.kdv_makeTailHit (mg := X.mg) (c := c) (P := P) (ps := ps) (closure_ok hfree) I.ok.glob (I.mod.glob.keeps I.bk) hcode (TB.code.keeps I.bk) hP' ht hc bP fun ctv doc h' tk hx hsz => ?_
    have I1 : L2.Inv X pins σ H { s with heap := h'.push (lamO (X.env.qual ++ "<lambda>") params body scope (cloFrom X.env.cells scope.names []) dV doc ((X.mg "__name__").getD .none) c' ctv), toks := tk } := I.kept fun b o e => Heap.get?_push_of_some _ (hx b o e)
    exact h h'.objs.size c' doc ((X.mg "__name__").getD .none) ctv H _ I1 ⟨fun _ _ z _ => z, fun _ z => z, fun _ ps z => ⟨ps, z⟩⟩ hT (fun b o _ e => Heap.get?_push_of_some _ (hx b o e)) (fun _ _ n _ => n) (Heap.get?_push_size _ rfl) (I.hok.fresh hsz) (nofr _ hsz) hco (.inr hco)
theorem lam_makeD {T : List (Addr × Str)} {c P : Addr} {params : Arguments} {body : Expr} {scope : Scope} {pos : Pos} {dfl : Option (Str × Int)} {E : Value → Shared → Prop} {Q : Value → Shared → Prop} (I : L2.Inv X pins σ H s) (TB : TabB X.base X.mg c P) (hcode : X.env.code = .ref c)
    (hm : (P, X.env.qual ++ "<lambda>") ∈ T) (hu : ∀ p ∈ T, p.1 = P → p.2 = X.env.qual ++ "<lambda>") (hT : Tabs T H) (hdef : DfTxt params dfl) (hfree : ∀ y ∈ scope.names, y.2 = .free → ∃ c, X.env.cells.lookup y.1 = some c)
    (h : ∀ (f c' : Addr) (dV doc pm ctv : Value) (us : List Value) (H1 : Hp) (s' : Shared), L2.Inv X pins σ H1 s' → ExtS H H1 → Tabs T H1 → DfOk s'.heap H1 (frs X.stack) dV dfl us →
      s'.heap.get? f = some (lamO (X.env.qual ++ "<lambda>") params body scope (cloFrom X.env.cells scope.names []) dV doc pm c' ctv) → H1 f = none → f ∉ frs X.stack → H1 c' = some (CodeO c' (X.env.qual ++ "<lambda>")) → (H c' = none ∨ H c' = some (CodeO c' (X.env.qual ++ "<lambda>"))) → Q (.ref f) s') :
    wpAny (model X.prog X.w) X.A (eval (.Lambda params body scope pos) X.env) Q E s := by
  obtain ⟨hk0, hd⟩ := hdef
  rw [arm_eval_Lambda, defaultsOf_eq, hk0]
  cases dfl with
  | none =>
    have hd' : params.defaults = [] := hd
    rw [hd']
    show wpAny _ _ (do let dv ← evalAll []; let kdv ← holding dv (evalAllOpt []); makeFunction "<lambda>" (X.env.qual ++ "<lambda>") params (.expr body) scope X.env dv kdv [] pos pos.line) Q E s
    refine wpAny_bind (wpAny_pure (wpAny_bind (wpAny_holding (wpAny_pure ?_))))
    rw [makeFunction_eq]
    simp only [List.zip_nil_right, List.filterMap_nil, List.isEmpty_nil, if_true, pure_bind]
    exact lam_tail I TB hcode hm hu hT hfree fun f c' doc pm ctv H1 s' I1 e1 t1 _ _ hf n1 n2 hco hc0 => h f c' .none doc pm ctv [] H1 s' I1 e1 t1 ⟨rfl, rfl⟩ hf n1 n2 hco hc0
  | some p =>
    obtain ⟨a, i⟩ := p
    obtain ⟨j, p, hd'⟩ := hd
    rw [hd']
    show wpAny _ _ (do let dv ← evalAll (evalEach [.Constant (.int i) j p] X.env); let kdv ← holding dv (evalAllOpt []); makeFunction "<lambda>" (X.env.qual ++ "<lambda>") params (.expr body) scope X.env dv kdv [] pos pos.line) Q E s
    refine wpAny_bind (PySem.W.kdv_all1 (wpAny_Constant_int (PySem.W.kdv_all0 (wpAny_bind (wpAny_holding (wpAny_pure ?_))))))
    rw [makeFunction_eq]
    simp only [List.zip_nil_right, List.filterMap_nil, List.isEmpty_nil, List.isEmpty_cons, if_true, pure_bind, Bool.false_eq_true, if_false]
    refine wpAny_bind (wpAny_newTextTuple ?_)
    have I0 := I.tok (s.toks + 1)
    have hTn : H s.heap.objs.size = none := I.hok.fresh (Nat.le_refl _)
    obtain ⟨ps, hP, _, _⟩ := hT _ hm
    have nP : s.heap.objs.size ≠ P := fun z => by rw [z, hP] at hTn; cases hTn
    have nofr : s.heap.objs.size ∉ frs X.stack := fun z => by
      rcases List.mem_cons.mp (I.stkSub _ z) with e | e
      · have h1 := I.lt
        rw [← e] at h1
        exact Nat.lt_irrefl _ h1
      · exact I.nofs (Nat.le_refl _) e
    have IT : L2.Inv X pins σ H { s with heap := s.heap.push (PySem.W.kdv_tup [.int i s.toks]), toks := s.toks + 1 } := I.kept fun b o e => Heap.get?_push_of_some _ e
    refine lam_tail IT TB hcode hm hu hT hfree fun f c' doc pm ctv H1 s' I1 e1 t1 kp nn hf n1 n2 hco hc0 => h f c' (.ref s.heap.objs.size) doc pm ctv [.int i s.toks] H1 s' I1 e1 t1 ⟨_, _, rfl, kp _ _ nP (Heap.get?_push_size _ rfl), nn _ ?_ hTn nP, nofr, rfl⟩ hf n1 n2 hco hc0
    show s.heap.objs.size < (s.heap.push (PySem.W.kdv_tup [.int i s.toks])).objs.size
    rw [Heap.size_push]
    exact Nat.lt_succ_self _
end

/-! ### the lambda's names -/
/-- names of its own: the defaults' alone, and none of them is the maker's -/
structure LamSD (N : List Str) (sc scope : Scope) (dfl : Option (Str × Int)) : Prop where
  kind : scope.kind = .function
  co : scope.isCoroutine = false
  gen : scope.isGenerator = false
  own : ∀ y ∈ scope.names, y.2 ≠ .cell ∧ (y.2 = .local → y.1 ∉ N)
  free : ∀ y ∈ scope.names, y.2 = .free → sc.names.lookup y.1 = some .cell ∨ sc.names.lookup y.1 = some .free
  dl : ∀ a ∈ dflN dfl, scope.names.lookup a = some .local
theorem LamSD.has {X : Cx} {scope : Scope} {dfl : Option (Str × Int)} (L : LamSD X.N X.env.scope scope dfl) (ok : X.Ok) : ∀ y ∈ scope.names, y.2 = .free → ∃ c, X.env.cells.lookup y.1 = some c := fun y hy e => by
  rcases L.free y hy e with k | k
  · exact ok.has _ (.inl k)
  · exact ok.has _ (.inr k)
abbrev lamCx := @LamX.lamCx
section
variable {X : Cx} {pins : List (Addr × Obj)} {σ : L2.St} {H HZ : Hp} {s s1 : Shared}
theorem lam_startD {A : Around} {outer : List PySem.Env} {E : XK} {scope : Scope} {dfl : Option (Str × Int)} {f c' : Addr} {h₁ : Heap} {tk : Nat} {binds : List (Str × Value)} (I : L2.Inv X pins σ H s) (L : LamSD X.N X.env.scope scope dfl) (e0 : Env0 X.prog X.w X.K X.mg X.base A outer s1 HZ) (hd : A.handled = none)
    (un : Un (frs X.stack) [] H HZ s.heap s1.heap) (hns : h₁.Ns s1.heap.objs.size fun y => binds.reverse.lookup y) (kp : ∀ b o, s1.heap.get? b = some o → h₁.get? b = some o) :
    L2.Inv (LamX.lamCx X A outer s1 HZ E scope f c') [] σ HZ { s1 with heap := h₁, toks := tk } := by
  have hfree := L.has I.ok
  have cm : ∀ {y c}, (cloFrom X.env.cells scope.names []).lookup y = some c → X.env.cells.lookup y = some c := fun {y c} e => by
    rcases cloFrom_mem (PySem.mem_of_lookup e) with hm | ⟨h1, h2⟩
    · cases hm
    · obtain ⟨c1, hc⟩ := hfree _ h1 rfl
      have hc : X.env.cells.lookup y = some c1 := hc
      have e2 : c = c1 := by
        rw [h2, hc] <;> rfl
      rw [e2]
      exact hc
  have look : ∀ {y}, scope.names.lookup y = some .free → ∃ c, (cloFrom X.env.cells scope.names []).lookup y = some c := fun {y} hl => by
    have hy : (y, NameKind.free) ∈ scope.names := PySem.mem_of_lookup hl
    exact mem_lookup (cloFrom_has (cells := X.env.cells) (acc := []) hy)
  have cellK : ∀ {c : Addr} {v : Option Value}, H c = none → s.heap.IsCell c v → h₁.IsCell c v := fun {c v} n ⟨o, ho, hd⟩ => by
    obtain ⟨sl, q⟩ := un.any ho n (by simp)
    exact ⟨_, kp _ _ q, hd⟩
  have noA : ∀ b : Addr, b ∉ (LamX.lamCx X A outer s1 HZ E scope f c').ex := fun b z => absurd (show b ∈ ([] : List Addr) from z) (by simp)
  refine ⟨⟨e0.mod, L.kind, rfl, rfl, Nat.le_refl _, fun y z c e1 e2 => I.ok.inj y z c (cm e1) (cm e2), fun y hy => ?_, fun y c z _ => ?_, fun _ => hd, Around.frames_deeper e0.frames, .inr ⟨rfl, rfl⟩, fun b z => absurd z (noA b), e0.bs, e0.bsz, fun b _ _ => noA b,
      fun b z => absurd z (noA b), e0.funs, e0.frf⟩,
    rfl, e0.bare, Un.kept kp, ⟨_, hns, fun i y v e1 e2 e3 => ?_⟩, fun y c e => ?_, e0.hok.fresh (Nat.le_refl _), fun y c e => ?_, fun q hq => absurd (show q ∈ ([] : List (Addr × Obj)) ++ [] from hq) (by simp), e0.hok.kept kp, I.len⟩
  · have hy : scope.names.lookup y = some .cell ∨ scope.names.lookup y = some .free := hy
    rcases hy with hy | hy
    · exact absurd rfl (L.own _ (PySem.mem_of_lookup hy)).1
    · exact look hy
  · have z : false = true := z
    cases z
  · have e3 : Vis scope y := e3
    have e1' : X.N[i]? = some y := e1
    rcases e3 with k | k | k
    · exact absurd (List.mem_of_getElem? e1') ((L.own _ (PySem.mem_of_lookup k)).2 rfl)
    · exact absurd rfl (L.own _ (PySem.mem_of_lookup k)).1
    · obtain ⟨m, hn, hl⟩ := I.loc
      have hvis : Vis X.env.scope y := (L.free _ (PySem.mem_of_lookup k) rfl).elim (fun k => .inr (.inl k)) (fun k => .inr (.inr k))
      obtain ⟨w', r, q⟩ := hl i y v e1 e2 hvis
      obtain ⟨c2, h2⟩ := look k
      refine ⟨w', r, .inr ⟨.inr k, c2, h2, ?_⟩⟩
      have c1 := cm h2
      rcases q with ⟨k', _⟩ | ⟨_, c3, e', z⟩
      · have k' : X.env.scope.names.lookup y = some .local := k'
        rcases L.free _ (PySem.mem_of_lookup k) rfl with k2 | k2 <;> rw [show X.env.scope.names.lookup y = _ from k2] at k' <;> cases k'
      · rw [c1] at e'
        cases e'
        exact cellK (I.freeC y _ c1) z
  · obtain ⟨w', z⟩ := I.cell y c (cm e)
    exact ⟨w', cellK (I.freeC y c (cm e)) z⟩
  · obtain ⟨v, o, ho, hd⟩ := I.cell y c (cm e)
    exact un.free c o ho (I.freeC y c (cm e)) (by simp)
/-- x(), in the def that got the lambda: Z is that def's context, entered at s -/
theorem pe_actD {CXg : CXT} {Eg : XK} {Ng : List Str} {qg : Str} {sg : Scope} {g f c' : Addr} {cdg dV doc pm ctv : Value} {us : List Value} {params : Arguments} {body : Expr} {scope : Scope} {dfl : Option (Str × Int)} {k i : Nat} {a : Str} {pn : List (Addr × Obj)} {xe : Value → Shared → Prop} {W : WX} {tb : XK → TE} {p1 p2 : Pos}
    (I : L2.Inv X pins σ H s) (L : LamSD X.N X.env.scope scope dfl) (hf : s.heap.get? f = some (lamO (X.env.qual ++ "<lambda>") params body scope (cloFrom X.env.cells scope.names []) dV doc pm c' ctv)) (hfn : H f = none) (hfr : f ∉ frs X.stack) (hD : DfOk s.heap H (frs X.stack) dV dfl us)
    (hbind : DfBd params body scope dfl)
    (tk : Takes ((cxOf CXg X.prog X.w X.K X.mg X.base Ng qg sg g cdg X.A X.stack s H Eg).tr pn xe) W) (hr : Room (k + 1) (X.A.deeper (envOfC qg sg s.heap.objs.size g cdg)))
    (hbody : ∀ (A : Around) (outer : List PySem.Env) (s : Shared) (H : Hp) (E : XK), Room k (A.deeper (LamX.lamEnv X scope s.heap.objs.size f c')) → PE (LamX.lamCx X A outer s H E scope f c') body (tb E))
    (hN : Ng[i]? = some a) (hv : Vis sg a) (hd : (a == ("__debug__" : Str)) = false) (hcd : (a == ("__classdict__" : Str)) = false) :
    PE ((cxOf CXg X.prog X.w X.K X.mg X.base Ng qg sg g cdg X.A X.stack s H Eg).tr pn xe) (.Call (.Name a p1) [] [] p2)
      (fun σZ HZ Q => σZ[i]? = some (some (.ref f)) ∧ HZ c' = some (CodeO c' (X.env.qual ++ "<lambda>")) ∧ tb (WE W σZ) σ HZ Q) := by
  refine ⟨fun pinsZ sZ σZ HZ Q IZ h => ?_⟩
  obtain ⟨hs, hc, ht⟩ := h
  refine wpAny_Call_Name_kw (thn ((pe_var (pos := p1) (i := i) hN hv hd hcd).run pinsZ sZ σZ HZ (fun v H1 => v = .ref f ∧ H1 = HZ) IZ ⟨.ref f, hs, rfl, rfl⟩) fun u s1 ⟨v, H1, I1, r1, q1⟩ => ?_)
  obtain ⟨ev, eH⟩ := q1
  subst ev
  rw [eH] at I1
  obtain rfl : u = Value.ref f := r1
  have noex : ∀ b : Addr, b ∉ ([] : List Addr) := fun b z => nomatch z
  have of1 : s1.heap.get? f = some (lamO (X.env.qual ++ "<lambda>") params body scope (cloFrom X.env.cells scope.names []) dV doc pm c' ctv) := I1.base.keep f _ hf hfn hfr (noex f)
  refine PySem.W.callWith_F0 ⟨_, _, _, _, of1⟩ ?_
  have un : Un (frs X.stack) [] H HZ s.heap s1.heap := I1.base
  obtain ⟨⟨oc, vs, t, hoc, hdc, hvc⟩, _, _⟩ := I1.hok c' _ hc
  have rc : codeAny (model X.prog X.w) (X.A.deeper (envOfC qg sg s.heap.objs.size g cdg)) (.call (.ref f) ⟨[], []⟩) (CR (L2.CX X.prog X.w) (envOfC qg sg s.heap.objs.size g cdg :: X.stack) X.prog X.w HZ s1 Q (WE W σZ)) s1 := by
    refine PySem.W.kla_callFunE hr.depth of1 rfl L.co L.gen rfl ⟨c', oc, vs, t, rfl, hoc, hdc, hvc⟩ ?_
    have go : ∀ (binds : List (Str × Value)), (∀ y ∈ binds, scope.names.lookup y.1 = some .local) →
        wpAny (model X.prog X.w) (X.A.deeper (envOfC qg sg s.heap.objs.size g cdg)).in1 (newFunctionEnv scope mainGlobals (cloFrom X.env.cells scope.names []) binds ((X.env.qual ++ "<lambda>") ++ ".<locals>.") (some f) (.ref c') none builtinsNs)
          (fun env s₂ => s₂.heap.NoLimit ∧ codeAny (model X.prog X.w) (X.A.deeper (envOfC qg sg s.heap.objs.size g cdg)) (.expr body env) (CR (L2.CX X.prog X.w) (envOfC qg sg s.heap.objs.size g cdg :: X.stack) X.prog X.w HZ s1 Q (WE W σZ)) s₂) (fun e s' => (CR (L2.CX X.prog X.w) (envOfC qg sg s.heap.objs.size g cdg :: X.stack) X.prog X.w HZ s1 Q (WE W σZ)) (.error e) s') s1 := by
      intro binds hl
      refine wpAny_newFunctionEnv (fun y hy => (L.own y hy).1) hl (fun h₁ hns hsb => ⟨I1.nolimit.fresh _ hsb, ?_⟩) L.kind
      show codeAny _ _ (.expr body (LamX.lamEnv X scope s1.heap.objs.size f c')) _ _
      have kp : ∀ b o, s1.heap.get? b = some o → h₁.get? b = some o := fun b o e => hsb.extBut b o (Nat.ne_of_lt (Heap.lt_size e)) (Heap.get?_push_of_some _ e)
      have J : L2.Inv (LamX.lamCx X (X.A.deeper (envOfC qg sg s.heap.objs.size g cdg)) (envOfC qg sg s.heap.objs.size g cdg :: X.stack) s1 HZ (WE W σZ) scope f c') [] σ HZ { s1 with heap := h₁, toks := s1.toks + binds.length } :=
        lam_startD I L I1.env0 hr.hd un hns kp
      refine PySem.W.kla_codeExpr (wpAny_mono ((hbody _ _ s1 HZ _ (hr.deeper _)).run [] _ _ HZ Q J ht) (fun v s' hq => ?_) fun e s' hq => hq)
      obtain ⟨w', H', J', rv, q⟩ := hq
      exact ⟨w', H', J'.os, J'.bare, J'.base, J'.hok, rv, q⟩
    cases dfl with
    | none =>
      obtain ⟨rfl, rfl⟩ := hD
      rw [hbind]
      exact wpAny_pure (go [] fun y hy => absurd hy (by simp))
    | some p =>
      obtain ⟨b, n⟩ := p
      obtain ⟨T, tkT, rfl, hT1, hT2, hT3, rfl⟩ := hD
      obtain ⟨k, e1, e2⟩ := hbind (X.env.qual ++ "<lambda>") (cloFrom X.env.cells scope.names []) doc pm (.ref c') ctv T
      rw [e1]
      have T1 : s1.heap.get? T = some (PySem.W.kdv_tup [.int n tkT]) := I1.base.keep T _ hT1 hT2 hT3 (noex T)
      refine wpAny_bind (wpAny_seqItems T1 rfl ?_)
      show wpAny _ _ (k (some #[.int n tkT])) _ _ _
      rw [e2]
      exact wpAny_pure (go [(b, .int n tkT)] fun y hy => by
        rw [List.mem_singleton] at hy
        rw [hy]
        exact L.dl b (List.mem_singleton.mpr rfl))
  have hx := passAt tk σZ
  refine wpAny_call (codeAny_mono rc fun r s' hq => ?_)
  cases r with
  | error e => exact hx pinsZ HZ s1 e s' I1 hq
  | ok fl =>
    cases fl with
    | ret u => exact I1.after hq
    | next => exact False.elim hq
    | brk => exact False.elim hq
    | cont => exact False.elim hq
end

/-! ### the rule -/
open Classical in
/-- x(): the lambda that stands in slot 0 -/
noncomputable def sAsk (f c : Addr) (q : Str) (σ : List (Option V)) (fe : SE) : SE := fun (ρ : Env) (S : Store) => match ρ[0]? with
  | some (some (D.clo f2 c2 q2 σ2 ρ2)) => if f2 = f ∧ c2 = c ∧ q2 = q ∧ σ2 = σ then fe ρ2 S else .bad
  | _ => .bad
theorem sAsk_eq {f c : Addr} {q : Str} {σ : List (Option V)} {fe : SE} {ρ2 ρ : Env} {S : Store} (h : ρ[0]? = some (some (.clo f c q σ ρ2))) : sAsk f c q σ fe ρ S = fe ρ2 S := by
  unfold sAsk
  rw [h]
  exact if_pos ⟨rfl, rfl, rfl, rfl⟩
theorem DenO.E {K : PySem.W.Frag} {cm : CM} {g : G} : ∀ {σ : List (Option V)} {ρ : List (Option D)}, DenO K cm g σ ρ → DenE K cm g ρ σ
  | _, _, .nil => ⟨rfl, fun i d h => by simp at h⟩
  | _, _, .non t => ⟨by simp [(DenO.E t).len], fun i d h => by
    cases i with
    | zero => simp at h
    | succ i =>
      obtain ⟨v, h1, h2⟩ := (DenO.E t).at_ i d (by simpa using h)
      exact ⟨v, by simpa using h1, h2⟩⟩
  | _, _, .som dn t => ⟨by simp [(DenO.E t).len], fun i d h => by
    cases i with
    | zero =>
      simp at h
      subst h
      exact ⟨_, by simp, dn⟩
    | succ i =>
      obtain ⟨v, h1, h2⟩ := (DenO.E t).at_ i d (by simpa using h)
      exact ⟨v, by simpa using h1, h2⟩⟩
theorem DenE.O {K : PySem.W.Frag} {cm : CM} {g : G} : ∀ {σ : List (Option V)} {ρ : List (Option D)}, DenE K cm g ρ σ → DenO K cm g σ ρ
  | [], [], _ => .nil
  | [], _ :: _, h => absurd h.len (by simp)
  | _ :: _, [], h => absurd h.len (by simp)
  | v :: σ, none :: ρ, h => .non (DenE.O ⟨by simpa using h.len, fun i d e => by
    obtain ⟨w, h1, h2⟩ := h.at_ (i + 1) d (by simpa using e)
    exact ⟨w, by simpa using h1, h2⟩⟩)
  | v :: σ, some d :: ρ, h => by
    obtain ⟨w, h1, h2⟩ := h.at_ 0 d (by simp)
    have h1' : v = some w := by simpa using h1
    subst h1'
    exact .som h2 (DenE.O ⟨by simpa using h.len, fun i d e => by
      obtain ⟨w, h1, h2⟩ := h.at_ (i + 1) d (by simpa using e)
      exact ⟨w, by simpa using h1, h2⟩⟩)
/-- what a lambda's holder makes of it: F, of what the lambda gives -/
def sHeard (HF : (Store → R D) → Store → R D) (fe : SE) : SE := fun ρ S => match HF (fe ρ) S with
  | .exc _ _ => .bad
  | r => r
section
variable {X : Cx} {cm : CM}
theorem lam_world {g : G} {H H1 : Hp} {c' : Addr} {q : Str} (rl : Rel X.K cm g H) (eS : ExtS H H1) (T1 : Tabs cm.T H1) (hco : H1 c' = some (CodeO c' q)) (hc0 : H c' = none ∨ H c' = some (CodeO c' q)) :
    Rel X.K cm (g.frz c' (CodeO c' q)) H1 ∧ Ext g H (g.frz c' (CodeO c' q)) H1 := by
  have sub : ∀ a o, g.F a = some o → (g.frz c' (CodeO c' q)).F a = some o := fun a o e => by
    by_cases ha : a = c'
    · subst ha
      have z := rl.sub a o e
      rcases hc0 with y | y
      · rw [y] at z; cases z
      · rw [y] at z; cases z; exact upd_same
    · show upd g.F c' _ a = some o
      rw [upd_ne ha]
      exact e
  have cel : ∀ (k : Nat) (a : Addr) (c : Cell), g.α[k]? = some a → g.S[k]? = some c → c.live = true → ∃ o, H a = some o ∧ (∀ ps, o ≠ .tbl ps) ∧ a ≠ c' := fun k a c e1 e2 e3 => by
    obtain ⟨_, ok⟩ := rl.cells k a c e1 e2 e3
    obtain ⟨t1, t2⟩ := cell_notab e3 ok
    cases h : H a with
    | none =>
      obtain ⟨_, n2⟩ := rl.free h
      exact absurd ⟨k, c, e1, e2, e3⟩ n2
    | some o =>
      refine ⟨o, rfl, fun ps z => t1 ps (by rw [h, z]), fun z => ?_⟩
      subst z
      rcases hc0 with y | y
      · rw [y] at h; cases h
      · exact t2 q y
  refine ⟨⟨rl.len, fun a o e => ?_, fun k a c e1 e2 e3 => ?_, rl.inj, T1, fun a ps e => ?_⟩, ⟨sub, fun _ _ z => z, fun a o e _ n => eS.1 a o e n, fun a o e => ?_, fun _ z => .inl z, eS.2.1, eS.2.2⟩⟩
  · by_cases ha : a = c'
    · subst ha
      have e' : upd g.F a _ a = some o := e
      rw [upd_same] at e'
      rw [hco]
      exact e'
    · have e' : upd g.F c' _ a = some o := e
      rw [upd_ne ha] at e'
      exact eS.1 a o (rl.sub a o e') fun ps z => rl.nt a ps (by rw [e', z])
  · obtain ⟨n, ok⟩ := rl.cells k a c e1 e2 e3
    obtain ⟨o, h1, h2, h3⟩ := cel k a c e1 e2 e3
    refine ⟨by show upd g.F c' _ a = none; rw [upd_ne h3]; exact n, CellOk.mono (g := g) sub (fun _ _ z => z) ?_ ok⟩
    rw [eS.1 a o h1 h2, h1]
  · by_cases ha : a = c'
    · subst ha
      have e' : upd g.F a _ a = some (.tbl ps) := e
      rw [upd_same] at e'
      exact codeO_ne ps (Option.some.inj e')
    · have e' : upd g.F c' _ a = some (.tbl ps) := e
      rw [upd_ne ha] at e'
      exact rl.nt a ps e'
  · by_cases ha : a = c'
    · subst ha
      rcases hc0 with y | y
      · exact .inr (.inl y)
      · exact .inr (.inr (.inr ⟨q, y⟩))
    · have e' : upd g.F c' _ a = some o := e
      rw [upd_ne ha] at e'
      exact .inl e'
/-- the context of the holder's body -/
abbrev zCx (X : Cx) (Ng : List Str) (x : Str) (sg : Scope) (g : Addr) (cdv : Value) (s : Shared) (H : Hp) : Cx := (cxOf C8.CX0 X.prog X.w X.K X.mg X.base Ng x sg g cdv X.A X.stack s H C8.E0).nox
/-- x(lambda: body), x the def at g -/
theorem ve_lam {W : WX} {x a : Str} {g c P : Addr} {k : Nat} {st : Stmt} {fd : FuncData} {Ng : List Str} {dfl : Option (Str × Int)} {fe : SE} {HF : (Store → R D) → Store → R D} {bodyS : SE → SS}
    {params : Arguments} {body : Expr} {scope : Scope} {p lpos pos : Pos} (hg : Gl X x) (hm : X.mg x = some (.ref g)) (Fu : Fun X.K x x st g fd) (hb : L2.Binds X.K fd [a] []) (Sg : FnScope Ng [a] (defScope st)) (hNg : Ng[0]? = some a) (hva : Vis (defScope st) a)
    (hG : ∀ (f c' : Addr) (σ : List (Option V)) (cdv : Value) (s : Shared) (H : Hp), Room (k + 1) (X.A.deeper (envOfC x (defScope st) s.heap.objs.size g cdv)) →
      (∀ (W' : WX) (pn : List (Addr × Obj)) (xe : Value → Shared → Prop) (p1 p2 : Pos), Takes ((zCx X Ng x (defScope st) g cdv s H).tr pn xe) W' → VE ((zCx X Ng x (defScope st) g cdv s H).tr pn xe) cm W' (.Call (.Name a p1) [] [] p2) (sAsk f c' (X.env.qual ++ "<lambda>") σ fe)) →
      VSs (zCx X Ng x (defScope st) g cdv s H) cm WF (defBody st) (bodyS (sAsk f c' (X.env.qual ++ "<lambda>") σ fe)))
    (hHF : ∀ (f c' : Addr) (q : Str) (σ : List (Option V)) (ρ : Env) (S : Store), runB Ng.length (bodyS (sAsk f c' q σ fe)) [.clo f c' q σ ρ] S = HF (fe ρ) S)
    (TB : TabB X.base X.mg c P) (hcode : X.env.code = .ref c) (hmT : (P, X.env.qual ++ "<lambda>") ∈ cm.T) (hu : ∀ p ∈ cm.T, p.1 = P → p.2 = X.env.qual ++ "<lambda>") (hr : Room (k + 2) X.A) (L : LamSD X.N X.env.scope scope dfl) (hdef : DfTxt params dfl) (hbind : DfBd params body scope dfl)
    (hbody : ∀ (A : Around) (outer : List PySem.Env) (s : Shared) (H : Hp) (E : XK) (f c' : Addr), Room k (A.deeper (LamX.lamEnv X scope s.heap.objs.size f c')) → VE (LamX.lamCx X A outer s H E scope f c') cm (WO E) body fe)
    (hdb : (x == ("__debug__" : Str)) = false := by decide) (hd : (a == ("__debug__" : Str)) = false := by decide) (hcd : (a == ("__classdict__" : Str)) = false := by decide) :
    VE X cm W (.Call (.Name x p) [.Lambda params body scope lpos] [] pos) (sHeard HF fe) := by
  refine ⟨fun pins s σ H Q I h => ?_⟩
  obtain ⟨gw, ρ, rl, de, q⟩ := h
  obtain ⟨oc, od, kV, doc, pm, an, cdv, ct, osl, rfl, lk, hcg⟩ := Fu.ex
  refine wpAny_Call_Name_kw (ld_glob I hg hm ?_ hdb)
  refine PySem.W.callWith_K (h₀ := X.base) I.ok.mod.kin Fu.kp ?_ (by rfl) (by rfl)
  show wpAny _ _ (spliced ((false, eval (.Lambda params body scope lpos) X.env) :: backTo pos (starEach [] X.env))) _ _ s
  refine Calls.spliced_cons (lam_makeD I TB hcode hmT hu rl.tabs hdef (L.has I.ok) fun f c' dV doc' pm' ctv us H1 s' I1 eS T1 hD hf hfn hfr hco hc0 => ?_)
  obtain ⟨rl1, e1⟩ := lam_world rl eS T1 hco hc0
  refine Calls.spliced_nil ⟨I1.kIn, ?_⟩
  have dc : Den X.K cm (gw.frz c' (CodeO c' (X.env.qual ++ "<lambda>"))) (.ref f) (.clo f c' (X.env.qual ++ "<lambda>") σ ρ) := .clo upd_same (DenE.O (e1.denE de))
  have q1 : RP X.K cm (Den X.K cm) (fun _ _ _ => False) (gw.frz c' (CodeO c' (X.env.qual ++ "<lambda>"))) H1 (runB Ng.length (bodyS (sAsk f c' (X.env.qual ++ "<lambda>") σ fe)) [.clo f c' (X.env.qual ++ "<lambda>") σ ρ] gw.S) Q := by
    rw [hHF]
    unfold sHeard at q
    revert q
    cases HF (fe ρ) gw.S with
    | ok d S => exact fun q g' H' v e => q g' H' v (e1.trans e)
    | exc y S => exact fun q => q.elim
    | bad => exact fun q => q.elim
  have rc : codeAny (model X.prog X.w) X.A (.call (.ref g) ⟨[.ref f], []⟩) (CR C8.CX0 X.stack X.prog X.w H1 s' Q C8.E0) s' := by
    refine LamX.run_ofS (N := Ng) (ps := [a]) (us := [.ref f]) (vs := [.ref f]) lk hcg Sg hr I1.env0 (hb s' [.ref f] I1.kIn rfl) (.cons rfl .nil) rfl fun hr' => ?_
    refine ⟨tS X.K cm WF (bodyS (sAsk f c' (X.env.qual ++ "<lambda>") σ fe)), (hG f c' σ cdv s' H1 hr' fun W' pn xe p1 p2 tk => ?_).nox, ?_⟩
    · refine PE.imp (pe_actD (CXg := C8.CX0) (Eg := C8.E0) (i := 0) (tb := fun E => tE X.K cm (WO E) fe) I1 L hf hfn hfr hD hbind tk hr' (fun A outer s H E hr2 => hbody A outer s H E f c' hr2) hNg hva hd hcd) fun σZ HZ QZ ⟨gz, ρz, rlz, dez, qz⟩ => ?_
      unfold sAsk at qz
      split at qz
      · rename_i f2 c2 q2 σ2 ρ2 h0
        split at qz
        · rename_i hh
          obtain ⟨rfl, rfl, rfl, rfl⟩ := hh
          obtain ⟨v, hv1, hv2⟩ := dez.at_ 0 _ h0
          cases hv2 with
          | clo hF hO => exact ⟨hv1, rlz.sub _ _ hF, gz, ρ2, rlz, DenO.E hO, qz⟩
        · exact qz.elim
      · exact qz.elim
    · exact body_ok (X := zCx X Ng x (defScope st) g cdv s' H1) (E := fun _ _ _ => False) (n := 1) rfl rfl ⟨rfl, _, _, rl1, .cons dc .nil, q1⟩
  refine wpAny_call (codeAny_mono rc fun r s2 hq => ?_)
  cases r with
  | error e => exact (show False from hq).elim
  | ok fl =>
    cases fl with
    | ret u => exact I1.after hq
    | next => exact False.elim hq
    | brk => exact False.elim hq
    | cont => exact False.elim hq
end
end VS
end
section
set_option Elab.async false
set_option linter.all false
set_option maxRecDepth 100000
set_option maxHeartbeats 2000000
/-! VS: sum of lists, repr, calls by keywords, the empty dict -/
namespace VS
open PySem PySem.Spec PyProof.Rows L2

/-! ### sum(lists, []) -/
section
variable {prog : Program} {w : World} {A : Around} {R : Result → Shared → Prop}
theorem add_lists0 {E : Value → Shared → Prop} {s : Shared} {l b : Addr} {vs ws : List Value} {Q : Value → Shared → Prop} (hl : s.heap.IsList l vs.toArray) (hb : s.heap.IsList b ws.toArray)
    (h : Q (.ref s.heap.objs.size) { s with heap := s.heap.push { cls := .type "list", data := .seq (vs.toArray ++ ws.toArray) } }) (hsz : vs.toArray.size + ws.toArray.size ≤ sizeLine) : wpAny (model prog w) A (binaryOp .Add (.ref l) (.ref b)) Q E s := by
  obtain ⟨⟨cls, dd, data, sl⟩, ho, hc, n, hd⟩ := id hl
  obtain ⟨⟨cls2, dd2, data2, sl2⟩, ho2, hc2, n2, hd2⟩ := id hb
  simp only at hc hd hc2 hd2
  subst hc hd hc2 hd2
  exact concat_meets ⟨_, ho, rfl⟩ ⟨_, ho2, rfl⟩ noFill_list_add seq_list_add PySem.F.slot_list_add PySem.F.entry_list_add (PySem.F.args_list_add_2 _ _) (list_addW l b vs.toArray ws.toArray n n2 dd dd2 sl sl2 hsz) ⟨ho, ho2, h⟩
def restOf (arr : Nat → List Value) (n : Nat) : Nat → List Value
  | 0 => []
  | k + 1 => arr (n - (k + 1)) ++ restOf arr n k
theorem sum_loop_lists (hh : A.in1.handled = none) {h0 : Heap} {I l S : Addr} {its : Array Value} (arr : Nat → List Value) (hl : h0.IsList l its) (hi : ∀ i v, its[i]? = some v → ∃ b, v = .ref b ∧ h0.IsList b (arr i).toArray)
    (zI : h0.objs.size ≤ I) (zS : h0.objs.size ≤ S) (IS : I ≠ S) :
    ∀ (k : Nat) (s : Shared) (T : Addr) (c : Nat) (acc : List Value), k ≤ its.size → s.heap.IsListIter I l (its.size - k) → (∀ b o, h0.get? b = some o → s.heap.get? b = some o) →
      s.heap.get? S = some { cls := .type "list", dict := none, data := .seq #[.ref T] c, slots := #[] } → s.heap.IsList T acc.toArray → T ≠ I → T ≠ S → (acc ++ restOf arr its.size k).length ≤ sizeLine →
      (∀ h' tk T', (∀ b o, h0.get? b = some o → h'.get? b = some o) → ((k = 0 ∧ T' = T ∧ h'.get? T = s.heap.get? T) ∨ (h0.objs.size ≤ T' ∧ h'.get? T' = some { cls := .type "list", data := .seq (acc ++ restOf arr its.size k).toArray })) → R (.ok (.ret (.ref T'))) { s with heap := h', toks := tk }) →
      codeAny (model prog w) A (.builtin "sum.loop" ⟨[.ref I, .ref S, rawInt 2, rawInt 0], []⟩) R s := by
  have nI : h0.get? I = none := Heap.get?_none_of_le zI
  have nS : h0.get? S = none := Heap.get?_none_of_le zS
  have hIl : l ≠ I := fun z => by
    obtain ⟨o, e, _⟩ := hl
    rw [z, nI] at e
    cases e
  have W := Walks.list (prog := prog) (w := w) hh I l hIl its
  intro k
  induction k with
  | zero =>
    intro s T c acc hk hit old hS hT t1 t2 hz hR
    refine codeAny_builtin F.entry_sum_loop ?_
    rw [Around.under_plainId F.plain_sum_loop _]
    show wpAny _ A.in1 (seqItems? (.ref S) >>= _) _ _ s
    refine wpAny_bind (wpAny_seqItems hS rfl ?_)
    show wpAny _ A.in1 (tryCatch (pyNext (.ref I)) _ >>= _) _ _ s
    refine wpAny_bind (wpAny_tryCatch (W.done s _ _ ⟨hit, hl.at fun o e => old _ _ e⟩ fun h' tk hm => ?_))
    refine wpAny_pure (hR h' tk T (fun b o e => hm b o (fun z => ?_) (old b o e)) (.inl ⟨rfl, rfl, ?_⟩))
    · rw [List.mem_singleton] at z
      rw [z, nI] at e
      cases e
    · obtain ⟨oT, hT1, _⟩ := hT
      rw [hT1, hm T _ (by simpa using t1) hT1]
  | succ k ih =>
    intro s T c acc hk hit old hS hT t1 t2 hz hR
    have hlt : its.size - (k + 1) < its.size := by omega
    refine codeAny_builtin F.entry_sum_loop ?_
    rw [Around.under_plainId F.plain_sum_loop _]
    show wpAny _ A.in1 (seqItems? (.ref S) >>= _) _ _ s
    refine wpAny_bind (wpAny_seqItems hS rfl ?_)
    show wpAny _ A.in1 (tryCatch (pyNext (.ref I)) _ >>= _) _ _ s
    refine wpAny_bind (wpAny_tryCatch (W.item (its.size - (k + 1)) s _ _ hlt ⟨hit, hl.at fun o e => old _ _ e⟩ fun v h' tk hP hst' hm => ?_))
    obtain ⟨b, rfl, hb⟩ := hi _ v hP
    have keep : ∀ a o, a ≠ I → s.heap.get? a = some o → h'.get? a = some o := fun a o ha e => hm a o (by simpa using ha) e
    have old' : ∀ b o, h0.get? b = some o → h'.get? b = some o := fun b o e => keep b o (fun z => by rw [z, nI] at e; cases e) (old b o e)
    have hS' := keep S _ (Ne.symm IS) hS
    have hT' : h'.IsList T acc.toArray := hT.at fun o e => keep T o t1 e
    have hb' : h'.IsList b (arr (its.size - (k + 1))).toArray := hb.at fun o e => old' b o e
    have hz1 : (acc ++ (arr (its.size - (k + 1)) ++ restOf arr its.size k)).length ≤ sizeLine := hz
    show wpAny _ A.in1 ((holding [Value.ref b] (binaryOp .Add (.ref T) (.ref b))).attempt >>= _) _ _ _
    refine wpAny_bind (wpAny_attempt (wpAny_holding (add_lists0 (s := { s with heap := h', toks := tk }) hT' hb' ?_ (by simp only [List.length_append] at hz1; simp only [List.size_toArray]; omega))))
    have hnew : (h'.push { cls := .type "list", data := .seq (acc.toArray ++ (arr (its.size - (k + 1))).toArray) }).get? h'.objs.size = some { cls := .type "list", data := .seq (acc.toArray ++ (arr (its.size - (k + 1))).toArray) } := Heap.get?_push_size _ rfl
    have hS₁ : (h'.push { cls := .type "list", data := .seq (acc.toArray ++ (arr (its.size - (k + 1))).toArray) }).get? S = _ := Heap.get?_push_of_some _ hS'
    have nSz : h'.objs.size ≠ S := Nat.ne_of_gt (Heap.lt_size hS')
    obtain ⟨oI, hI1, _⟩ := hst'.1
    have nIz : h'.objs.size ≠ I := Nat.ne_of_gt (Heap.lt_size hI1)
    have szh : h0.objs.size ≤ h'.objs.size := Nat.le_of_lt (Nat.lt_of_le_of_lt zI (Heap.lt_size hI1))
    show wpAny _ A.in1 (updateSeq S (fun _ => #[.ref h'.objs.size]) >>= _) _ _ _
    refine wpAny_bind (wpAny_updateSeq hS₁ rfl ?_)
    have hS₂ := Heap.get?_update_self (Obj.mapSeq fun _ => #[Value.ref h'.objs.size]) hS₁ rfl
    refine wpAny_bind (wpAny_letGo ?_)
    have e3 : ∀ a o, a ≠ S → (h'.push { cls := .type "list", data := .seq (acc.toArray ++ (arr (its.size - (k + 1))).toArray) }).get? a = some o → (((h'.push { cls := .type "list", data := .seq (acc.toArray ++ (arr (its.size - (k + 1))).toArray) }).update S (Obj.mapSeq fun _ => #[Value.ref h'.objs.size])).update S (Obj.mapSeq fun _ => #[Value.ref h'.objs.size])).get? a = some o := fun a o hs e => by
      rw [Heap.get?_update_other _ _ (Ne.symm hs), Heap.get?_update_other _ _ (Ne.symm hs)]
      exact e
    have eA : acc.toArray ++ (arr (its.size - (k + 1))).toArray = (acc ++ arr (its.size - (k + 1))).toArray := by simp
    have eO : (some { cls := .type "list", data := .seq (acc.toArray ++ (arr (its.size - (k + 1))).toArray) } : Option Obj) = some { cls := .type "list", data := .seq (acc ++ arr (its.size - (k + 1))).toArray } := by rw [eA]
    have eN := (e3 _ _ nSz hnew).trans eO
    refine wpAny_bind (wpAny_updateSeq hS₂ rfl (wpAny_pure ⟨plainId_quiet F.plain_sum_loop _, ih ⟨_, s.gens, s.drawn, tk, s.os⟩ h'.objs.size _ (acc ++ arr (its.size - (k + 1))) (by omega) ?_ (fun b o e => ?_) (Heap.get?_update_self _ hS₂ rfl) ⟨_, eN, rfl, _, rfl⟩ nIz nSz ?_ fun h'' tk' T' o1 o2 => ?_⟩))
    · obtain ⟨oi, i1, i2, i3⟩ := hst'.1
      refine ⟨oi, e3 _ _ IS (Heap.get?_push_of_some _ i1), i2, ?_⟩
      rw [i3]
      congr 2
      have : its.size - (k + 1) + 1 = its.size - k := by omega
      rw [this]
    · exact e3 b o (fun z => by rw [z, nS] at e; cases e) (Heap.get?_push_of_some _ (old' b o e))
    · rw [List.append_assoc]
      exact hz1
    · refine hR h'' tk' T' o1 (.inr ?_)
      rcases o2 with ⟨rfl, rfl, e⟩ | ⟨z1, z2⟩
      · refine ⟨szh, ?_⟩
        rw [e, eN]
        have er : restOf arr its.size (0 + 1) = arr (its.size - (0 + 1)) := by
          show arr (its.size - (0 + 1)) ++ [] = _
          rw [List.append_nil]
        rw [er]
      · refine ⟨z1, ?_⟩
        rw [z2, List.append_assoc]
        rfl

theorem args_sum2 (a b : Value) : argsOk "sum" ⟨[a, b], []⟩ := by unfold argsOk; kernel_rfl
theorem call_sum_lists {E : Value → Shared → Prop} {s : Shared} {l S0 : Addr} {its : Array Value} {Q : Value → Shared → Prop} (hh : A.handled = none) (arr : Nat → List Value) (hl : s.heap.IsList l its) (hi : ∀ i v, its[i]? = some v → ∃ b, v = .ref b ∧ s.heap.IsList b (arr i).toArray)
    (h0 : s.heap.IsList S0 #[]) (hz : (restOf arr its.size its.size).length ≤ sizeLine)
    (h : ∀ h' tk T', (∀ b o, s.heap.get? b = some o → h'.get? b = some o) → ((its.size = 0 ∧ T' = S0) ∨ (s.heap.objs.size ≤ T' ∧ h'.get? T' = some { cls := .type "list", data := .seq (restOf arr its.size its.size).toArray })) → Q (.ref T') { s with heap := h', toks := tk }) :
    wpAny (model prog w) A (call (.builtin "sum") [.ref l, .ref S0]) Q E s := by
  refine call_function_tree F.kind_sum F.plain_sum F.entry_sum (args_sum2 _ _) ?_
  unfold Builtin.«sum»
  simp only [List.length_cons, List.length_nil]
  rw [if_neg (by decide)]
  refine wpAny_bind (wpAny_of_eq (show Builtin.Builtins.bindParams "sum" ["start"] 0 { pos := [.ref S0] } = pure [some (.ref S0)] from rfl) ?_)
  refine wpAny_bind (wpAny_pyIter_list hl ?_)
  refine wpAny_bind (wpAny_pure ?_)
  have tl : ∀ h', (∀ b o, s.heap.get? b = some o → h'.get? b = some o) → (⟨h', s.gens, s.drawn, s.toks, s.os⟩ : Shared).TypeIs (.ref S0) "list" := fun h' k => let ⟨o, e, c, _⟩ := h0; ⟨o, k _ _ e, c⟩
  have k1 : ∀ b o, s.heap.get? b = some o → (s.heap.push { cls := .type "list_iterator", data := .fields #[.ref l, .int 0 0] }).get? b = some o := fun b o e => Heap.get?_push_of_some _ e
  simp only [List.forIn_cons, List.forIn_nil]
  refine wpAny_bind (wpAny_bind (wpAny_bind (wpAny_isInstance (T := "list") (b := false) (tl _ k1) F.sub_list_str ?_)))
  simp only [Bool.false_eq_true, if_false]
  refine wpAny_pure (wpAny_bind (wpAny_bind (wpAny_isInstance (T := "list") (b := false) (tl _ k1) F.sub_list_bytes ?_)))
  simp only [Bool.false_eq_true, if_false]
  refine wpAny_pure (wpAny_bind (wpAny_bind (wpAny_isInstance (T := "list") (b := false) (tl _ k1) (by rw [isSubtype_type]; kernel_rfl) ?_)))
  simp only [Bool.false_eq_true, if_false]
  refine wpAny_pure (wpAny_pure ?_)
  refine wpAny_bind (wpAny_newObj_type ?_)
  have lt0 : S0 < s.heap.objs.size := let ⟨o, e, _⟩ := h0; Heap.lt_size e
  have hI : ((s.heap.push { cls := .type "list_iterator", data := .fields #[.ref l, .int 0 0] }).push { cls := .type "list", data := .seq #[.ref S0] }).get? s.heap.objs.size = some { cls := .type "list_iterator", data := .fields #[.ref l, .int 0 0] } := Heap.get?_push_of_some _ (Heap.get?_push_size _ rfl)
  have sz1 : (s.heap.push { cls := .type "list_iterator", data := .fields #[.ref l, .int 0 0] }).objs.size = s.heap.objs.size + 1 := Heap.size_push ..
  refine wpAny_pure ⟨plainId_quiet F.plain_sum_loop _, sum_loop_lists (h0 := s.heap) (I := s.heap.objs.size) (S := (s.heap.push { cls := .type "list_iterator", data := .fields #[.ref l, .int 0 0] }).objs.size) (its := its) hh arr hl hi (Nat.le_refl _) (by rw [sz1]; exact Nat.le_succ _) (by rw [sz1]; exact Nat.ne_of_lt (Nat.lt_succ_self _)) its.size _ S0 0 [] (Nat.le_refl _) ⟨_, hI, rfl, by rw [Nat.sub_self]; rfl⟩ (fun b o e => Heap.get?_push_of_some _ (k1 b o e)) (Heap.get?_push_size _ rfl) (h0.at fun o e => Heap.get?_push_of_some _ (k1 _ _ e)) (Nat.ne_of_lt lt0) (by rw [sz1]; exact Nat.ne_of_lt (Nat.lt_succ_of_lt lt0)) (by rw [List.nil_append]; exact hz) fun h' tk T' o1 o2 => ?_⟩
  refine h h' tk T' o1 ?_
  rcases o2 with ⟨z1, z2, _⟩ | ⟨z1, z2⟩
  · exact .inl ⟨z1, z2⟩
  · exact .inr ⟨z1, by rw [List.nil_append] at z2; exact z2⟩
end
/-- the lists that are summed -/
def listsOf (S : Store) : List D → Option (List (List D))
  | [] => some []
  | d :: ds => match lookL S d, listsOf S ds with
    | some xs, some xss => some (xs :: xss)
    | _, _ => none
def sumLD (ds : List D) (S : Store) : R D := match ds with
  | [a, .lst []] => match (lookL S a).bind (listsOf S) with
    | some xss => if xss.flatten.length ≤ sizeLine then .ok (.lst xss.flatten) S else .bad
    | none => .bad
  | _ => .bad
def rSumL (cm : CM) (K : PySem.W.Frag) : List V → Hp → VK → Prop := fun xs H Q => ∃ (g : G) (ds : List D) (W : Value → Option Addr → Hp → Prop), Rel K cm g H ∧ DenL K cm g xs ds ∧ RP K cm (Den K cm) W g H (sumLD ds g.S) Q
theorem lists_of {X : Cx} {cm : CM} {pins : List (Addr × Obj)} {σ : L2.St} {H : Hp} {s : Shared} {g : G} (I : L2.Inv X pins σ H s) (rl : Rel X.K cm g H) : ∀ {vs : List V} {ds : List D} {us : List Value} {xss : List (List D)}, DenL X.K cm g vs ds → Vals vs us → listsOf g.S ds = some xss →
    ∃ (vss : List (List V)) (uss : List (List Value)), uss.length = us.length ∧ vss.length = xss.length ∧ DenL X.K cm g vss.flatten xss.flatten ∧ Vals vss.flatten uss.flatten ∧ ∀ (i : Nat) (u : Value), us[i]? = some u → ∃ b, u = .ref b ∧ s.heap.IsList b (uss.getD i []).toArray
  | _, _, _, xss, .nil, .nil, e => by
    cases e
    exact ⟨[], [], rfl, rfl, .nil, .nil, fun i u h => by simp at h⟩
  | _, _, _, xss, .cons dn dl, .cons r rs, e => by
    unfold listsOf at e
    split at e
    · rename_i xs xss' h1 h2
      cases e
      obtain ⟨a, vs1, rfl, h3, h4⟩ := dn.lookL rl h1
      obtain ⟨its, rv, pl, _⟩ := I.list h3
      obtain ⟨vss, uss, l1, l2, d1, v1, k1⟩ := lists_of I rl dl rs h2
      have r' := r
      refine ⟨vs1 :: vss, its :: uss, by simp [l1], by simp [l2], by simpa using h4.append d1, by simpa using rv.append v1, fun i u h => ?_⟩
      cases i with
      | zero =>
        simp at h
        subst h
        exact ⟨a, r, by simpa using pl.isList⟩
      | succ i =>
        obtain ⟨b, e1, e2⟩ := k1 i u (by simpa using h)
        exact ⟨b, e1, by simpa using e2⟩
    · cases e

theorem restOf_flat (uss : List (List Value)) : ∀ k, k ≤ uss.length → restOf (fun i => uss.getD i []) uss.length k = (uss.drop (uss.length - k)).flatten
  | 0, _ => by simp [restOf]
  | k + 1, h => by
    unfold restOf
    rw [restOf_flat uss k (by omega)]
    have hl : uss.length - (k + 1) < uss.length := by omega
    rw [List.drop_eq_getElem_cons hl, List.flatten_cons]
    have e : uss.length - (k + 1) + 1 = uss.length - k := by omega
    rw [e]
    congr 1
    simp [List.getD, List.getElem?_eq_getElem hl]
section
variable {X : Cx} {cm : CM}
theorem call_sumL (hc : X.calm = true) : CallR X (.builtin "sum") (rSumL cm X.K) := by
  intro pins s σ H xs us Q I r h
  obtain ⟨g, ds, W, rl, dl, q⟩ := h
  unfold sumLD at q
  split at q
  · rename_i a
    split at q
    · rename_i xss hx
      split at q
      · rename_i hz
        obtain ⟨ys, hy1, hy2⟩ := Option.bind_eq_some_iff.mp hx
        cases dl with
        | cons da dl =>
        cases dl with
        | cons db dl =>
        cases dl
        obtain ⟨u1, u2, rfl, r1, r2⟩ := vals2 r
        obtain ⟨l, vs, rfl, h3, h4⟩ := da.lookL rl hy1
        obtain ⟨its, rv, pl, _⟩ := I.list h3
        cases (show u1 = Value.ref l from r1)
        obtain ⟨S0, vs0, rfl, h5, h6⟩ := db.lookL (ds := []) rl rfl
        cases h6
        obtain ⟨its0, rv0, pl0, _⟩ := I.list h5
        cases rv0
        cases (show u2 = Value.ref S0 from r2)
        obtain ⟨vss, uss, l1, l2, d1, v1, k1⟩ := lists_of I rl h4 rv hy2
        have ef : restOf (fun i => uss.getD i []) its.toArray.size its.toArray.size = uss.flatten := by
          rw [List.size_toArray, ← l1, restOf_flat uss _ (Nat.le_refl _), Nat.sub_self, List.drop_zero]
        have hzu : uss.flatten.length ≤ sizeLine := by rw [← v1.length, d1.length]; exact hz
        refine call_sum_lists (its := its.toArray) (I.ok.hd hc) (fun i => uss.getD i []) pl.isList (fun i v hv => k1 i v (by simpa using hv)) pl0.isList (by rw [ef]; exact hzu) fun h' tk T' o1 o2 => ?_
        rcases o2 with ⟨z1, rfl⟩ | ⟨z1, z2⟩
        · have hl0 : its = [] := by simpa using z1
          subst hl0
          cases rv
          cases h4
          cases hy2
          exact ⟨.ref T', H, I.kept o1, rfl, RP.ret q rl db⟩
        · rw [ef] at z2
          have hn : H T' = none := I.hok.fresh z1
          exact ⟨.ref T', _, I.laid (t' := tk) (a := T') (o := .lst vss.flatten) o1 z1 ⟨by rw [d1.length]; exact hz, uss.flatten, 0, v1, z2⟩, rfl, RP.alloc q rl hn (.lst upd_same (d1.mono (frz_sub (rl.free hn).1) fun _ _ z => z))⟩
      · exact q.elim
    · exact q.elim
  · exact q.elim
theorem sumLD_ok : CallD X cm (rSumL cm X.K) sumLD := fun W g H xs ds Q rl dl q => ⟨g, ds, W, rl, dl, q⟩
end

/-! ### repr -/
def reprOk (p : PyData) : Bool := p.showable && !p.hasDict && decide (p.depth ≤ 50) && decide (p.shown.length ≤ sizeLine)
def reprD (ds : List D) (S : Store) : R D := match ds with
  | [.int i] => if i.natAbs.log2 < 1920 then .ok (.str (toString i)) S else .bad
  | [d] => match d with
    | .lst _ => match toPy S d with
      | some p => if reprOk p = true then .ok (.str p.shown) S else .bad
      | none => .bad
    | .tup _ => match toPy S d with
      | some p => if reprOk p = true then .ok (.str p.shown) S else .bad
      | none => .bad
    | _ => .bad
  | _ => .bad
def rRepr (cm : CM) (K : PySem.W.Frag) : List V → Hp → VK → Prop := fun xs H Q => ∃ (g : G) (ds : List D) (W : Value → Option Addr → Hp → Prop), Rel K cm g H ∧ DenL K cm g xs ds ∧ RP K cm (Den K cm) W g H (reprD ds g.S) Q
section
variable {X : Cx} {cm : CM}
theorem call_reprG {k : Nat} (hg : X.A.guards = some []) (hr : Room k X.A) : CallR X (.builtin "repr") (rRepr cm X.K) := by
  intro pins s σ H xs us Q I r h
  obtain ⟨g, ds, W, rl, dl, q⟩ := h
  have main : ∀ {d : D} {v : V} {u : Value} {a : Addr}, Den X.K cm g v d → v = .ref a → RelV v u → (match toPy g.S d with
      | some p => if reprOk p = true then R.ok (D.str p.shown) g.S else .bad
      | none => .bad : R D) = reprD ds g.S → wpAny (model X.prog X.w) X.A (call (.builtin "repr") [u]) (EP X pins σ Q) X.xe s := by
    intro d v u a dn ev r1 e
    subst ev
    obtain rfl : u = Value.ref a := r1
    rw [← e] at q
    split at q
    · rename_i p hp
      split at q
      · rename_i hok
        unfold reprOk at hok
        simp only [Bool.and_eq_true, Bool.not_eq_true', decide_eq_true_eq] at hok
        obtain ⟨⟨⟨k1, k2⟩, k3⟩, k4⟩ := hok
        obtain ⟨as, rd⟩ := Dp.reads I p _ _ (dn.py rl hp) rfl
        refine repr_of_reads' rd k1 (fun z => by rw [k2] at z; cases z) hg (by have := hr.un; omega) (fun _ _ e => e) (fun h' u tk hk => ⟨.str p.shown, H, I.kept hk, ⟨u, rfl⟩, RP.ret q rl (.str _)⟩) k4
      · exact q.elim
    · exact q.elim
  have q0 := q
  unfold reprD at q
  split at q
  · rename_i i
    obtain ⟨x, rfl, dx⟩ := one_of (α := Unit) dl
    split at q
    · rename_i hz
      cases dx
      obtain ⟨u1, rfl, r1⟩ := vals1 r
      obtain ⟨t, rfl⟩ := r1
      exact PySem.P.repr_of_int hz ⟨.str _, H, I.tok _, ⟨_, rfl⟩, RP.ret q rl (.str _)⟩
    · exact q.elim
  · rename_i d _
    obtain ⟨x, rfl, dx⟩ := one_of (α := Unit) dl
    obtain ⟨u1, rfl, r1⟩ := vals1 r
    split at q
    · cases dx with
      | lst ea el => exact main (.lst ea el) rfl r1 rfl
    · cases dx with
      | tup ea el => exact main (.tup ea el) rfl r1 rfl
    · exact q.elim
  · exact q.elim
theorem reprD_ok : CallD X cm (rRepr cm X.K) reprD := fun W g H xs ds Q rl dl q => ⟨g, ds, W, rl, dl, q⟩
end

/-! ### {} -/
section
variable {X : Cx} {cm : CM} {W : WX} {pos : Pos}
def sDic0 : SE := fun _ S => .ok (.dic []) S
theorem ve_dic0 : VE X cm W (.Dict [] [] pos) sDic0 := PE.imp pe_dnewK fun σ H Q ⟨g, ρ, rl, de, q⟩ p hp => RP.alloc q rl hp (.dic upd_same .nil)
end

/-! ### calls by keywords -/
/-- the values in the parameters' order -/
def ordL {α : Type} (perm : List Nat) (l : List α) : List α := perm.filterMap fun i => l[i]?
/-- n by position, the others by the names ks; to: fun _ us ws _ h1 h2 => match us, ws, h1, h2 with | [_], [_, _], _, _ => .of_eq rfl -/
structure KBd (K : PySem.W.Frag) (fd : FuncData) (ps ks : List Str) (n : Nat) (perm : List Nat) : Prop where
  to : ∀ (s : Shared) (us ws : List Value), K.In s.heap → us.length = n → ws.length = ks.length → BindsTo s fd ⟨us, ks.zip ws⟩ (ps.zip (ordL perm (us ++ ws)))
abbrev VK1 (X : Cx) (cm : CM) (W : WX) (kws : List Keyword) (f : SA) : Prop := PK X kws (tL X.K cm W f)
structure FVK (P : Program) (w : World) (K : PySem.W.Frag) (mg : Str → Option Value) (base : Heap) (cm : CM) (k : Nat) (x : Str) (ps : List Str) (F : Fn) (ks : List Str) (n : Nat) (perm : List Nat) : Prop where
  ex : ∃ (f : Addr) (fd : FuncData), FnOk P w K mg base (L2.CX P w) k f fd ps (spV K cm ps.length F) ∧ mg x = some (.ref f) ∧ PySem.W.keepIn K (.ref f) = true ∧ KBd K fd ps ks n perm
theorem vals_get : ∀ {vs : List V} {us : List Value} {i : Nat} {v : V} {u : Value}, Vals vs us → vs[i]? = some v → us[i]? = some u → RelV v u
  | _, _, i, v, u, .nil, h, _ => by simp at h
  | _, _, 0, v, u, .cons r _, h1, h2 => by
    simp at h1 h2
    subst h1 h2
    exact r
  | _, _, i + 1, v, u, .cons _ t, h1, h2 => vals_get (i := i) t (by simpa using h1) (by simpa using h2)
theorem ordL_rel {vs : List V} {us : List Value} (r : Vals vs us) : ∀ perm : List Nat, Vals (ordL perm vs) (ordL perm us)
  | [] => .nil
  | i :: perm => by
    unfold ordL
    simp only [List.filterMap_cons]
    cases h : vs[i]? with
    | none =>
      have h2 : us[i]? = none := by
        rw [List.getElem?_eq_none_iff] at h ⊢
        rw [← r.length]
        exact h
      rw [h2]
      exact ordL_rel r perm
    | some v =>
      have hl : i < us.length := by
        have := (List.getElem?_eq_some_iff.mp h).1
        rw [← r.length]
        exact this
      have h2 : us[i]? = some us[i] := List.getElem?_eq_getElem hl
      rw [h2]
      exact .cons (vals_get r h h2) (ordL_rel r perm)
theorem ordL_den {K : PySem.W.Frag} {cm : CM} {g : G} {vs : List V} {ds : List D} (r : DenL K cm g vs ds) : ∀ perm : List Nat, DenL K cm g (ordL perm vs) (ordL perm ds)
  | [] => .nil
  | i :: perm => by
    unfold ordL
    simp only [List.filterMap_cons]
    cases h : ds[i]? with
    | none =>
      have h2 : vs[i]? = none := by
        rw [List.getElem?_eq_none_iff] at h ⊢
        rw [r.length]
        exact h
      rw [h2]
      exact ordL_den r perm
    | some d =>
      obtain ⟨v, h1, h2⟩ := r.get h
      rw [h1]
      exact .cons h2 (ordL_den r perm)
def sAppK (np n m : Nat) (perm : List Nat) (F : Fn) (fa fk : SA) : SE := fun ρ S => (fa ρ S).bind fun ds S1 => (fk ρ S1).bind fun es S2 => if ds.length = n ∧ es.length = m ∧ (ordL perm (ds ++ es)).length = np then F (ordL perm (ds ++ es)) S2 else .bad
section
variable {X : Cx} {cm : CM} {W : WX} {k : Nat} {x : Str} {ps ks : List Str} {F : Fn} {n : Nat} {perm : List Nat} {p pos : Pos} {e : Expr} {es : List Expr} {kws : List Keyword} {fa fk : SA} {nm : Option Str} {kpos : Pos} {fe : SE}
theorem vk_nil : VK1 X cm W [] aNil := ⟨fun pos pins s σ H Q I ⟨g, ρ, rl, de, q⟩ => pk_nil.run pos pins s σ H Q I (RP.ret q rl .nil)⟩
theorem vk_cons (ha : VE X cm W e fe) (hr : VK1 X cm W kws fk) : VK1 X cm W (⟨nm, e, kpos⟩ :: kws) (aCons fe fk) :=
  ⟨fun pos pins s σ H Q I ⟨g, ρ, rl, de, q⟩ => (pk_cons ha hr).run pos pins s σ H Q I ⟨g, ρ, rl, de, RP.mono (RP.step q) fun v H1 ⟨d, g1, e1, rl1, dn, q1⟩ => ⟨g1, ρ, rl1, e1.denE de, RP.mono (RP.step q1) fun vs H2 ⟨ds, g2, e2, rl2, dl, q2⟩ => RP.ret q2 rl2 (.cons (e2.den dn) dl)⟩⟩⟩
theorem run_kw (hr : Room k X.A) (tk : Takes X W) {pins : List (Addr × Obj)} {σ : L2.St} {H : Hp} {s : Shared} {Q : VK} {f : Addr} {fd : FuncData} (hF : FnOk X.prog X.w X.K X.mg X.base (L2.CX X.prog X.w) k f fd ps (spV X.K cm ps.length F)) (hb : KBd X.K fd ps ks n perm)
    {us ws : List Value} {vs zs : List V} {g : G} {ds es : List D} (I : L2.Inv X pins σ H s) (r : Vals vs us) (rz : Vals zs ws) (rl : Rel X.K cm g H) (dl : DenL X.K cm g vs ds) (dz : DenL X.K cm g zs es) (l1 : ds.length = n) (l2 : es.length = ks.length) (l3 : (ordL perm (ds ++ es)).length = ps.length)
    (q : RP X.K cm (Den X.K cm) (fun c d H' => W c d σ H') g H (F (ordL perm (ds ++ es)) g.S) Q) : wpAny (model X.prog X.w) X.A (call (.ref f) us (ks.zip ws)) (EP X pins σ Q) X.xe s := by
  have r2 := ordL_rel (r.append rz) perm
  have d2 := ordL_den (dl.append dz) perm
  refine wpAny_call (codeAny_mono (hF.run X.A X.stack s H ⟨us, ks.zip ws⟩ (ordL perm (us ++ ws)) (ordL perm (vs ++ zs)) Q (WE W σ) hr I.env0 (hb.to s us ws I.kIn (by rw [← r.length, dl.length]; exact l1) (by rw [← rz.length, dz.length]; exact l2)) r2 ⟨by rw [d2.length]; exact l3, g, _, rl, d2, q⟩) fun r s' hq => ?_)
  cases r with
  | error e => exact passAt tk σ pins H s e s' I hq
  | ok fl =>
    cases fl with
    | ret u => exact I.after hq
    | next => exact False.elim hq
    | brk => exact False.elim hq
    | cont => exact False.elim hq
theorem ve_appK (Fv : FVK X.prog X.w X.K X.mg X.base cm k x ps F ks n perm) (hr : Room k X.A) (tk : Takes X W) (hg : Gl X x) (ha : VA X cm W (e :: es) fa) (hkw : VK1 X cm W kws fk)
    (hall : (backToKw pos (keywordEach kws X.env)).all (·.1.isSome) = true := by rfl) (hks : (backToKw pos (keywordEach kws X.env)).filterMap (·.1) = ks := by rfl) (hdb : (x == ("__debug__" : Str)) = false := by decide)
    (he : starEach (e :: es) X.env = (false, eval e X.env) :: starEach es X.env := by rfl) (hpl : ((backTo pos (starEach (e :: es) X.env)).any (·.1) || (backToKw pos (keywordEach kws X.env)).any (·.1.isNone)) = false := by rfl) :
    VE X cm W (.Call (.Name x p) (e :: es) kws pos) (sAppK ps.length n ks.length perm F fa fk) := by
  refine ⟨fun pins s σ H Q I ⟨g, ρ, rl, de, q⟩ => ?_⟩
  obtain ⟨f, fd, hF, hm, hk, hb⟩ := Fv.ex
  refine wpAny_Call_Name_kw (ld_glob I hg hm ?_ hdb)
  refine PySem.W.callWith_KW (h₀ := X.base) I.ok.mod.kin hk hall (thn (ha.run pos pins s σ H _ I ⟨g, ρ, rl, de, RP.step q⟩) fun us s1 ⟨vs, H1, I1, r, ds, g1, e1, rl1, dl, q1⟩ => ?_) hpl he
  refine thn (hkw.run pos pins s1 σ H1 _ I1 ⟨g1, ρ, rl1, e1.denE de, RP.step q1⟩) fun ws s2 ⟨zs, H2, I2, rz, es', g2, e2, rl2, dz, q2⟩ => ⟨I2.kIn, ?_⟩
  rw [hks]
  split at q2
  · rename_i hl
    exact run_kw hr tk hF hb I2 r rz rl2 (e2.denL dl) dz hl.1 hl.2.1 hl.2.2 q2
  · exact q2.elim
theorem ve_appK0 (Fv : FVK X.prog X.w X.K X.mg X.base cm k x ps F ks 0 perm) (hr : Room k X.A) (tk : Takes X W) (hg : Gl X x) (hkw : VK1 X cm W kws fk)
    (hall : (backToKw pos (keywordEach kws X.env)).all (·.1.isSome) = true := by rfl) (hks : (backToKw pos (keywordEach kws X.env)).filterMap (·.1) = ks := by rfl) (hdb : (x == ("__debug__" : Str)) = false := by decide)
    (hpl : ((backTo pos (starEach [] X.env)).any (·.1) || (backToKw pos (keywordEach kws X.env)).any (·.1.isNone)) = false := by rfl) :
    VE X cm W (.Call (.Name x p) [] kws pos) (sAppK ps.length 0 ks.length perm F aNil fk) := by
  refine ⟨fun pins s σ H Q I ⟨g, ρ, rl, de, q⟩ => ?_⟩
  obtain ⟨f, fd, hF, hm, hk, hb⟩ := Fv.ex
  refine wpAny_Call_Name_kw (ld_glob I hg hm ?_ hdb)
  refine PySem.W.callWith_KW0 (h₀ := X.base) I.ok.mod.kin hk hall (thn (hkw.run pos pins s σ H _ I ⟨g, ρ, rl, de, RP.step q⟩) fun ws s2 ⟨zs, H2, I2, rz, es', g2, e2, rl2, dz, q2⟩ => ⟨I2.kIn, ?_⟩) hpl
  rw [hks]
  split at q2
  · rename_i hl
    exact run_kw (us := []) (vs := []) hr tk hF hb I2 .nil rz rl2 .nil dz hl.1 hl.2.1 hl.2.2 q2
  · exact q2.elim
end
end VS
end
section
set_option Elab.async false
set_option linter.all false
set_option maxRecDepth 100000
/-! VS: further words: -x, three targets, what comparisons give -/
namespace VS
open PySem PySem.Spec PyProof.Rows L2

def BlD (o : D → D → Store → R D) : Prop := ∀ a b S d S', o a b S = .ok d S' → ∃ k, d = .bl k
theorem eqD_bl : BlD eqD := fun a b S d S' h => by
  unfold eqD at h
  split at h
  · cases h; exact ⟨_, rfl⟩
  · cases h
theorem neD_bl : BlD neD := fun a b S d S' h => by
  unfold neD at h
  split at h
  · cases h; exact ⟨_, rfl⟩
  · cases h
theorem ltD_bl : BlD ltD := fun a b S d S' h => by
  unfold ltD at h
  split at h
  · cases h; exact ⟨_, rfl⟩
  · cases h
theorem leD_bl : BlD leD := fun a b S d S' h => by
  unfold leD at h
  split at h
  · cases h; exact ⟨_, rfl⟩
  · cases h
theorem gtD_bl : BlD gtD := fun a b S d S' h => by
  unfold gtD at h
  split at h
  · cases h; exact ⟨_, rfl⟩
  · cases h
theorem geD_bl : BlD geD := fun a b S d S' h => by
  unfold geD at h
  split at h
  · cases h; exact ⟨_, rfl⟩
  · cases h
theorem isD_bl : BlD isD := fun a b S d S' h => by
  unfold isD at h
  split at h
  · cases h; exact ⟨_, rfl⟩
  · cases h; exact ⟨_, rfl⟩
  · cases h
theorem isnotD_bl : BlD isnotD := fun a b S d S' h => by
  unfold isnotD at h
  split at h
  · cases h; exact ⟨_, rfl⟩
  · cases h; exact ⟨_, rfl⟩
  · cases h
def sNeg (fa : SE) : SE := fun ρ S => (fa ρ S).bind fun d S1 => match d with
  | .int i => .ok (.int (-i)) S1
  | _ => .bad
section
variable {X : Cx} {cm : CM} {W : WX} {e : Expr} {fe : SE} {pos : Pos}
theorem ve_neg (he : VE X cm W e fe) : VE X cm W (.UnaryOp .USub e pos) (sNeg fe) :=
  PE.imp (pe_un un_neg he) fun σ H Q ⟨g, ρ, rl, de, q⟩ => ⟨g, ρ, rl, de, RP.mono (RP.step q) fun v H1 ⟨d, g1, e1, rl1, dn, q1⟩ => by
    cases dn with
    | int i => exact ⟨i, rfl, RP.ret q1 rl1 (.int _)⟩
    | _ => exact q1.elim⟩
/-- a, b, c = e1, e2, e3 -/
def sPar3 (i j l : Nat) (fa : SA) : SS := fun ρ S => RS.of ρ (fa ρ S) fun ds S1 => match ds with
  | [d, d', d''] => .nx (((ρ.set i (some d)).set j (some d')).set l (some d'')) S1
  | _ => .bad
end
end VS
end
section
set_option Elab.async false
set_option linter.all false
set_option maxRecDepth 100000
/-! VS: the same rules where the facts stand behind «there is» -/
namespace VS
open PySem PySem.Spec PyProof.Rows L2
section
variable {X : Cx} {cm : CM} {W : WX} {x n : Str} {c i : Nat} {body suite : List Stmt} {b₀ : Stmt} {np p pos pos' : Pos} {fb fs : SS} {sub : Nat → Nat → Bool}
theorem ve_gintE {j : Int} (hg : Gl X x) (hm : ∃ t, X.mg x = some (.int j t)) (hd : (x == ("__debug__" : Str)) = false := by decide) : VE X cm W (.Name x pos) (sC (.int j)) := by
  obtain ⟨t, h⟩ := hm
  exact ve_gint hg h hd
theorem ve_clsE (hg : Gl X x) (hm : ∃ C, cm c = some C ∧ X.mg x = some (.ref C)) (hdb : (x == ("__debug__" : Str)) = false := by decide) : VE X cm W (.Name x p) (sC (.cls c)) := by
  obtain ⟨C, h1, h2⟩ := hm
  exact ve_cls h1 hg h2 hdb
theorem vs_tryE (xf : ∃ cv, XFacts X.K cm sub c cv ∧ X.mg x = some cv) (hgl : Gl X x) (hdb : (x == ("__debug__" : Str)) = false) (hex : X.ex = []) (hs : X.stack = X.env :: X.outer) (hf : X.env.frame = some X.env.locals) (hN : X.N.Nodup) (hi : X.N[i]? = some n) (hln : X.env.kindOf n = some .local) (tk : Takes X W)
    (hb : ∀ (W' : WX) (pn : List (Addr × Obj)) (xe : Value → Shared → Prop), Takes (X.tr pn xe) W' → PassesOwn (model X.prog X.w) X.A X.env xe → VSs (X.tr pn xe) cm W' body fb)
    (hsu : ∀ (a : Addr) (pn : List (Addr × Obj)), VSs (X.suite a pn) cm WF (b₀ :: suite) fs) :
    VS1 X cm W (.Try body [.ExceptHandler (some (.Name x np)) (some n) (b₀ :: suite) pos'] [] [] pos) (sTry sub c i fb fs) := by
  obtain ⟨cv, h1, h2⟩ := xf
  exact vs_try h1 hex hs hf hN hi hln ⟨hgl, hdb, .inl h2⟩ tk hb hsu
end
section
variable {P : Program} {w : World} {K : PySem.W.Frag} {mg : Str → Option Value} {base : Heap} {cm : CM} {x qual : Str} {st : Stmt} {f : Addr} {fd : FuncData} {ps ks : List Str} {k n : Nat} {perm : List Nat}
theorem fv_bad (Fu : Fun K x qual st f fd) (hm : mg x = some (.ref f)) (hb : Binds K fd ps []) : FV P w K mg base cm k x ps (fun _ _ => .bad) :=
  ⟨f, fd, ⟨fun _ _ _ _ h => h.1, fun A outer s H args us vs Q E _ _ _ _ h => by
    obtain ⟨_, g, ds, _, _, q⟩ := h
    exact q.elim⟩, hm, Fu.kp, hb⟩
theorem kbd_of (Fu : Fun K x qual st f fd) (h : ∀ (kV doc pm : Value) (an : Option Addr) (cdv ct : Value) (us ws : List Value), us.length = n → ws.length = ks.length → bindArgs (PySem.W.fnOf x qual (defArgs st) (defBody st) (defScope st) .none kV doc pm an cdv ct) ⟨us, ks.zip ws⟩ = pure (ps.zip (ordL perm (us ++ ws)))) : KBd K fd ps ks n perm := by
  obtain ⟨oc, od, kV, doc, pm, an, cdv, ct, osl, rfl, _, _⟩ := Fu.ex
  exact ⟨fun s us ws _ h1 h2 => .of_eq (h kV doc pm an cdv ct us ws h1 h2)⟩
end
end VS
namespace VS
open PySem PySem.Spec PyProof.Rows L2
/-! a lambda's scope by a test -/
def lamSDB (N : List Str) (sc scope : Scope) (dfl : Option (Str × Int)) : Bool :=
  decide (scope.kind = .function) && !scope.isCoroutine && !scope.isGenerator && (scope.names.all fun y => !decide (y.2 = .cell) && (!decide (y.2 = .local) || !decide (y.1 ∈ N)) && (!decide (y.2 = .free) || decide (sc.names.lookup y.1 = some .cell) || decide (sc.names.lookup y.1 = some .free))) &&
    (dflN dfl).all fun a => decide (scope.names.lookup a = some .local)
theorem lamSD_by {N : List Str} {sc scope : Scope} {dfl : Option (Str × Int)} (h : lamSDB N sc scope dfl = true) : LamSD N sc scope dfl := by
  unfold lamSDB at h
  simp only [Bool.and_eq_true, Bool.or_eq_true, Bool.not_eq_true', decide_eq_true_eq, decide_eq_false_iff_not, List.all_eq_true] at h
  obtain ⟨⟨⟨⟨h1, h2⟩, h3⟩, h4⟩, h5⟩ := h
  refine ⟨h1, h2, h3, fun y hy => ⟨(h4 y hy).1.1, fun e => ?_⟩, fun y hy e => ?_, h5⟩
  · rcases (h4 y hy).1.2 with z | z
    · exact absurd e z
    · exact z
  · rcases (h4 y hy).2 with (z | z) | z
    · exact absurd e z
    · exact .inl z
    · exact .inr z
end VS
end
section
set_option Elab.async false
set_option linter.all false
set_option maxRecDepth 100000
set_option maxHeartbeats 4000000
/-! VS: the end: the law called by the claim's caller; its own table of code -/
namespace VS
open PySem PySem.Spec PyProof.Rows L2
open LamX (TabB Tabs TabS)

/-- what is wanted of the law's def: called by the claim's caller it gives True. c, Pt: its code object and that one's table -/
def LawRun (P : Program) (w : World) (K : PySem.W.Frag) (mg : Str → Option Value) (n : Nat) (fa c Pt : Addr) : Prop :=
  ∀ (base : Heap) (s : Shared) (H : Hp) (a : Addr) (ns : List Int), TabB base mg c Pt → Env0 P w K mg base callerA [] s H → ns.length ≤ n → (∀ z ∈ ns, Builtin.Int.intBits z ≤ 1048576) → H Pt = some (.tbl #[]) → SqL K H a (ns.map V.int) →
    codeAny (model P w) callerA (.call (.ref fa) ⟨[.ref a], []⟩) (CR (L2.CX P w) [] P w H s (fun v _ => v = .bl true) (fun _ _ _ => False)) s
theorem law_callG {P : Program} {w : World} {K : PySem.W.Frag} {mg mb : Str → Option Value} {n : Nat} {fa a c Pt : Addr} {s₁ : Shared} {vs : List Value} {ns : List Int}
    (KX : K.In s₁.heap) (hns : s₁.heap.Ns mainGlobals mg) (hb : s₁.heap.Ns builtinsNs mb) (hbb : ∀ x : Str, x ≠ "__name__" → mb x = bootBuiltins x) (hlim : s₁.heap.NoLimit) (hg : s₁.gens = #[])
    (hT : s₁.heap.get? Pt = some { cls := .none, data := .fields #[] }) (nT : K.lookup Pt = none) (C : PySem.W.CodeHd s₁.heap c Pt)
    (hbm : ∃ (bm : Addr) (ob : Obj), mg "__builtins__" = some (.ref bm) ∧ bm ≠ builtinsNs ∧ s₁.heap.get? bm = some ob ∧ ob.cls = .type "module" ∧ ob.dict = some builtinsNs ∧ ob.data = .plain)
    (ha : s₁.heap.get? a = some { cls := .type "list", data := .seq vs.toArray }) (hi : IntsAre vs ns) (hl : ns.length ≤ n) (hn : n ≤ sizeLine) (hbits : ∀ z ∈ ns, Builtin.Int.intBits z ≤ 1048576) (F : LawRun P w K mg n fa c Pt) :
    codeAny (model P w) callerA (.call (.ref fa) ⟨[.ref a], []⟩) (fun r s' => r = .ok (.ret (.bool true)) ∧ OldK s₁.heap s'.heap ∧ s'.os = s₁.os ∧ AllBare s'.gens) s₁ := by
  have rv := vals_ints hi
  have lenV := hi.length
  have hz : ns.length ≤ sizeLine := Nat.le_trans hl hn
  have aT : a ≠ Pt := fun z => by
    rw [z, hT] at ha
    have z' : Data.fields #[] = Data.seq vs.toArray _ := congrArg Obj.data (Option.some.inj ha)
    cases z'
  -- only the script and the table may be tracked
  have core : ∀ H : Hp, H Pt = some (.tbl #[]) → (∀ b, H b = none ∨ b = Pt ∨ ∃ o xs, H b = some (.frz o (.lst xs))) → SqL K H a (ns.map V.int) → HOk P w H s₁.heap → (∀ b, H b ≠ none → b = a ∨ b = Pt) → (H a ≠ none → K.lookup a = none) →
      codeAny (model P w) callerA (.call (.ref fa) ⟨[.ref a], []⟩) (fun r s' => r = .ok (.ret (.bool true)) ∧ OldK s₁.heap s'.heap ∧ s'.os = s₁.os ∧ AllBare s'.gens) s₁ := by
    intro H hH hO hS hok hA hK
    have base_of : ∀ {b : Addr} {o : Obj}, s₁.heap.get? b = some o → H b = none → (hidT s₁.heap H).get? b = some o := fun e n => hidT_get e n
    have noD : ∀ {b : Addr} {o : Obj}, s₁.heap.get? b = some o → (∀ vs n, o.data ≠ .seq vs n) → o.data ≠ .fields #[] → H b = none := fun {b o} e h1 h2 => by
      cases q : H b with
      | none => rfl
      | some u =>
        rcases hA b (by rw [q]; simp) with e' | e'
        · rw [e', ha] at e
          cases e
          exact (h1 _ _ rfl).elim
        · rw [e', hT] at e
          cases e
          exact (h2 rfl).elim
    have noA : ∀ {b : Addr} {o : Obj} {es : Array DictEntry} {ep : Nat}, s₁.heap.get? b = some o → o.data = .dict es ep → H b = none := fun {b o es ep} e d =>
      noD e (fun vs n z => by rw [d] at z; cases z) fun z => by rw [d] at z; cases z
    have nsK : ∀ {b : Addr} {m : Str → Option Value}, s₁.heap.Ns b m → (hidT s₁.heap H).Ns b m := fun {b m} ⟨o, es, ep, e, d, r⟩ => ⟨o, es, ep, base_of e (noA e d), d, r⟩
    have hKb : K.In (hidT s₁.heap H) := fun b o e => base_of (KX b o e) (by
      cases q : H b with
      | none => rfl
      | some u =>
        rcases hA b (by rw [q]; simp) with e' | e'
        · rw [e'] at e q
          rw [hK (by rw [q]; simp)] at e
          cases e
        · rw [e', nT] at e
          cases e)
    have hM : L2.Mod K mg (hidT s₁.heap H) := ⟨hKb, nsK hns, ⟨mb, nsK hb, hbb⟩, let ⟨mc, h1, h2⟩ := hlim; ⟨mc, nsK h1, h2⟩⟩
    have TB : TabB (hidT s₁.heap H) mg c Pt := by
      refine ⟨?_, ?_, fun z => ?_⟩
      · obtain ⟨o, us, file, tf, flags, tg, inF, text, tt, e1, r1, r2, r3, rest⟩ := C
        exact ⟨o, us, file, tf, flags, tg, inF, text, tt, base_of e1 (noD e1 (fun vs n z => by rw [r2] at z; cases z) fun z => by rw [r2] at z; cases z; simp at r3), r1, r2, r3, rest⟩
      · obtain ⟨bm, ob, b1, b2, b3, b4, b5, b6⟩ := hbm
        refine ⟨bm, ob, b1, b2, fun q => ?_, fun q => ?_, base_of b3 (noD b3 (fun vs n z => by rw [b6] at z; cases z) fun z => by rw [b6] at z; cases z), b4, b5, b6⟩
        · obtain ⟨o, es, ep, e, hd, _⟩ := hns
          rw [q, e] at b3
          cases b3
          rw [hd] at b6
          cases b6
        · rw [q, hT] at b3
          cases b3
          cases b6
      · obtain ⟨o, es, ep, e, hd, _⟩ := hns
        rw [z, hT] at e
        cases e
        cases hd
    have e0 : Env0 P w K mg (hidT s₁.heap H) callerA [] s₁ H := ⟨rfl, hM, fun b o e => of_hidT e, Nat.le_of_eq (hidT_size _ _), trivial, fun b hb => absurd (show b ∈ ([] : List Addr) from hb) (by simp), hok, .of_eq hg⟩
    refine codeAny_mono (F _ s₁ H a ns TB e0 hl hbits hH hS) fun r s' h => ?_
    cases r with
    | error e =>
      obtain ⟨_, _, _, _, _, _, _, _, _, _, _, _, z⟩ := h
      exact z.elim
    | ok fl =>
      cases fl with
      | next => exact False.elim h
      | brk => exact False.elim h
      | cont => exact False.elim h
      | ret u =>
        obtain ⟨v, H', os, bare, un, hok', r', q⟩ := h
        have q' : v = .bl true := q
        subst q'
        obtain rfl : u = Value.bool true := r'
        have key : ∀ b o, b ≠ Pt → s₁.heap.get? b = some o → s'.heap.get? b = some o := fun b o nb e => by
          cases q : H b with
          | none => exact un.keep b o e q (by intro z; exact absurd (show b ∈ ([] : List Addr) from z) (by simp)) (by simp)
          | some u =>
            rcases hO b with z | z | ⟨ob, xs, z⟩
            · rw [q] at z; cases z
            · exact absurd z nb
            · have z2 := un.frzs b ob _ z
              obtain ⟨e1, _⟩ := hok b _ z
              obtain ⟨e2, _⟩ := hok' b _ z2
              rw [e] at e1; cases e1
              exact e2
        obtain ⟨more, hmore⟩ := un.tbls Pt #[] hH
        have hm : s'.heap.get? Pt = some { cls := .none, data := .fields (#[] ++ more) } := hok' Pt _ hmore
        refine ⟨rfl, ⟨fun b o e => ?_, fun b o e => ?_⟩, os, bare⟩
        · by_cases hb : b = Pt
          · rw [hb] at e ⊢
            rw [hT] at e
            cases e
            exact .inr (.inl ⟨(C.tab hT).isCodeTable, rfl, #[], more, rfl, hm⟩)
          · exact .inl (key b o hb e)
        · by_cases hb : b = Pt
          · rw [hb]
            exact ⟨_, hm⟩
          · exact ⟨o, key b o hb e⟩
  cases hk : K.lookup a with
  | some o =>
    have e := KX a o hk
    rw [ha] at e
    cases e
    refine core (fun b => if b = Pt then some (.tbl #[]) else none) (if_pos rfl) (fun b => ?_) (.inr ⟨_, vs.toArray, _, hk, rfl, rfl, rfl, by rw [List.size_toArray, lenV]; exact hz, by simpa using rv⟩) (fun b u z => ?_) (fun b z => ?_) fun z => absurd (show (if a = Pt then some (HO.tbl #[]) else none) = none from if_neg aT) z
    · by_cases hb : b = Pt
      · exact .inr (.inl hb)
      · exact .inl (if_neg hb)
    · by_cases hb : b = Pt
      · have z' := (if_pos hb).symm.trans z
        cases z'
        rw [hb]
        exact hT
      · have z' := (if_neg hb).symm.trans z
        cases z'
    · by_cases hb : b = Pt
      · exact .inr hb
      · exact absurd (if_neg hb) z
  | none =>
    refine core (fun b => if b = a then some (.frz { cls := .type "list", data := .seq vs.toArray } (.lst (ns.map V.int))) else if b = Pt then some (.tbl #[]) else none) ((if_neg (Ne.symm aT)).trans (if_pos rfl)) (fun b => ?_) (.inl (.inr ⟨{ cls := .type "list", data := .seq vs.toArray }, if_pos rfl⟩)) (fun b u z => ?_) (fun b z => ?_) fun _ => hk
    · by_cases hb : b = a
      · exact .inr (.inr ⟨_, _, if_pos hb⟩)
      · by_cases hb2 : b = Pt
        · exact .inr (.inl hb2)
        · exact .inl ((if_neg hb).trans (if_neg hb2))
    · by_cases hb : b = a
      · have z' := (if_pos hb).symm.trans z
        cases z'
        rw [hb]
        exact ⟨ha, by rw [List.length_map]; exact hz, vs, _, rv, ha⟩
      · have z1 := (if_neg hb).symm.trans z
        by_cases hb2 : b = Pt
        · have z' := (if_pos hb2).symm.trans z1
          cases z'
          rw [hb2]
          exact hT
        · have z' := (if_neg hb2).symm.trans z1
          cases z'
    · by_cases hb : b = a
      · exact .inl hb
      · by_cases hb2 : b = Pt
        · exact .inr hb2
        · exact absurd ((if_neg hb).trans (if_neg hb2)) z
/-- what K tells of the law's code object -/
structure LawCode (K : PySem.W.Frag) (fa c Pt : Addr) : Prop where
  ex : ∃ (o : Obj) (fd : FuncData) (e : Value) (dd : Option Addr) (vs : Array Value) (sl : Array (Option Value)), K.lookup fa = some o ∧ o.data = .func fd ∧ fd.code = .ref c ∧ K.lookup c = some ⟨e, dd, .fields vs, sl⟩ ∧ vs[11]? = some (.ref Pt)
  no : K.lookup Pt = none
theorem walk_G {l : PySem.W.OpenLaw} {n : Nat} {q : Program} {loose : List Str} {XP : (Str → Option Value) → Heap → Prop} {YP : World → Heap → Prop} {d : DefRec} {K : Params → PySem.W.Frag}
    (hn : l.most = some n) (hn2 : n ≤ sizeLine) (hdf : d.params.defaults = []) (hrec : ((recsOf q).any fun e => e.name == d.name) = true) (hY : ∀ (w : World) (h : Heap), YP w h → (K w.params).In h)
    (F : ∀ (w : World) (mg : Str → Option Value) (fa : Addr) (h : Heap), YP w h → (K w.params).In h → h.Ns mainGlobals mg → mg d.name = some (.ref fa) → ∃ c Pt, LawCode (K w.params) fa c Pt ∧ LawRun l.prog w (K w.params) mg n fa c Pt) :
    PySem.W.WalkO q loose XP YP l.row.toRowW d [] (fun f vs => PySem.call f vs) := by
  refine Att.attach_callB hn hdf fun w s₀ s₁ mg mb fa o pm cd doc a vs ns G Y ho hd hcd hmg hobj hints hlen hbits hg => ?_
  have KX := hY w _ Y
  obtain ⟨c, Pt, LC, hR⟩ := F w mg fa _ Y KX G.T.g hmg
  obtain ⟨o1, fd1, e1, dd, vs1, sl, k1, k2, k3, k4, k5⟩ := LC.ex
  obtain ⟨dL, hm, hn1⟩ := List.any_eq_true.mp hrec
  have hn2' : dL.name = d.name := beq_iff_eq.mp hn1
  obtain ⟨a', o', fd', c', P', h1, h2, h3, h4, h5, h6⟩ := G.T.tab dL hm
  rw [hn2', hmg] at h1
  cases h1
  have g1 := KX _ _ k1
  rw [g1] at h2
  cases h2
  rw [k2] at h3
  cases h3
  rw [k3] at h4
  cases h4
  have C' := PySem.W.CodeHd.of h5 h6
  obtain ⟨⟨oc, vc, y1, _, y3, y4⟩, hP⟩ := id h6
  have g2 := KX _ _ k4
  rw [g2] at y1
  cases y1
  cases y3
  rw [k5] at y4
  cases y4
  exact law_callG KX G.T.g G.T.b G.T.builtins G.T.nolimit hg hP LC.no C' G.T.bmain hobj hints hlen hn2 hbits hR
/-- the law's def, run: by what its body is as a plain function -/
theorem law_run {P : Program} {w : World} {K : PySem.W.Frag} {mg : Str → Option Value} {cm : CM} {n k : Nat} {fa c Pt : Addr} {name qual : Str} {st : Stmt} {kV doc pm ct oc : Value} {an od : Option Addr} {osl : Array (Option Value)} {N : List Str} {x q : Str} {body : SS}
    (lk : K.lookup fa = some ⟨oc, od, .func (PySem.W.fnOf name qual (defArgs st) (defBody st) (defScope st) .none kV doc pm an (.ref c) ct), osl⟩) (hcd : PySem.W.codeIn K (.ref c) qual = true) (S : FnScope N [x] (defScope st))
    (hbind : ∀ (s : Shared) (u : Value), BindsTo s (PySem.W.fnOf name qual (defArgs st) (defBody st) (defScope st) .none kV doc pm an (.ref c) ct) ⟨[u], []⟩ [(x, u)]) (hr : Room (k + 1) callerA) (hT : cm.T = [(Pt, q)])
    (hbody : ∀ (base : Heap) (s : Shared) (H : Hp), Mod K mg base → TabB base mg c Pt → Room k (callerA.deeper (envOfC qual (defScope st) s.heap.objs.size fa (.ref c))) →
      VSs (cxOf (L2.CX P w) P w K mg base N qual (defScope st) fa (.ref c) callerA [] s H (fun _ _ _ => False)) cm (WO fun _ _ _ => False) (defBody st) body)
    (hlaw : ∀ ns : List Int, ns.length ≤ n → (∀ z ∈ ns, Builtin.Int.intBits z ≤ 1048576) → ∃ S', runB N.length body [.scr (ns.map D.int)] [] = .ok (.bl true) S') : LawRun P w K mg n fa c Pt := by
  intro base s H a ns TB e0 hl hbits hH hS
  refine LamX.run_ofS (N := N) (ps := [x]) (us := [.ref a]) (vs := [.ref a]) lk hcd S hr e0 (hbind s (.ref a)) (.cons rfl .nil) rfl fun hr' => ⟨_, hbody base s H e0.mod TB hr', ?_⟩
  have key : ∀ (F : Hp), (∀ b o, F b = some o → H b = some o) → (∀ b ps, F b ≠ some (.tbl ps)) → SqL K F a (ns.map V.int) → tS K cm (WO fun _ _ _ => False) body { nx := fun _ H' => (V.non : V) = .bl true, rt := fun v H' => v = .bl true } (L2.start N [.ref a]) H := by
    intro F h1 h2 h3
    have hc : ∀ p ∈ cm.T, TabS H p.1 p.2 := fun p hp => by
      rw [hT, List.mem_singleton] at hp
      rw [hp]
      exact LamX.TabS.nil hH
    have rl : Rel K cm ⟨F, [], []⟩ H := ⟨rfl, h1, fun k a c e => by simp at e, fun j k a c d e => by simp at e, hc, h2⟩
    obtain ⟨S', hr⟩ := hlaw ns hl hbits
    refine body_ok (X := cxOf (L2.CX P w) P w K mg base N qual (defScope st) fa (.ref c) callerA [] s H (fun _ _ _ => False)) (n := 1) (Q := fun v _ => v = .bl true) rfl rfl ⟨rfl, ⟨F, [], []⟩, [.scr (ns.map D.int)], rl, .cons (.scr h3 (denL_ints ns)) .nil, ?_⟩
    show RP K cm (Den K cm) _ _ _ (runB N.length body [.scr (ns.map D.int)] []) _
    rw [hr]
    intro g' H' v e rl' es dn
    cases dn
    rfl
  rcases hS with (hS | ⟨o, hS⟩) | hS
  · refine key (fun b => if b = a then H a else none) (fun b o e => ?_) (fun b ps e => ?_) (.inl (.inl ?_))
    · by_cases hb : b = a
      · rw [if_pos hb] at e
        rw [hb]
        exact e
      · rw [if_neg hb] at e
        cases e
    · by_cases hb : b = a
      · rw [if_pos hb, hS] at e
        cases e
      · rw [if_neg hb] at e
        cases e
    · exact (if_pos rfl).trans hS
  · refine key (fun b => if b = a then H a else none) (fun b o e => ?_) (fun b ps e => ?_) (.inl (.inr ⟨o, ?_⟩))
    · by_cases hb : b = a
      · rw [if_pos hb] at e
        rw [hb]
        exact e
      · rw [if_neg hb] at e
        cases e
    · by_cases hb : b = a
      · rw [if_pos hb, hS] at e
        cases e
      · rw [if_neg hb] at e
        cases e
    · exact (if_pos rfl).trans hS
  · exact key (fun _ => none) (fun b o e => by cases e) (fun b ps e => by cases e) (.inr hS)
end VS
end
section
set_option Elab.async false
set_option linter.all false
set_option maxRecDepth 100000
set_option maxHeartbeats 4000000
/-! VS: what the top has written, gathered: classes, errors, defs -/
namespace VS
open PySem PySem.Spec PyProof.Rows L2

def allBT : List BT := [.non, .bl, .int, .str, .lst, .tup, .dic, .flt, .byt, .set]
theorem mem_allBT (t : BT) : t ∈ allBT := by cases t <;> decide
/-- a class of errors: its instances are asked by isinstance -/
def kxB (K : PySem.W.Frag) (C : Addr) : Bool := (PySem.W.clsIn K C).isSome && decide (PySem.W.findIn K (.ref C) "__getattribute__" = some (some (.builtin "BaseException.__getattribute__"))) && decide (PySem.W.findIn K (.ref C) "__getattr__" = some none) &&
  decide (PySem.W.subIn K (.ref C) (.type "BaseException") = some true) && decide (PySem.W.findIn K (.ref C) "__class__" = some (some (.builtin "object.__class__"))) && decide (PySem.W.specialIn K (.builtin "object.__class__") "__get__" = some (some (.builtin "getset_descriptor.__get__"))) &&
  decide (PySem.W.takesIn K (.builtin "object.__class__") = some true) && decide (PySem.W.mroIn K C (.type "object") = some true)
def clB1 (K : PySem.W.Frag) (sub : Nat → Nat → Bool) (isX : Nat → Bool) (attrs : List Str) (exc : List (Nat × Addr)) (cl : List (Nat × Addr)) (p : Nat × Addr) : Bool :=
  (cl.all fun q => decide (PySem.W.kitOne K (.ref p.2) (.ref q.2) = some (sub p.1 q.1))) && (allBT.all fun t => decide (PySem.W.kitOne K (.type t.nm) (.ref p.2) = some false) && decide (PySem.W.kitOne K (.ref p.2) (.type t.nm) = some false)) &&
    kxB K p.2 && PySem.W.keepIn K (.ref p.2) && (exc.all fun q => decide (PySem.W.exmOne K (.ref p.2) (.ref q.2) = some (sub p.1 q.1))) && (!isX p.1 || (xfB K p.2 && attrs.all fun f => decide (PySem.W.findIn K (.ref p.2) f = some none)))
def clB (K : PySem.W.Frag) (sub : Nat → Nat → Bool) (isX : Nat → Bool) (attrs : List Str) (exc : List (Nat × Addr)) (cl : List (Nat × Addr)) : Bool := cl.all (clB1 K sub isX attrs exc cl)
def cmOf (cl : List (Nat × Addr)) (T : List (Addr × Str)) : CM := ⟨fun c => cl.lookup c, T⟩
theorem look_mem {α : Type} [BEq α] [LawfulBEq α] {β : Type} : ∀ {l : List (α × β)} {a : α} {b : β}, l.lookup a = some b → (a, b) ∈ l
  | [], _, _, h => by cases h
  | (x, y) :: l, a, b, h => by
    rw [List.lookup_cons] at h
    by_cases e : (a == x) = true
    · rw [e] at h
      cases h
      rw [eq_of_beq e]
      exact List.mem_cons_self
    · have e' : (a == x) = false := by simpa using e
      rw [e'] at h
      exact List.mem_cons_of_mem _ (look_mem h)
section
variable {K : PySem.W.Frag} {sub : Nat → Nat → Bool} {isX : Nat → Bool} {attrs : List Str} {exc cl : List (Nat × Addr)} {T : List (Addr × Str)}
theorem clB_at (h : clB K sub isX attrs exc cl = true) {c : Nat} {C : Addr} (hc : (cmOf cl T) c = some C) : clB1 K sub isX attrs exc cl (c, C) = true := List.all_eq_true.mp h _ (look_mem hc)
theorem cf_of (h : clB K sub isX attrs exc cl = true) : CFacts K (cmOf cl T) sub where
  cc := fun c C c' C' h1 h2 => by
    have z := clB_at h h1
    unfold clB1 at z
    simp only [Bool.and_eq_true, List.all_eq_true, decide_eq_true_eq] at z
    exact z.1.1.1.1.1 _ (look_mem h2)
  bc := fun t c C h1 => by
    have z := clB_at h h1
    unfold clB1 at z
    simp only [Bool.and_eq_true, List.all_eq_true, decide_eq_true_eq] at z
    exact (z.1.1.1.1.2 t (mem_allBT t)).1
  cb := fun t c C h1 => by
    have z := clB_at h h1
    unfold clB1 at z
    simp only [Bool.and_eq_true, List.all_eq_true, decide_eq_true_eq] at z
    exact (z.1.1.1.1.2 t (mem_allBT t)).2
  kx := fun c C h1 x ox od => by
    have z := clB_at h h1
    unfold clB1 kxB at z
    simp only [Bool.and_eq_true, List.all_eq_true, decide_eq_true_eq] at z
    obtain ⟨⟨⟨⟨⟨⟨⟨k1, k2⟩, k3⟩, k4⟩, k5⟩, k6⟩, k7⟩, k8⟩ := z.1.1.1.2
    exact PySem.W.kitx_exc k1 k2 k3 k4 k5 k6 k7 k8
  kp := fun c C h1 => by
    have z := clB_at h h1
    unfold clB1 at z
    simp only [Bool.and_eq_true] at z
    exact z.1.1.2
theorem xf_of (h : clB K sub isX attrs exc cl = true) {c : Nat} {C : Addr} (hc : (c, C) ∈ exc) : XFacts K (cmOf cl T) sub c (.ref C) := ⟨fun c' C' h1 => by
    have z := clB_at h h1
    unfold clB1 at z
    simp only [Bool.and_eq_true, List.all_eq_true, decide_eq_true_eq] at z
    exact z.1.2 _ hc⟩
theorem xfld_of (h : clB K sub isX attrs exc cl = true) {f : Str} (hf : f ∈ attrs) : XFld K (cmOf cl T) isX f := ⟨fun c C h1 hx => by
    have z := clB_at h h1
    unfold clB1 at z
    simp only [Bool.and_eq_true, List.all_eq_true, decide_eq_true_eq, Bool.or_eq_true, Bool.not_eq_true'] at z
    rcases z.2 with y | y
    · rw [hx] at y
      cases y
    · exact ⟨xfB_ok y.1, y.2 f hf⟩⟩
end
/-- an error class's facts by tests -/
def errB (K : PySem.W.Frag) (C fI : Addr) (fs : List Str) : Bool := decide (PySem.W.findIn K (.ref C) "__setattr__" = some (some (.builtin "object.__setattr__"))) && decide (PySem.W.findIn K (.ref C) "__getattribute__" = some (some (.builtin "BaseException.__getattribute__"))) &&
  decide (PySem.W.findIn K (.ref C) "__getattr__" = some none) && decide (PySem.W.findIn K (.ref C) "__init__" = some (some (.ref fI))) && decide (PySem.W.typeIn K (.ref fI) = some (.type "function")) && PySem.W.keepIn K (.ref C) && decide (PySem.W.subIn K (.ref C) (.type "BaseException") = some true) &&
  decide (PySem.W.subIn K (.ref C) (.type "ValueError") = some true) && decide (PySem.W.typeIn K (.ref C) = some (.type "type")) && PySem.W.hasDictIn K C && decide (PySem.W.mroIn K C (.ref C) = some true) && decide (PySem.W.ks_superIn K C C "__init__" = some (some (.builtin "ValueError.__init__"))) &&
  decide (PySem.W.nsIn K cStatics "thirdparty.any" = some none) && fs.all fun f => decide (PySem.W.findIn K (.ref C) f = some none)
theorem errC_of {P : Program} {K : PySem.W.Frag} {mg : Str → Option Value} {x : Str} {C fI : Addr} {fs : List Str} (g : mg x = some (.ref C)) (h : errB K C fI fs = true)
    (hc : ∃ nm q N bs bm sn sub ab col dd k0 k1 k2 k3 k5, K.lookup C = some (excClassObj nm q C N bs bm true sn sub ab col dd k0 k1 k2 k3 k5 "ValueError.__new__") ∧ PySem.HandSPX.refsVE bm = true) : ErrC P K mg x C fI ∧ ∀ f ∈ fs, PySem.W.findIn K (.ref C) f = some none := by
  unfold errB at h
  simp only [Bool.and_eq_true, List.all_eq_true, decide_eq_true_eq] at h
  obtain ⟨⟨⟨⟨⟨⟨⟨⟨⟨⟨⟨⟨⟨a1, a2⟩, a3⟩, a4⟩, a5⟩, a6⟩, a7⟩, a8⟩, a9⟩, a10⟩, a11⟩, a12⟩, a13⟩, a14⟩ := h
  exact ⟨⟨g, hc, a1, a2, a3, a4, a5, a6, a7, a8, a9, a10, a11, a12, a13⟩, a14⟩
/-- the k-th def of a class's body -/
def clsStmt (s : Stmt) (i : Nat) : Stmt := match s with
  | .ClassDef _ _ _ body _ _ _ _ _ _ _ => body.getD i (.Pass ⟨0, 0, 0, 0⟩)
  | s => s
end VS
end
section
set_option Elab.async false
set_option linter.all false
set_option maxRecDepth 100000
set_option maxHeartbeats 1000000
/-! VS: the value semantics told for rewriting: each piece at known values -/
namespace VS
open PySem PySem.Spec PyProof.Rows L2
section
variable {α β : Type} {ρ ρ1 : VS.Env} {S S1 : Store} {x : Ex}
@[simp] theorem bind_ok (a : α) (f : α → Store → R β) : (R.ok a S).bind f = f a S := rfl
@[simp] theorem bind_exc (f : α → Store → R β) : (R.exc x S : R α).bind f = .exc x S := rfl
@[simp] theorem bind_bad (f : α → Store → R β) : (R.bad : R α).bind f = .bad := rfl
theorem bind_c {r r' : R α} {f : α → Store → R β} (h : r = r') : r.bind f = r'.bind f := by rw [h]
@[simp] theorem of_ok (a : α) (f : α → Store → RS) : RS.of ρ (.ok a S) f = f a S := rfl
@[simp] theorem of_exc (f : α → Store → RS) : RS.of ρ (.exc x S : R α) f = .exc x ρ S := rfl
theorem of_c {r r' : R α} {f : α → Store → RS} (h : r = r') : RS.of ρ r f = RS.of ρ r' f := by rw [h]
@[simp] theorem seq_nx (f : VS.Env → Store → RS) : (RS.nx ρ S).seq f = f ρ S := rfl
@[simp] theorem seq_ret (d : D) (f : VS.Env → Store → RS) : (RS.ret d S).seq f = .ret d S := rfl
@[simp] theorem seq_exc (f : VS.Env → Store → RS) : (RS.exc x ρ S).seq f = .exc x ρ S := rfl
theorem seq_c {r r' : RS} {f : VS.Env → Store → RS} (h : r = r') : r.seq f = r'.seq f := by rw [h]
/-- how a body's way out is a def's answer -/
def fin (n : Nat) : RS → R D
  | .nx _ S' => cut n .non S'
  | .ret d S' => cut n d S'
  | .exc x _ S' => cutX n x S'
  | _ => .bad
theorem runB_e (n : Nat) (b : SS) (ds : List D) (S : Store) : runB n b ds S = fin S.length (b (ds.map some ++ List.replicate (n - ds.length) none) S) := by
  unfold runB fin
  split <;> simp_all
@[simp] theorem fin_nx (n : Nat) : fin n (.nx ρ S) = cut n .non S := rfl
@[simp] theorem fin_ret (n : Nat) (d : D) : fin n (.ret d S) = cut n d S := rfl
@[simp] theorem fin_exc (n : Nat) : fin n (.exc x ρ S) = cutX n x S := rfl
@[simp] theorem cut_self (d : D) : cut S.length d S = .ok d S := by simp [cut]
@[simp] theorem cutX_self : cutX S.length x S = .exc x S := by simp [cutX]
@[simp] theorem var_e (i : Nat) : sVar i ρ S = (match ρ[i]? with | some (some d) => .ok d S | _ => .bad) := rfl
@[simp] theorem c_e (d : D) : sC d ρ S = .ok d S := rfl
@[simp] theorem nil_e : aNil ρ S = .ok [] S := rfl
@[simp] theorem cons_e (f : SE) (fs : SA) : aCons f fs ρ S = (f ρ S).bind fun d S1 => (fs ρ S1).bind fun ds S2 => .ok (d :: ds) S2 := rfl
@[simp] theorem bin_e (o : D → D → Store → R D) (f h : SE) : sBin o f h ρ S = (f ρ S).bind fun a S1 => (h ρ S1).bind fun b S2 => o a b S2 := rfl
@[simp] theorem not_e (f : SE) : sNot f ρ S = (f ρ S).bind fun a S1 => (truR a S1).bind fun k S2 => .ok (.bl (!k)) S2 := rfl
@[simp] theorem and_e (f h : SE) : sAnd f h ρ S = (f ρ S).bind fun a S1 => (truR a S1).bind fun k S2 => if k = true then h ρ S2 else .ok a S2 := rfl
@[simp] theorem or_e (f h : SE) : sOr f h ρ S = (f ρ S).bind fun a S1 => (truR a S1).bind fun k S2 => if k = true then .ok a S2 else h ρ S2 := rfl
@[simp] theorem if_e (t : ST) (f h : SE) : sIf t f h ρ S = (t ρ S).bind fun k S1 => if k = true then f ρ S1 else h ρ S1 := rfl
@[simp] theorem tru_e (f : SE) : tTru f ρ S = (f ρ S).bind truR := rfl
@[simp] theorem tnot_e (t : ST) : tNotF t ρ S = (t ρ S).bind fun k S1 => .ok (!k) S1 := rfl
@[simp] theorem tand_e (t u : ST) : tAndF t u ρ S = (t ρ S).bind fun k S1 => if k = true then u ρ S1 else .ok false S1 := rfl
@[simp] theorem tor_e (t u : ST) : tOrF t u ρ S = (t ρ S).bind fun k S1 => if k = true then .ok true S1 else u ρ S1 := rfl
@[simp] theorem all_e : tAll ρ S = .ok true S := rfl
@[simp] theorem call_e (f : List D → Store → R D) (fa : SA) : sCall f fa ρ S = (fa ρ S).bind f := rfl
@[simp] theorem fcall_e (f : List D → Store → R (List D)) (fa : SA) : fCall f fa ρ S = (fa ρ S).bind f := rfl
@[simp] theorem imm_e (f : SF) : immF f ρ S = (f ρ S).bind fun ds S' => .ok (.lst ds) S' := rfl
@[simp] theorem mut_e (f : SF) : mutF f ρ S = (f ρ S).bind fun ds S' => .ok (.cel S'.length) (S' ++ [.lst ds]) := rfl
@[simp] theorem lst_e (f : SA) : fLst f ρ S = (f ρ S).bind short := rfl
@[simp] theorem tup_e (f : SA) : sTup f ρ S = (f ρ S).bind fun ds S' => (short ds S').bind fun ds S'' => .ok (.tup ds) S'' := rfl
@[simp] theorem app_e (n : Nat) (F : Fn) (fa : SA) : sApp n F fa ρ S = (fa ρ S).bind fun ds S1 => if ds.length = n then F ds S1 else .bad := rfl
@[simp] theorem appK_e (np n m : Nat) (perm : List Nat) (F : Fn) (fa fk : SA) : sAppK np n m perm F fa fk ρ S = (fa ρ S).bind fun ds S1 => (fk ρ S1).bind fun es S2 => if ds.length = n ∧ es.length = m ∧ (ordL perm (ds ++ es)).length = np then F (ordL perm (ds ++ es)) S2 else .bad := rfl
@[simp] theorem ml_e (f : D → List D → Store → R D) (fo : SE) (fa : SA) : mList f fo fa ρ S = (fo ρ S).bind fun o S1 => if isListD S1 o = true then (fa ρ S1).bind fun ds S2 => f o ds S2 else .bad := rfl
@[simp] theorem neg_e (f : SE) : sNeg f ρ S = (f ρ S).bind fun d S1 => match d with | .int i => .ok (.int (-i)) S1 | _ => .bad := rfl
@[simp] theorem seqS_e (f fs : SS) : sSeq f fs ρ S = (f ρ S).seq fs := rfl
@[simp] theorem skip_e : sSkip ρ S = .nx ρ S := rfl
@[simp] theorem expr_e (f : SE) : sExpr f ρ S = RS.of ρ (f ρ S) fun _ S1 => .nx ρ S1 := rfl
@[simp] theorem ret_e (f : SE) : sRet f ρ S = RS.of ρ (f ρ S) fun d S1 => .ret d S1 := rfl
@[simp] theorem asg_e (f : SE) (i : Nat) : sAsg f (gVar i) ρ S = RS.of ρ (f ρ S) fun d S1 => .nx (ρ.set i (some d)) S1 := rfl
theorem asg_g (f : SE) (gt : SG) : sAsg f gt ρ S = RS.of ρ (f ρ S) fun d S1 => match gt d ρ S1 with | .ok ρ2 S2 => .nx ρ2 S2 | _ => .bad := rfl
@[simp] theorem ite_e (t : ST) (f h : SS) : sIte t f h ρ S = RS.of ρ (t ρ S) fun k S1 => if k = true then f ρ S1 else h ρ S1 := rfl
@[simp] theorem raise_e (c : Nat) (fs : List Str) (fa : SA) : sRaise c fs fa ρ S = RS.of ρ (fa ρ S) fun ds S1 => if ds.length = fs.length then .exc ⟨c, fs.zip ds⟩ ρ S1 else .bad := rfl
@[simp] theorem par_e (i j : Nat) (fa : SA) : sPar i j fa ρ S = RS.of ρ (fa ρ S) fun ds S1 => match ds with | [d, d'] => .nx ((ρ.set i (some d)).set j (some d')) S1 | _ => .bad := rfl
@[simp] theorem for_e (fi : SI) (gt : SG) (b : SS) : sFor fi gt b ρ S = RS.of ρ (fi ρ S) fun src S1 => forS src gt b (src.len S1 + 1) 0 ρ S1 := rfl
@[simp] theorem lc_e (fi : SI) (gt : SG) (tt : ST) (te : SE) (vs : List Nat) : fLc fi gt tt te vs ρ S = (fi ρ S).bind fun src S1 => lcS src gt tt te vs ρ (src.len S1 + 1) 0 [] S1 := rfl
@[simp] theorem over_e (f : SE) : iOver f ρ S = (f ρ S).bind fun d S1 => match lookT d with | some ds => .ok (.tup ds) S1 | none => match lookL S1 d with | some _ => .ok (.seq d) S1 | none => .bad := rfl
@[simp] theorem rng_e (fa : SA) : iRange1 fa ρ S = (fa ρ S).bind fun ds S1 => match ds with | [.int j] => if -(2 ^ 62) ≤ j ∧ j < 2 ^ 62 then .ok (.rng 0 j.toNat) S1 else .bad | _ => .bad := rfl
@[simp] theorem zip_e (fa : SA) : iZipS fa ρ S = (fa ρ S).bind fun ds S1 => match ds with
  | [a, b] => match lookT a, lookT b with
    | some xs, some ys => .ok (.zipT xs ys) S1
    | _, _ => match lookL S1 a, lookL S1 b with
      | some _, some _ => .ok (.zipL a b) S1
      | _, _ => .bad
  | _ => .bad := rfl
@[simp] theorem slice_e (f : SE) (l h : SO) : sSlice f l h ρ S = (f ρ S).bind fun d S1 => (l ρ S1).bind fun lo S2 => (h ρ S2).bind fun hi S3 => slD d lo hi S3 := rfl
@[simp] theorem onone_e : oNone ρ S = .ok none S := rfl
@[simp] theorem osome_e (f : SE) : oSome f ρ S = (f ρ S).bind fun d S1 => match d with | .int i => .ok (some i) S1 | _ => .bad := rfl
@[simp] theorem dic0_e : sDic0 ρ S = .ok (.dic []) S := rfl
@[simp] theorem heard_e (HF : (Store → R D) → Store → R D) (f : SE) : sHeard HF f ρ S = match HF (f ρ) S with | .exc _ _ => .bad | r => r := rfl
end
section
variable {S : Store}
@[simp] theorem short_e {ds : List D} (h : ds.length ≤ 1000) : short ds S = .ok ds S := by
  unfold short
  rw [if_pos (Nat.le_trans h (by decide))]
@[simp] theorem truR_bl (b : Bool) : truR (.bl b) S = .ok b S := rfl
@[simp] theorem truR_non : truR .non S = .ok false S := rfl
@[simp] theorem lookT_tup (xs : List D) : lookT (.tup xs) = some xs := rfl
@[simp] theorem lookT_lst (xs : List D) : lookT (.lst xs) = none := rfl
@[simp] theorem lookT_scr (xs : List D) : lookT (.scr xs) = none := rfl
@[simp] theorem lookT_cel (k : Nat) : lookT (.cel k) = none := rfl
@[simp] theorem lookL_lst (xs : List D) : lookL S (.lst xs) = some xs := rfl
@[simp] theorem lookL_scr (xs : List D) : lookL S (.scr xs) = some xs := rfl
@[simp] theorem lookL_tup (xs : List D) : lookL S (.tup xs) = none := rfl
@[simp] theorem ge_e (i j : Int) : geD (.int i) (.int j) S = .ok (.bl (decide (j ≤ i))) S := rfl
@[simp] theorem le_e (i j : Int) : leD (.int i) (.int j) S = .ok (.bl (decide (i ≤ j))) S := rfl
@[simp] theorem lt_e (i j : Int) : ltD (.int i) (.int j) S = .ok (.bl (decide (i < j))) S := rfl
@[simp] theorem gt_e (i j : Int) : gtD (.int i) (.int j) S = .ok (.bl (decide (j < i))) S := rfl
@[simp] theorem is_non (a : D) : isD a .non S = .ok (.bl (isNon a)) S := by cases a <;> rfl
@[simp] theorem is_bl (a b : Bool) : isD (.bl a) (.bl b) S = .ok (.bl (decide (a = b))) S := rfl
@[simp] theorem isn_bl (a b : Bool) : isnotD (.bl a) (.bl b) S = .ok (.bl (!decide (a = b))) S := rfl
@[simp] theorem isNon_int (i : Int) : isNon (.int i) = false := rfl
@[simp] theorem isNon_non : isNon .non = true := rfl
@[simp] theorem isNon_exc (c : Nat) (fs : List (Str × D)) : isNon (.exc c fs) = false := rfl
@[simp] theorem add_e (i j : Int) : addD (.int i) (.int j) S = .ok (.int (i + j)) S := rfl
@[simp] theorem sub_e (i j : Int) : subD (.int i) (.int j) S = .ok (.int (i - j)) S := rfl
@[simp] theorem eq_int (i j : Int) : eqD (.int i) (.int j) S = .ok (.bl (i == j)) S := by
  simp [eqD, eqPy, toPy, toP, SeqAt.shaped, PyData.eqv, PyData.canLay0, PyData.depth]
@[simp] theorem ne_int (i j : Int) : neD (.int i) (.int j) S = .ok (.bl (!(i == j))) S := by
  simp [neD, eqPy, toPy, toP, SeqAt.shaped, PyData.eqv, PyData.canLay0, PyData.depth]
@[simp] theorem int_int (i : Int) : intD [.int i] S = .ok (.int i) S := rfl
@[simp] theorem int_bl (k : Bool) : intD [.bl k] S = .ok (.int (if k then 1 else 0)) S := rfl
@[simp] theorem len_tup (xs : List D) : lenD [.tup xs] S = .ok (.int xs.length) S := rfl
@[simp] theorem len_lst (xs : List D) : lenD [.lst xs] S = .ok (.int xs.length) S := rfl
@[simp] theorem tuple_tup (xs : List D) : tupleD [.tup xs] S = .ok (.tup xs) S := rfl
@[simp] theorem tuple_lst (xs : List D) : tupleD [.lst xs] S = .ok (.tup xs) S := rfl
@[simp] theorem listF_tup (xs : List D) : listF [.tup xs] S = .ok xs S := rfl
@[simp] theorem listF_lst (xs : List D) : listF [.lst xs] S = .ok xs S := rfl
@[simp] theorem all_lst {xs : List D} {bs : List Bool} (h : boolsOf xs = some bs) : allD [.lst xs] S = .ok (.bl (bs.all id)) S := by simp [allD, h]
end
/-! ### comprehensions over pure pieces -/
theorem lcS_pure {src : Src} {gt : SG} {tt : ST} {te : SE} {vs : List Nat} {ρ : VS.Env} {S : Store} {xs : List D} {p : D → Bool} {f : D → D}
    (hat : ∀ i, src.at S i = some xs[i]?) (he : ∀ d ∈ xs, ∃ ρ1, gt d (wipeE ρ vs) S = .ok ρ1 S ∧ tt ρ1 S = .ok (p d) S ∧ (p d = true → te ρ1 S = .ok (f d) S)) :
    ∀ (m i : Nat) (acc : List D), xs.length < i + m → i ≤ xs.length ∧ acc.length + (xs.length - i) ≤ 1000 → lcS src gt tt te vs ρ m i acc S = .ok (acc ++ ((xs.drop i).filter p).map f) S
  | 0, i, acc, h1, h2 => by
    unfold lcS
    omega
  | m + 1, i, acc, h1, h2 => by
    unfold lcS
    rw [hat]
    by_cases hi : i < xs.length
    · rw [List.getElem?_eq_getElem hi]
      obtain ⟨ρ1, e1, e2, e3⟩ := he xs[i] (List.getElem_mem hi)
      simp only [e1, e2]
      rw [List.drop_eq_getElem_cons hi]
      cases hp : p xs[i] with
      | true =>
        have hs : acc.length < sizeLine := Nat.lt_of_le_of_lt (m := 1000) (by omega) (by decide)
        simp only [hp, e3 hp, hs, if_true]
        rw [lcS_pure hat he m (i + 1) _ (by omega) (by simp; omega)]
        rw [List.filter_cons_of_pos hp, List.map_cons, List.append_assoc]
        rfl
      | false =>
        simp only [hp]
        rw [lcS_pure hat he m (i + 1) _ (by omega) (by omega)]
        rw [List.filter_cons_of_neg (by simp [hp])]
    · rw [List.getElem?_eq_none (by omega), List.drop_eq_nil_of_le (by omega)]
      simp
theorem lcS_run {src : Src} {gt : SG} {tt : ST} {te : SE} {vs : List Nat} {ρ : VS.Env} {S : Store} {xs : List D} (p : D → Bool) (f : D → D)
    (hl : xs.length ≤ src.len S) (h9 : xs.length ≤ 1000) (hat : ∀ i, src.at S i = some xs[i]?) (he : ∀ d ∈ xs, ∃ ρ1, gt d (wipeE ρ vs) S = .ok ρ1 S ∧ tt ρ1 S = .ok (p d) S ∧ (p d = true → te ρ1 S = .ok (f d) S)) :
    lcS src gt tt te vs ρ (src.len S + 1) 0 [] S = .ok ((xs.filter p).map f) S := by
  rw [lcS_pure hat he _ 0 [] (by omega) (by simp; omega)]
  simp
theorem lcS_all {src : Src} {gt : SG} {tt : ST} {te : SE} {vs : List Nat} {ρ : VS.Env} {S : Store} {xs : List D} (f : D → D)
    (hl : xs.length ≤ src.len S) (h9 : xs.length ≤ 1000) (hat : ∀ i, src.at S i = some xs[i]?) (he : ∀ d ∈ xs, ∃ ρ1, gt d (wipeE ρ vs) S = .ok ρ1 S ∧ tt ρ1 S = .ok true S ∧ te ρ1 S = .ok (f d) S) :
    lcS src gt tt te vs ρ (src.len S + 1) 0 [] S = .ok (xs.map f) S := by
  rw [lcS_run (fun _ => true) f hl h9 hat fun d hd => let ⟨ρ1, a, b, c⟩ := he d hd; ⟨ρ1, a, b, fun _ => c⟩, List.filter_eq_self.mpr fun _ _ => rfl]
theorem forS_run {src : Src} {gt : SG} {body : SS} (I : Nat → VS.Env → Store → Prop) (n : Nat)
    (hat : ∀ i, i < n → ∀ ρ S, I i ρ S → ∃ d, src.at S i = some (some d) ∧ ∃ ρ1 S1, gt d ρ S = .ok ρ1 S1 ∧ ∃ ρ2 S2, body ρ1 S1 = .nx ρ2 S2 ∧ I (i + 1) ρ2 S2)
    (hend : ∀ ρ S, I n ρ S → src.at S n = some none) : ∀ (m i : Nat) (ρ : VS.Env) (S : Store), i ≤ n → n < i + m → I i ρ S → ∃ ρ' S', forS src gt body m i ρ S = .nx ρ' S' ∧ I n ρ' S'
  | 0, i, ρ, S, h1, h2, h => by omega
  | m + 1, i, ρ, S, h1, h2, h => by
    by_cases hi : i < n
    · obtain ⟨d, e1, ρ1, S1, e2, ρ2, S2, e3, h3⟩ := hat i hi ρ S h
      obtain ⟨ρ', S', e4, h4⟩ := forS_run I n hat hend m (i + 1) ρ2 S2 hi (by omega) h3
      refine ⟨ρ', S', ?_, h4⟩
      unfold forS
      simp only [e1, e2, e3]
      exact e4
    · have hi' : i = n := by omega
      subst hi'
      refine ⟨ρ, S, ?_, h⟩
      unfold forS
      simp only [hend ρ S h]
theorem boolsOf_map (bs : List Bool) : boolsOf (bs.map .bl) = some bs := by
  induction bs with
  | nil => rfl
  | cons b bs ih => simp [boolsOf, ih]
theorem tup_at (xs : List D) (S : Store) (i : Nat) : (Src.tup xs).at S i = some xs[i]? := rfl
theorem lst_at (xs : List D) (S : Store) (i : Nat) : (Src.seq (.lst xs)).at S i = some xs[i]? := rfl
end VS
end
section
set_option Elab.async false
set_option linter.all false
set_option maxRecDepth 100000
set_option maxHeartbeats 4000000
/-! VS: defs that want the guards known (repr within); lambdas in any def; the end with several tables of code -/
namespace VS
open PySem PySem.Spec PyProof.Rows L2
open LamX (TabB Tabs TabS)

/-- a def's promise where the guards are known to be none -/
structure FnG (P : Program) (w : World) (K : PySem.W.Frag) (mg : Str → Option Value) (base : Heap) (k : Nat) (f : Addr) (fd : FuncData) (ps : List Str) (sp : Sp) : Prop where
  run : ∀ (A : Around) (outer : List PySem.Env) (s : Shared) (H : Hp) (args : Args) (us : List Value) (vs : List V) (Q : VK) (E : XK), A.guards = some [] → Room k A → Env0 P w K mg base A outer s H → BindsTo s fd args (ps.zip us) → Vals vs us → sp vs H Q E →
    codeAny (model P w) A (.call (.ref f) args) (CR (L2.CX P w) outer P w H s Q E) s
/-- a def that makes lambdas: its code object is named -/
structure FunC (K : PySem.W.Frag) (x qual : Str) (st : Stmt) (f : Addr) (fd : FuncData) (c : Addr) : Prop where
  ex : ∃ (oc : Value) (od : Option Addr) (kV doc pm : Value) (an : Option Addr) (ct : Value) (osl : Array (Option Value)),
    fd = PySem.W.fnOf x qual (defArgs st) (defBody st) (defScope st) .none kV doc pm an (.ref c) ct ∧ K.lookup f = some ⟨oc, od, .func fd, osl⟩ ∧ PySem.W.codeIn K (.ref c) qual = true
  kp : PySem.W.keepIn K (.ref f) = true
theorem FunC.fn {K : PySem.W.Frag} {x qual : Str} {st : Stmt} {f : Addr} {fd : FuncData} {c : Addr} (F : FunC K x qual st f fd c) : Fun K x qual st f fd :=
  ⟨let ⟨oc, od, kV, doc, pm, an, ct, osl, e, lk, hc⟩ := F.ex; ⟨oc, od, kV, doc, pm, an, .ref c, ct, osl, e, lk, hc⟩, F.kp⟩
theorem funC_mk {K : PySem.W.Frag} {x qual : Str} {st : Stmt} {f c : Addr} {oc kV doc pm ct : Value} {od an : Option Addr} {osl : Array (Option Value)}
    (lk : K.lookup f = some ⟨oc, od, .func (PySem.W.fnOf x qual (defArgs st) (defBody st) (defScope st) .none kV doc pm an (.ref c) ct), osl⟩) (hc : PySem.W.codeIn K (.ref c) qual = true) (kp : PySem.W.keepIn K (.ref f) = true) :
    FunC K x qual st f (PySem.W.fnOf x qual (defArgs st) (defBody st) (defScope st) .none kV doc pm an (.ref c) ct) c := ⟨⟨_, _, _, _, _, _, _, _, rfl, lk, hc⟩, kp⟩
theorem deeper_guards {A : Around} {env : PySem.Env} (h : A.guards = some []) : (A.deeper env).guards = some [] := by
  first | exact h | simpa [Around.deeper] using h
/-- a def that makes lambdas, what the world knows of its table -/
structure LamT (base : Heap) (mg : Str → Option Value) (cm : CM) (q : Str) (c Pt : Addr) : Prop where
  tab : TabB base mg c Pt
  mem : (Pt, q) ∈ cm.T
  uniq : ∀ p ∈ cm.T, p.1 = Pt → p.2 = q
section
variable {P : Program} {w : World} {K : PySem.W.Frag} {mg : Str → Option Value} {base : Heap} {cm : CM}
theorem fn_vsG {x qual : Str} {st : Stmt} {f : Addr} {fd : FuncData} {N ps : List Str} {k : Nat} {body : SS} (F : Fun K x qual st f fd) (S : FnScope N ps (defScope st))
    (hbody : ∀ (cdv : Value) (A : Around) (outer : List PySem.Env) (s : Shared) (H : Hp) (E : XK), A.guards = some [] → Room k (A.deeper (envOfC qual (defScope st) s.heap.objs.size f cdv)) →
      VSs (cxOf (L2.CX P w) P w K mg base N qual (defScope st) f cdv A outer s H E) cm (WO E) (defBody st) body) : FnG P w K mg base (k + 1) f fd ps (spV K cm ps.length (runB N.length body)) := by
  obtain ⟨oc, od, kV, doc, pm, an, cdv, ct, osl, rfl, lk, hcd⟩ := F.ex
  refine ⟨fun A outer s H args us vs Q E hg hr e0 hb r hsp => ?_⟩
  refine LamX.run_ofS (N := N) (ps := ps) lk hcd S hr e0 hb r hsp.1 fun hr' => ⟨_, hbody cdv A outer s H E hg hr', ?_⟩
  exact body_ok (X := cxOf (L2.CX P w) P w K mg base N qual (defScope st) f cdv A outer s H E) rfl rfl hsp
theorem fn_vsL {x qual : Str} {st : Stmt} {f c : Addr} {fd : FuncData} {N ps : List Str} {k : Nat} {body : SS} (F : FunC K x qual st f fd c) (S : FnScope N ps (defScope st))
    (hbody : ∀ (A : Around) (outer : List PySem.Env) (s : Shared) (H : Hp) (E : XK), A.guards = some [] → Room k (A.deeper (envOfC qual (defScope st) s.heap.objs.size f (.ref c))) →
      VSs (cxOf (L2.CX P w) P w K mg base N qual (defScope st) f (.ref c) A outer s H E) cm (WO E) (defBody st) body) : FnG P w K mg base (k + 1) f fd ps (spV K cm ps.length (runB N.length body)) := by
  obtain ⟨oc, od, kV, doc, pm, an, ct, osl, rfl, lk, hcd⟩ := F.ex
  refine ⟨fun A outer s H args us vs Q E hg hr e0 hb r hsp => ?_⟩
  refine LamX.run_ofS (N := N) (ps := ps) lk hcd S hr e0 hb r hsp.1 fun hr' => ⟨_, hbody A outer s H E hg hr', ?_⟩
  exact body_ok (X := cxOf (L2.CX P w) P w K mg base N qual (defScope st) f (.ref c) A outer s H E) rfl rfl hsp
end
structure FVG (P : Program) (w : World) (K : PySem.W.Frag) (mg : Str → Option Value) (base : Heap) (cm : CM) (k : Nat) (x : Str) (ps : List Str) (F : Fn) : Prop where
  ex : ∃ (f : Addr) (fd : FuncData), FnG P w K mg base k f fd ps (spV K cm ps.length F) ∧ mg x = some (.ref f) ∧ PySem.W.keepIn K (.ref f) = true ∧ Binds K fd ps []
section
variable {X : Cx} {cm : CM} {W : WX} {k : Nat} {x : Str} {ps : List Str} {F : Fn} {p pos : Pos} {e : Expr} {es : List Expr} {fa : SA}
theorem ve_appG (Fv : FVG X.prog X.w X.K X.mg X.base cm k x ps F) (hG : X.A.guards = some []) (hr : Room k X.A) (tk : Takes X W) (hg : Gl X x) (ha : VA X cm W (e :: es) fa) (hdb : (x == ("__debug__" : Str)) = false := by decide)
    (he : starEach (e :: es) X.env = (false, eval e X.env) :: starEach es X.env := by rfl) (hpl : (backTo pos (starEach es X.env)).any (·.1) = false := by rfl) : VE X cm W (.Call (.Name x p) (e :: es) [] pos) (sApp ps.length F fa) := by
  refine ⟨fun pins s σ H Q I ⟨g, ρ, rl, de, q⟩ => ?_⟩
  obtain ⟨f, fd, hF, hm, hk, hb⟩ := Fv.ex
  refine wpAny_Call_Name_kw (ld_glob I hg hm ?_ hdb)
  refine PySem.W.callWith_K (h₀ := X.base) I.ok.mod.kin hk (thn (ha.run pos pins s σ H _ I ⟨g, ρ, rl, de, RP.step q⟩) fun us s1 ⟨vs, H1, I1, r, ds, g1, e1, rl1, dl, q1⟩ => ⟨I1.kIn, ?_⟩) he hpl
  split at q1
  · rename_i hl
    have hl' : us.length = ps.length := by rw [← r.length, dl.length]; exact hl
    refine wpAny_call (codeAny_mono (hF.run X.A X.stack s1 H1 ⟨us, []⟩ us vs Q (WE W σ) hG hr I1.env0 ?_ r ⟨by rw [dl.length]; exact hl, g1, ds, rl1, dl, q1⟩) fun r s' hq => ?_)
    · have := hb s1 us I1.kIn (by simpa using hl')
      simpa using this
    · cases r with
      | error e => exact passAt tk σ pins H1 s1 e s' I1 hq
      | ok fl =>
        cases fl with
        | ret u => exact I1.after hq
        | next => exact False.elim hq
        | brk => exact False.elim hq
        | cont => exact False.elim hq
  · exact q1.elim
end
/-- the law's def, its own table and those of the defs that make lambdas -/
def LawRunT (P : Program) (w : World) (K : PySem.W.Frag) (mg : Str → Option Value) (n : Nat) (fa : Addr) (cs : List (Addr × Addr)) : Prop :=
  ∀ (base : Heap) (s : Shared) (H : Hp) (a : Addr) (ns : List Int), (∀ p ∈ cs, TabB base mg p.1 p.2) → Env0 P w K mg base callerA [] s H → ns.length ≤ n → (∀ z ∈ ns, Builtin.Int.intBits z ≤ 1048576) → (∀ p ∈ cs, H p.2 = some (.tbl #[])) → SqL K H a (ns.map V.int) →
    codeAny (model P w) callerA (.call (.ref fa) ⟨[.ref a], []⟩) (CR (L2.CX P w) [] P w H s (fun v _ => v = .bl true) (fun _ _ _ => False)) s
theorem law_callGT {P : Program} {w : World} {K : PySem.W.Frag} {mg mb : Str → Option Value} {n : Nat} {fa a : Addr} {cs : List (Addr × Addr)} {s₁ : Shared} {vs : List Value} {ns : List Int}
    (KX : K.In s₁.heap) (hns : s₁.heap.Ns mainGlobals mg) (hb : s₁.heap.Ns builtinsNs mb) (hbb : ∀ x : Str, x ≠ "__name__" → mb x = bootBuiltins x) (hlim : s₁.heap.NoLimit) (hg : s₁.gens = #[])
    (hT : ∀ p ∈ cs, s₁.heap.get? p.2 = some { cls := .none, data := .fields #[] }) (nT : ∀ p ∈ cs, K.lookup p.2 = none) (C : ∀ p ∈ cs, PySem.W.CodeHd s₁.heap p.1 p.2)
    (hbm : ∃ (bm : Addr) (ob : Obj), mg "__builtins__" = some (.ref bm) ∧ bm ≠ builtinsNs ∧ s₁.heap.get? bm = some ob ∧ ob.cls = .type "module" ∧ ob.dict = some builtinsNs ∧ ob.data = .plain)
    (ha : s₁.heap.get? a = some { cls := .type "list", data := .seq vs.toArray }) (hi : IntsAre vs ns) (hl : ns.length ≤ n) (hn : n ≤ sizeLine) (hbits : ∀ z ∈ ns, Builtin.Int.intBits z ≤ 1048576) (F : LawRunT P w K mg n fa cs) :
    codeAny (model P w) callerA (.call (.ref fa) ⟨[.ref a], []⟩) (fun r s' => r = .ok (.ret (.bool true)) ∧ OldK s₁.heap s'.heap ∧ s'.os = s₁.os ∧ AllBare s'.gens) s₁ := by
  have rv := vals_ints hi
  have lenV := hi.length
  have hz : ns.length ≤ sizeLine := Nat.le_trans hl hn
  have inP : ∀ {b : Addr}, (∃ p ∈ cs, b = p.2) → s₁.heap.get? b = some { cls := .none, data := .fields #[] } := fun {b} ⟨p, hp, e⟩ => by
    rw [e]
    exact hT p hp
  have aT : ¬ ∃ p ∈ cs, a = p.2 := fun z => by
    have := inP z
    rw [ha] at this
    have z' : Data.seq vs.toArray _ = Data.fields #[] := congrArg Obj.data (Option.some.inj this)
    cases z'
  have core : ∀ H : Hp, (∀ p ∈ cs, H p.2 = some (.tbl #[])) → (∀ b, H b = none ∨ (∃ p ∈ cs, b = p.2) ∨ ∃ o xs, H b = some (.frz o (.lst xs))) → SqL K H a (ns.map V.int) → HOk P w H s₁.heap → (∀ b, H b ≠ none → b = a ∨ ∃ p ∈ cs, b = p.2) → (H a ≠ none → K.lookup a = none) →
      codeAny (model P w) callerA (.call (.ref fa) ⟨[.ref a], []⟩) (fun r s' => r = .ok (.ret (.bool true)) ∧ OldK s₁.heap s'.heap ∧ s'.os = s₁.os ∧ AllBare s'.gens) s₁ := by
    intro H hH hO hS hok hA hK
    have base_of : ∀ {b : Addr} {o : Obj}, s₁.heap.get? b = some o → H b = none → (hidT s₁.heap H).get? b = some o := fun e n => hidT_get e n
    have noD : ∀ {b : Addr} {o : Obj}, s₁.heap.get? b = some o → (∀ vs n, o.data ≠ .seq vs n) → o.data ≠ .fields #[] → H b = none := fun {b o} e h1 h2 => by
      cases q : H b with
      | none => rfl
      | some u =>
        rcases hA b (by rw [q]; simp) with e' | e'
        · rw [e', ha] at e
          cases e
          exact (h1 _ _ rfl).elim
        · rw [inP e'] at e
          cases e
          exact (h2 rfl).elim
    have noA : ∀ {b : Addr} {o : Obj} {es : Array DictEntry} {ep : Nat}, s₁.heap.get? b = some o → o.data = .dict es ep → H b = none := fun {b o es ep} e d =>
      noD e (fun vs n z => by rw [d] at z; cases z) fun z => by rw [d] at z; cases z
    have nsK : ∀ {b : Addr} {m : Str → Option Value}, s₁.heap.Ns b m → (hidT s₁.heap H).Ns b m := fun {b m} ⟨o, es, ep, e, d, r⟩ => ⟨o, es, ep, base_of e (noA e d), d, r⟩
    have hKb : K.In (hidT s₁.heap H) := fun b o e => base_of (KX b o e) (by
      cases q : H b with
      | none => rfl
      | some u =>
        rcases hA b (by rw [q]; simp) with e' | ⟨p, hp, e'⟩
        · rw [e'] at e q
          rw [hK (by rw [q]; simp)] at e
          cases e
        · rw [e', nT p hp] at e
          cases e)
    have hM : L2.Mod K mg (hidT s₁.heap H) := ⟨hKb, nsK hns, ⟨mb, nsK hb, hbb⟩, let ⟨mc, h1, h2⟩ := hlim; ⟨mc, nsK h1, h2⟩⟩
    have TB : ∀ p ∈ cs, TabB (hidT s₁.heap H) mg p.1 p.2 := fun p hp => by
      refine ⟨?_, ?_, fun z => ?_⟩
      · obtain ⟨o, us, file, tf, flags, tg, inF, text, tt, e1, r1, r2, r3, rest⟩ := C p hp
        exact ⟨o, us, file, tf, flags, tg, inF, text, tt, base_of e1 (noD e1 (fun vs n z => by rw [r2] at z; cases z) fun z => by rw [r2] at z; cases z; simp at r3), r1, r2, r3, rest⟩
      · obtain ⟨bm, ob, b1, b2, b3, b4, b5, b6⟩ := hbm
        refine ⟨bm, ob, b1, b2, fun q => ?_, fun q => ?_, base_of b3 (noD b3 (fun vs n z => by rw [b6] at z; cases z) fun z => by rw [b6] at z; cases z), b4, b5, b6⟩
        · obtain ⟨o, es, ep, e, hd, _⟩ := hns
          rw [q, e] at b3
          cases b3
          rw [hd] at b6
          cases b6
        · rw [q, hT p hp] at b3
          cases b3
          cases b6
      · obtain ⟨o, es, ep, e, hd, _⟩ := hns
        rw [z, hT p hp] at e
        cases e
        cases hd
    have e0 : Env0 P w K mg (hidT s₁.heap H) callerA [] s₁ H := ⟨rfl, hM, fun b o e => of_hidT e, Nat.le_of_eq (hidT_size _ _), trivial, fun b hb => absurd (show b ∈ ([] : List Addr) from hb) (by simp), hok, .of_eq hg⟩
    refine codeAny_mono (F _ s₁ H a ns TB e0 hl hbits hH hS) fun r s' h => ?_
    cases r with
    | error e =>
      obtain ⟨_, _, _, _, _, _, _, _, _, _, _, _, z⟩ := h
      exact z.elim
    | ok fl =>
      cases fl with
      | next => exact False.elim h
      | brk => exact False.elim h
      | cont => exact False.elim h
      | ret u =>
        obtain ⟨v, H', os, bare, un, hok', r', q⟩ := h
        have q' : v = .bl true := q
        subst q'
        obtain rfl : u = Value.bool true := r'
        have key : ∀ b o, (¬ ∃ p ∈ cs, b = p.2) → s₁.heap.get? b = some o → s'.heap.get? b = some o := fun b o nb e => by
          cases q : H b with
          | none => exact un.keep b o e q (by intro z; exact absurd (show b ∈ ([] : List Addr) from z) (by simp)) (by simp)
          | some u =>
            rcases hO b with z | z | ⟨ob, xs, z⟩
            · rw [q] at z; cases z
            · exact absurd z nb
            · have z2 := un.frzs b ob _ z
              obtain ⟨e1, _⟩ := hok b _ z
              obtain ⟨e2, _⟩ := hok' b _ z2
              rw [e] at e1; cases e1
              exact e2
        have grown : ∀ p ∈ cs, ∃ more : Array Value, s'.heap.get? p.2 = some { cls := .none, data := .fields (#[] ++ more) } := fun p hp => by
          obtain ⟨more, hmore⟩ := un.tbls p.2 #[] (hH p hp)
          exact ⟨more, hok' p.2 _ hmore⟩
        refine ⟨rfl, ⟨fun b o e => ?_, fun b o e => ?_⟩, os, bare⟩
        · by_cases hb : ∃ p ∈ cs, b = p.2
          · obtain ⟨p, hp, rfl⟩ := hb
            obtain ⟨more, hm⟩ := grown p hp
            rw [hT p hp] at e
            cases e
            exact .inr (.inl ⟨((C p hp).tab (hT p hp)).isCodeTable, rfl, #[], more, rfl, hm⟩)
          · exact .inl (key b o hb e)
        · by_cases hb : ∃ p ∈ cs, b = p.2
          · obtain ⟨p, hp, rfl⟩ := hb
            obtain ⟨more, hm⟩ := grown p hp
            exact ⟨_, hm⟩
          · exact ⟨o, key b o hb e⟩
  have dec : ∀ b : Addr, Decidable (∃ p ∈ cs, b = p.2) := fun b => Classical.propDecidable _
  cases hk : K.lookup a with
  | some o =>
    have e := KX a o hk
    rw [ha] at e
    cases e
    refine core (fun b => if ∃ p ∈ cs, b = p.2 then some (.tbl #[]) else none) (fun p hp => if_pos ⟨p, hp, rfl⟩) (fun b => ?_) (.inr ⟨_, vs.toArray, _, hk, rfl, rfl, rfl, by rw [List.size_toArray, lenV]; exact hz, by simpa using rv⟩) (fun b u z => ?_) (fun b z => ?_) fun z => absurd (show (if ∃ p ∈ cs, a = p.2 then some (HO.tbl #[]) else none) = none from if_neg aT) z
    · by_cases hb : ∃ p ∈ cs, b = p.2
      · exact .inr (.inl hb)
      · exact .inl (if_neg hb)
    · by_cases hb : ∃ p ∈ cs, b = p.2
      · have z' := (if_pos hb).symm.trans z
        cases z'
        exact inP hb
      · have z' := (if_neg hb).symm.trans z
        cases z'
    · by_cases hb : ∃ p ∈ cs, b = p.2
      · exact .inr hb
      · exact absurd (if_neg hb) z
  | none =>
    refine core (fun b => if b = a then some (.frz { cls := .type "list", data := .seq vs.toArray } (.lst (ns.map V.int))) else if ∃ p ∈ cs, b = p.2 then some (.tbl #[]) else none) (fun p hp => (if_neg (fun z => aT ⟨p, hp, z.symm⟩)).trans (if_pos ⟨p, hp, rfl⟩)) (fun b => ?_) (.inl (.inr ⟨{ cls := .type "list", data := .seq vs.toArray }, if_pos rfl⟩)) (fun b u z => ?_) (fun b z => ?_) fun _ => hk
    · by_cases hb : b = a
      · exact .inr (.inr ⟨_, _, if_pos hb⟩)
      · by_cases hb2 : ∃ p ∈ cs, b = p.2
        · exact .inr (.inl hb2)
        · exact .inl ((if_neg hb).trans (if_neg hb2))
    · by_cases hb : b = a
      · have z' := (if_pos hb).symm.trans z
        cases z'
        rw [hb]
        exact ⟨ha, by rw [List.length_map]; exact hz, vs, _, rv, ha⟩
      · have z1 := (if_neg hb).symm.trans z
        by_cases hb2 : ∃ p ∈ cs, b = p.2
        · have z' := (if_pos hb2).symm.trans z1
          cases z'
          exact inP hb2
        · have z' := (if_neg hb2).symm.trans z1
          cases z'
    · by_cases hb : b = a
      · exact .inl hb
      · by_cases hb2 : ∃ p ∈ cs, b = p.2
        · exact .inr hb2
        · exact absurd ((if_neg hb).trans (if_neg hb2)) z
/-- what K tells of the code object of the def x -/
structure DefCode (K : PySem.W.Frag) (fa c Pt : Addr) : Prop where
  ex : ∃ (o : Obj) (fd : FuncData) (e : Value) (dd : Option Addr) (vs : Array Value) (sl : Array (Option Value)), K.lookup fa = some o ∧ o.data = .func fd ∧ fd.code = .ref c ∧ K.lookup c = some ⟨e, dd, .fields vs, sl⟩ ∧ vs[11]? = some (.ref Pt)
  no : K.lookup Pt = none
theorem walk_GT {l : PySem.W.OpenLaw} {n : Nat} {q : Program} {loose : List Str} {XP : (Str → Option Value) → Heap → Prop} {YP : World → Heap → Prop} {d : DefRec} {K : Params → PySem.W.Frag}
    (hn : l.most = some n) (hn2 : n ≤ sizeLine) (hdf : d.params.defaults = []) (names : List Str) (hrec : (names.all fun x => (recsOf q).any fun e => e.name == x) = true) (hY : ∀ (w : World) (h : Heap), YP w h → (K w.params).In h)
    (F : ∀ (w : World) (mg : Str → Option Value) (fa : Addr) (h : Heap), YP w h → (K w.params).In h → h.Ns mainGlobals mg → mg d.name = some (.ref fa) → ∃ cs : List (Addr × Addr), (∀ p ∈ cs, ∃ x ∈ names, ∃ f, mg x = some (.ref f) ∧ DefCode (K w.params) f p.1 p.2) ∧ LawRunT l.prog w (K w.params) mg n fa cs) :
    PySem.W.WalkO q loose XP YP l.row.toRowW d [] (fun f vs => PySem.call f vs) := by
  refine Att.attach_callB hn hdf fun w s₀ s₁ mg mb fa o pm cd doc a vs ns G Y ho hd hcd hmg hobj hints hlen hbits hg => ?_
  have KX := hY w _ Y
  obtain ⟨cs, hcs, hR⟩ := F w mg fa _ Y KX G.T.g hmg
  have all : ∀ p ∈ cs, s₁.heap.get? p.2 = some { cls := .none, data := .fields #[] } ∧ (K w.params).lookup p.2 = none ∧ PySem.W.CodeHd s₁.heap p.1 p.2 := fun p hp => by
    obtain ⟨x, hx, f, hf, LC⟩ := hcs p hp
    obtain ⟨o1, fd1, e1, dd, vs1, sl, k1, k2, k3, k4, k5⟩ := LC.ex
    obtain ⟨dL, hm, hn1⟩ := List.any_eq_true.mp (List.all_eq_true.mp hrec x hx)
    have hn2' : dL.name = x := beq_iff_eq.mp hn1
    obtain ⟨a', o', fd', c', P', h1, h2, h3, h4, h5, h6⟩ := G.T.tab dL hm
    rw [hn2', hf] at h1
    cases h1
    have g1 := KX _ _ k1
    rw [g1] at h2
    cases h2
    rw [k2] at h3
    cases h3
    rw [k3] at h4
    cases h4
    have C' := PySem.W.CodeHd.of h5 h6
    obtain ⟨⟨oc, vc, y1, _, y3, y4⟩, hP⟩ := id h6
    have g2 := KX _ _ k4
    rw [g2] at y1
    cases y1
    cases y3
    rw [k5] at y4
    cases y4
    exact ⟨hP, LC.no, C'⟩
  exact law_callGT KX G.T.g G.T.b G.T.builtins G.T.nolimit hg (fun p hp => (all p hp).1) (fun p hp => (all p hp).2.1) (fun p hp => (all p hp).2.2) G.T.bmain hobj hints hlen hn2 hbits hR
/-- the law's def, run, with the tables of cs -/
theorem law_runT {P : Program} {w : World} {K : PySem.W.Frag} {mg : Str → Option Value} {cm : CM} {n k : Nat} {fa c : Addr} {cs : List (Addr × Addr)} {name qual : Str} {st : Stmt} {kV doc pm ct oc : Value} {an od : Option Addr} {osl : Array (Option Value)} {N : List Str} {x : Str} {body : SS}
    (lk : K.lookup fa = some ⟨oc, od, .func (PySem.W.fnOf name qual (defArgs st) (defBody st) (defScope st) .none kV doc pm an (.ref c) ct), osl⟩) (hcd : PySem.W.codeIn K (.ref c) qual = true) (S : FnScope N [x] (defScope st))
    (hbind : ∀ (s : Shared) (u : Value), BindsTo s (PySem.W.fnOf name qual (defArgs st) (defBody st) (defScope st) .none kV doc pm an (.ref c) ct) ⟨[u], []⟩ [(x, u)]) (hr : Room (k + 1) callerA) (hT : ∀ p ∈ cm.T, ∃ q ∈ cs, q.2 = p.1)
    (hbody : ∀ (base : Heap) (s : Shared) (H : Hp), Mod K mg base → (∀ p ∈ cs, TabB base mg p.1 p.2) → Room k (callerA.deeper (envOfC qual (defScope st) s.heap.objs.size fa (.ref c))) →
      VSs (cxOf (L2.CX P w) P w K mg base N qual (defScope st) fa (.ref c) callerA [] s H (fun _ _ _ => False)) cm (WO fun _ _ _ => False) (defBody st) body)
    (hlaw : ∀ ns : List Int, ns.length ≤ n → (∀ z ∈ ns, Builtin.Int.intBits z ≤ 1048576) → ∃ S', runB N.length body [.scr (ns.map D.int)] [] = .ok (.bl true) S') : LawRunT P w K mg n fa cs := by
  intro base s H a ns TB e0 hl hbits hH hS
  refine LamX.run_ofS (N := N) (ps := [x]) (us := [.ref a]) (vs := [.ref a]) lk hcd S hr e0 (hbind s (.ref a)) (.cons rfl .nil) rfl fun hr' => ⟨_, hbody base s H e0.mod TB hr', ?_⟩
  have key : ∀ (F : Hp), (∀ b o, F b = some o → H b = some o) → (∀ b ps, F b ≠ some (.tbl ps)) → SqL K F a (ns.map V.int) → tS K cm (WO fun _ _ _ => False) body { nx := fun _ H' => (V.non : V) = .bl true, rt := fun v H' => v = .bl true } (L2.start N [.ref a]) H := by
    intro F h1 h2 h3
    have hc : ∀ p ∈ cm.T, TabS H p.1 p.2 := fun p hp => by
      obtain ⟨q, hq, e⟩ := hT p hp
      rw [← e]
      exact LamX.TabS.nil (hH q hq)
    have rl : Rel K cm ⟨F, [], []⟩ H := ⟨rfl, h1, fun k a c e => by simp at e, fun j k a c d e => by simp at e, hc, h2⟩
    obtain ⟨S', hr⟩ := hlaw ns hl hbits
    refine body_ok (X := cxOf (L2.CX P w) P w K mg base N qual (defScope st) fa (.ref c) callerA [] s H (fun _ _ _ => False)) (n := 1) (Q := fun v _ => v = .bl true) rfl rfl ⟨rfl, ⟨F, [], []⟩, [.scr (ns.map D.int)], rl, .cons (.scr h3 (denL_ints ns)) .nil, ?_⟩
    show RP K cm (Den K cm) _ _ _ (runB N.length body [.scr (ns.map D.int)] []) _
    rw [hr]
    intro g' H' v e rl' es dn
    cases dn
    rfl
  have one : ∀ {u : HO}, H a = some u → (∀ ps, u ≠ .tbl ps) → SqL K (fun b => if b = a then H a else none) a (ns.map V.int) → tS K cm (WO fun _ _ _ => False) body { nx := fun _ H' => (V.non : V) = .bl true, rt := fun v H' => v = .bl true } (L2.start N [.ref a]) H := fun {u} hu hn h3 => by
    refine key (fun b => if b = a then H a else none) (fun b o e => ?_) (fun b ps e => ?_) h3
    · by_cases hb : b = a
      · rw [if_pos hb] at e
        rw [hb]
        exact e
      · rw [if_neg hb] at e
        cases e
    · by_cases hb : b = a
      · rw [if_pos hb, hu] at e
        exact hn ps (Option.some.inj e)
      · rw [if_neg hb] at e
        cases e
  rcases hS with (hS | ⟨o, hS⟩) | hS
  · exact one hS (fun ps z => by cases z) (.inl (.inl ((if_pos rfl).trans hS)))
  · exact one hS (fun ps z => by cases z) (.inl (.inr ⟨o, (if_pos rfl).trans hS⟩))
  · exact key (fun _ => none) (fun b o e => by cases e) (fun b ps e => by cases e) (.inr hS)
end VS
end
section
set_option Elab.async false
set_option linter.all false
set_option maxRecDepth 100000
set_option maxHeartbeats 4000000
/-! VS: *xs in displays; x in a row of flat data; sum of whole numbers; rows of the module -/
namespace VS
open PySem PySem.Spec PyProof.Rows L2
section
variable {X : Cx} {cm : CM} {W : WX} {e : Expr} {es : List Expr} {p pos : Pos}
/-- *f, .. -/
def aStar (f : SE) (fs : SA) : SA := fun ρ S => (f ρ S).bind fun d S1 => match lookT d with
  | some xs => (fs ρ S1).bind fun ds S2 => .ok (xs ++ ds) S2
  | none => match lookL S1 d with
    | some xs => (fs ρ S1).bind fun ds S2 => .ok (xs ++ ds) S2
    | none => .bad
theorem va_star {f : SE} {fs : SA} (h : VE X cm W e f) (t : VA X cm W es fs) (hs : starEach (.Starred e p :: es) X.env = (true, eval e X.env) :: starEach es X.env := by rfl) : VA X cm W (.Starred e p :: es) (aStar f fs) := by
  refine PA.imp (StX.pa_star h t hs) fun σ H Q ⟨g, ρ, rl, de, q⟩ => ?_
  refine ⟨g, ρ, rl, de, RP.mono (RP.step q) fun v H1 ⟨d, g1, e1, rl1, dn, q1⟩ => ?_⟩
  split at q1
  · rename_i xs hx
    obtain ⟨a, vs, rfl, h1, h2⟩ := dn.lookT rl1 hx
    refine ⟨a, vs, rfl, .inl h1, g1, ρ, rl1, e1.denE de, RP.mono (RP.step q1) fun ws H2 ⟨ds, g2, e2, rl2, dl, q2⟩ => ?_⟩
    exact RP.ret q2 rl2 ((e2.denL h2).append dl)
  · split at q1
    · rename_i xs hx
      obtain ⟨a, vs, rfl, h1, h2⟩ := dn.lookL rl1 hx
      refine ⟨a, vs, rfl, .inr h1, g1, ρ, rl1, e1.denE de, RP.mono (RP.step q1) fun ws H2 ⟨ds, g2, e2, rl2, dl, q2⟩ => ?_⟩
      exact RP.ret q2 rl2 ((e2.denL h2).append dl)
    · exact q1.elim
/-- a row's items, a list's or a tuple's -/
def lookS (S : Store) (d : D) : Option (List D) := match lookT d with
  | some xs => some xs
  | none => lookL S d
def inSq (neg : Bool) (a b : D) (S : Store) : R D := match lookS S b with
  | some xs => if flatD a = true ∧ xs.all flatD = true then .ok (.bl (if neg then !(xs.any fun y => eqFl y a) else xs.any fun y => eqFl y a)) S else .bad
  | none => .bad
theorem Den.lookS {K : PySem.W.Frag} {g : G} {H : Hp} {v : V} {d : D} {ds : List D} (rl : Rel K cm g H) (h : Den K cm g v d) (e : lookS g.S d = some ds) : ∃ a vs, v = .ref a ∧ (SqL K H a vs ∨ SqT K H a vs) ∧ DenL K cm g vs ds := by
  unfold VS.lookS at e
  split at e
  · rename_i xs hx
    cases e
    obtain ⟨a, vs, h0, h1, h2⟩ := h.lookT rl hx
    exact ⟨a, vs, h0, .inr h1, h2⟩
  · obtain ⟨a, vs, h0, h1, h2⟩ := h.lookL rl e
    exact ⟨a, vs, h0, .inl h1, h2⟩
theorem inV_D {xs : List D} {a : D} (fa : flatD a = true) : ∀ {xs : List D}, xs.all flatD = true → inV (toV a) (xs.map toV) = xs.any fun y => eqFl y a
  | [], _ => rfl
  | y :: ys, f => by
    rw [List.all_cons, Bool.and_eq_true] at f
    show (eqV (toV y) (toV a) || inV (toV a) (ys.map toV)) = _
    rw [eqFl_V f.1 fa, inV_D (xs := xs) fa f.2]
    rfl
theorem inSq_ok (neg : Bool) : OpD X cm (rIn X.K neg) (inSq neg) := by
  intro W g H x y a b Q rl da db q
  unfold inSq at q
  split at q
  · rename_i xs hx
    split at q
    · rename_i hf
      obtain ⟨p, vs, rfl, h1, h2⟩ := db.lookS rl hx
      have e1 := da.flat hf.1
      have e2 := h2.flatV hf.2
      subst e1 e2
      refine ⟨p, _, rfl, h1, flat_toV hf.1, all_flatV hf.2, ?_⟩
      rw [inV_D (xs := xs) hf.1 hf.2]
      exact RP.ret q rl (.bl _)
    · exact q.elim
  · exact q.elim
def inD : D → D → Store → R D := inSq false
def ninD : D → D → Store → R D := inSq true
theorem inD_ok : OpD X cm (rIn X.K false) inD := inSq_ok false
theorem ninD_ok : OpD X cm (rIn X.K true) ninD := inSq_ok true
theorem inSq_bl {neg : Bool} : BlD (inSq neg) := fun a b S d S' h => by
  unfold inSq at h
  split at h
  · split at h
    · cases h
      exact ⟨_, rfl⟩
    · cases h
  · cases h
theorem inD_bl : BlD inD := inSq_bl
theorem ninD_bl : BlD ninD := inSq_bl
/-- sum of whole numbers -/
def sumD (ds : List D) (S : Store) : R D := match ds with
  | [d] => match (lookL S d).bind intsOf with
    | some ns => .ok (.int ns.sum) S
    | none => .bad
  | _ => .bad
theorem sumD_ok : CallD X cm (rSum X.K) sumD := by
  intro W g H xs ds Q rl dl q
  unfold sumD at q
  split at q
  · rename_i d
    obtain ⟨x, rfl, dx⟩ := one_of (α := Unit) dl
    cases hl : lookL g.S d with
    | none =>
      simp only [hl, Option.bind_none] at q
      exact q.elim
    | some ys =>
      simp only [hl, Option.bind_some] at q
      split at q
      · rename_i ns hn
        obtain ⟨a, vs, rfl, h1, h2⟩ := dx.lookL rl hl
        have e2 := intsOf_V h2 hn
        subst e2
        exact ⟨a, ns, rfl, h1, RP.ret q rl (.int _)⟩
      · exact q.elim
  · exact q.elim
/-- a tuple of flat data that stands in the module -/
def TupC (K : PySem.W.Frag) (a : Addr) (ds : List D) : Prop := ∃ vs, (∀ (F : Hp), SqT K F a vs) ∧ ∀ (cm : CM) (g : G), DenL K cm g vs ds
theorem ve_gtup {x : Str} {ds : List D} (hg : Gl X x) (hm : ∃ a, X.mg x = some (.ref a) ∧ TupC X.K a ds) (hd : (x == ("__debug__" : Str)) = false := by decide) : VE X cm W (.Name x pos) (sC (.tup ds)) := by
  obtain ⟨a, h1, vs, h2, h3⟩ := hm
  exact ve_c (pe_glob (v := .ref a) hg h1 rfl hd) fun g => .tup (h2 g.F) (h3 cm g)
theorem tupC_strs {K : PySem.W.Frag} {a : Addr} {o : Value} {dd : Option Addr} {sl : Array (Option Value)} {its : Array Value} {n : Nat} (xs : List Str) (lk : K.lookup a = some ⟨.type "tuple", dd, .seq its n, sl⟩) (hz : its.size ≤ sizeLine) (hv : Vals (xs.map V.str) its.toList) : TupC K a (xs.map D.str) :=
  ⟨xs.map V.str, fun F => .inr ⟨_, its, n, lk, rfl, rfl, hz, hv⟩, fun cm g => by
    clear hv hz lk
    induction xs with
    | nil => exact .nil
    | cons x xs ih => exact .cons (.str x) ih⟩
theorem ve_gstrE {j : Str} {x : Str} (hg : Gl X x) (hm : ∃ t, X.mg x = some (.str j t)) (hd : (x == ("__debug__" : Str)) = false := by decide) : VE X cm W (.Name x pos) (sC (.str j)) := by
  obtain ⟨t, h⟩ := hm
  exact ve_gstr hg h hd
end
/-! ### a holder of a lambda: what it does does not hang on what it is handed -/
open Classical in
noncomputable def bodyH (n : Nat) (s : SE → SS) (ak : SE) : SS := fun ρ S => if ∃ r, ∀ d0, runB n (s fun _ T => ak ρ T) [d0] S = r then s ak ρ S else .bad
open Classical in
noncomputable def heardH (n : Nat) (s : SE → SS) (th : Store → R D) (S : Store) : R D := if h : ∃ r, ∀ d0, runB n (s fun _ T => th T) [d0] S = r then h.choose else .bad
theorem heardH_eq {n : Nat} {s : SE → SS} {th : Store → R D} {S : Store} {r : R D} (h : ∀ d0, runB n (s fun _ T => th T) [d0] S = r) : heardH n s th S = r := by
  have hx : ∃ r, ∀ d0, runB n (s fun _ T => th T) [d0] S = r := ⟨r, h⟩
  unfold heardH
  rw [dif_pos hx]
  exact (hx.choose_spec .non).symm.trans (h .non)
theorem bodyH_ok {X : Cx} {cm : CM} {W : WX} {b : List Stmt} {n : Nat} {s : SE → SS} {ak : SE} (h : VSs X cm W b (s ak)) : VSs X cm W b (bodyH n s ak) :=
  PSs.imp h fun T σ H ⟨g, ρ, rl, de, q⟩ => ⟨g, ρ, rl, de, by
    unfold bodyH at q
    split at q
    · exact q
    · exact q.elim⟩
theorem bodyH_eq {n : Nat} {s : SE → SS} (hA : ∀ (f c : Addr) (q : Str) (σ : List (Option V)) (fe : SE) (ρ : VS.Env) (S : Store), runB n (s (sAsk f c q σ fe)) [.clo f c q σ ρ] S = runB n (s fun _ T => fe ρ T) [.clo f c q σ ρ] S)
    {fe : SE} (f c : Addr) (q : Str) (σ : List (Option V)) (ρ : VS.Env) (S : Store) : runB n (bodyH n s (sAsk f c q σ fe)) [.clo f c q σ ρ] S = heardH n s (fe ρ) S := by
  have e0 : ∀ (m : Nat) (T : Store), sAsk f c q σ fe ([D.clo f c q σ ρ].map some ++ List.replicate m none) T = fe ρ T := fun m T => sAsk_eq rfl
  rw [runB_e]
  unfold bodyH heardH
  by_cases hx : ∃ r, ∀ d0, runB n (s fun _ T => fe ρ T) [d0] S = r
  · have hx' : ∃ r, ∀ d0, runB n (s fun _ T => sAsk f c q σ fe ([D.clo f c q σ ρ].map some ++ List.replicate (n - [D.clo f c q σ ρ].length) none) T) [d0] S = r := by
      simp only [e0]
      exact hx
    rw [if_pos hx', dif_pos hx, ← runB_e, hA]
    exact hx.choose_spec _
  · have hx' : ¬ ∃ r, ∀ d0, runB n (s fun _ T => sAsk f c q σ fe ([D.clo f c q σ ρ].map some ++ List.replicate (n - [D.clo f c q σ ρ].length) none) T) [d0] S = r := by
      simp only [e0]
      exact hx
    rw [if_neg hx', dif_neg hx]
    rfl
theorem try_c {sub : Nat → Nat → Bool} {c i : Nat} {fb fb' fs : SS} {ρ : VS.Env} {S : Store} (h : fb ρ S = fb' ρ S) : sTry sub c i fb fs ρ S = sTry sub c i fb' fs ρ S := by
  unfold sTry
  rw [h]
theorem pre_try {n : Nat} {A rest : SS} {tr : SE → SS} {a1 a2 : SE} {ρ0 ρ1 : VS.Env} {S0 S1 : Store} (h : A ρ0 S0 = .nx ρ1 S1) (h2 : tr a1 ρ1 S1 = tr a2 ρ1 S1) : fin n (sSeq A (sSeq (tr a1) rest) ρ0 S0) = fin n (sSeq A (sSeq (tr a2) rest) ρ0 S0) := by
  rw [seqS_e, seqS_e, h, seq_nx, seq_nx, seqS_e, seqS_e, h2]
@[simp] theorem par3_e {ρ : VS.Env} {S : Store} (i j l : Nat) (fa : SA) : sPar3 i j l fa ρ S = RS.of ρ (fa ρ S) fun ds S1 => match ds with | [d, d', d''] => .nx (((ρ.set i (some d)).set j (some d')).set l (some d'')) S1 | _ => .bad := rfl
section
variable {X : Cx} {cm : CM} {W : WX} {pos : Pos}
theorem vs_par3 {i j l : Nat} {x y z : Str} {a b c : Expr} {fa : SA} {px py pz pt : Pos} {kt k2 pt2} (hc : X.calm = true) (hN : X.N.Nodup) (hi : X.N[i]? = some x) (hj : X.N[j]? = some y) (hl : X.N[l]? = some z) (hij : i ≠ j) (hil : i ≠ l) (hjl : j ≠ l)
    (hx : X.env.scope.names.lookup x = some .local) (hy : X.env.scope.names.lookup y = some .local) (hz : X.env.scope.names.lookup z = some .local) (ha : VA X cm W [a, b, c] fa)
    (hw : swappedStores [.Tuple [.Name x px, .Name y py, .Name z pz] kt pt] (.Tuple [a, b, c] k2 pt2) X.env = pure (some [x, y, z]) := by rfl)
    (hs : swapsWithSole [.Tuple [.Name x px, .Name y py, .Name z pz] kt pt] (.Tuple [a, b, c] k2 pt2) pos.line X.env = pure false := by rfl) :
    VS1 X cm W (.Assign [.Tuple [.Name x px, .Name y py, .Name z pz] kt pt] (.Tuple [a, b, c] k2 pt2) pos) (sPar3 i j l fa) := by
  refine PS.imp (ps_par3 hc hN hi hj hl hij hil hjl hx hy hz ha hw hs) fun T σ H ⟨g, ρ, rl, de, q⟩ => ⟨g, ρ, rl, de, RP.mono (SPd.of de q) fun vs H1 ⟨ds, g1, e1, rl1, dn, de1, q1⟩ => ?_⟩
  split at q1
  · rename_i d d' d''
    cases dn with
    | cons h1 t =>
      cases t with
      | cons h2 t =>
        cases t with
        | cons h3 t =>
          cases t
          exact ⟨_, _, _, rfl, q1 g1 H1 _ (Ext.refl _ _) rl1 rfl (((de1.set i h1).set j h2).set l h3)⟩
  · exact q1.elim
end
end VS
end
section
set_option Elab.async false
set_option linter.all false
set_option maxRecDepth 100000
set_option maxHeartbeats 4000000
/-! VS: for plain laws: rows of whole numbers, the pen -/
namespace VS
open PySem PySem.Spec PyProof.Rows L2
/-- a row's whole numbers -/
def row (v : List Int) : List D := v.map .int
@[simp] theorem row_nil : row [] = [] := rfl
@[simp] theorem row_cons (i : Int) (v : List Int) : row (i :: v) = .int i :: row v := rfl
theorem row_append (v w : List Int) : row (v ++ w) = row v ++ row w := by simp [row]
theorem row_len (v : List Int) : (row v).length = v.length := by simp [row]
theorem row_mem {v : List Int} {d : D} (h : d ∈ row v) : ∃ i, i ∈ v ∧ d = .int i := by
  simp only [row, List.mem_map] at h
  obtain ⟨i, h1, h2⟩ := h
  exact ⟨i, h1, h2.symm⟩
theorem small_size {n : Nat} (h : n ≤ 1000) : n < sizeLine := Nat.lt_of_le_of_lt h (by decide)
theorem big_size {n : Nat} (h : n ≤ 200000) : n < sizeLine := Nat.lt_of_le_of_lt h (by decide)
theorem getD_at (v : List Int) (i : Nat) (h : i < v.length) : v.getD i 0 = v[i] := by
  simp [List.getD, h]
theorem ixI (v : List D) (i : Int) (h0 : 0 ≤ i) (h : i < v.length) : L2.atI v i = v[i.toNat]? := by
  unfold L2.atI L2.ixN
  rw [if_pos h0, if_pos h]
  rfl
/-- an item by a number from the left -/
theorem ixL_e (v : List D) (i : Nat) (h : i < v.length) (S : Store) : ixL v (i : Int) S = .ok v[i] S := by
  have e : L2.atI v (i : Int) = some v[i] := by
    rw [ixI _ _ (by omega) (by omega)]
    simp [h]
  unfold ixL
  rw [show L2.atI v (i : Int) = some v[i] from e]
/-- an item by a number from the right -/
theorem ixL_n (v : List D) (i : Nat) (h1 : 0 < i) (h : i ≤ v.length) (S : Store) : ixL v (-(i : Int)) S = .ok (v[v.length - i]'(by omega)) S := by
  have e : L2.atI v (-(i : Int)) = some (v[v.length - i]'(by omega)) := by
    unfold L2.atI L2.ixN
    rw [if_neg (by omega), if_pos (by omega)]
    have : (-(i : Int) + (v.length : Int)).toNat = v.length - i := by omega
    rw [this]
    exact List.getElem?_eq_getElem (by omega)
  unfold ixL
  rw [e]
@[simp] theorem ix_lst (v : List D) (i : Int) (S : Store) : ixGet (.lst v) (.int i) S = ixL v i S := rfl
@[simp] theorem ix_tup (v : List D) (i : Int) (S : Store) : ixGet (.tup v) (.int i) S = ixL v i S := rfl
@[simp] theorem ixL_0 (d : D) (v : List D) (S : Store) : ixL (d :: v) 0 S = .ok d S := by
  have := ixL_e (d :: v) 0 (by simp) S
  simpa using this
@[simp] theorem ixL_1 (d e : D) (v : List D) (S : Store) : ixL (d :: e :: v) 1 S = .ok e S := by
  have := ixL_e (d :: e :: v) 1 (by simp) S
  simpa using this
@[simp] theorem ixL_2 (d e f : D) (v : List D) (S : Store) : ixL (d :: e :: f :: v) 2 S = .ok f S := by
  have := ixL_e (d :: e :: f :: v) 2 (by simp) S
  simpa using this
theorem ixLI (sc : List Int) (i : Int) (h0 : 0 ≤ i) (h : i < sc.length) (S : Store) : ixL (row sc) i S = .ok (.int (sc.getD i.toNat 0)) S := by
  have e : L2.atI (row sc) i = some (D.int (sc.getD i.toNat 0)) := by
    rw [ixI _ _ h0 (by rw [row_len]; exact h), getD_at _ _ (by omega)]
    have : i.toNat < sc.length := by omega
    simp [row, this]
  unfold ixL
  rw [e]
/-! ### numbers -/
theorem mod_e {i j : Int} (h : 0 < j) (S : Store) : modD (.int i) (.int j) S = .ok (.int (i % j)) S := if_pos h
theorem fdiv_w {i j : Int} (h : 0 < j) (h2 : j.natAbs.log2 < 8000) (S : Store) : fdivD (.int i) (.int j) S = .ok (.int (i / j)) S := if_pos ⟨h, by omega⟩
theorem fdiv_e {i j : Int} (h : 0 < j) (h2 : j ≤ 7000) (S : Store) : fdivD (.int i) (.int j) S = .ok (.int (i / j)) S := fdiv_w h (by
  have : j.natAbs.log2 ≤ j.natAbs := Nat.log2_le_self _
  omega) S
theorem mul_l {i j : Int} (h : -(2 ^ 64) < i ∧ i < 2 ^ 64) (S : Store) : mulD (.int i) (.int j) S = .ok (.int (i * j)) S := if_pos (.inl (.inl h))
theorem mul_r {i j : Int} (h : -(2 ^ 64) < j ∧ j < 2 ^ 64) (S : Store) : mulD (.int i) (.int j) S = .ok (.int (i * j)) S := if_pos (.inl (.inr h))
theorem pow_e {i : Int} {j : Nat} (h : i.natAbs < 2 ^ 64) (hj : j ≤ 1000) (S : Store) : powD (.int i) (.int j) S = .ok (.int (i ^ j)) S := by
  have : CPow i (j : Int) := ⟨by omega, by omega, h⟩
  show (if CPow i (j : Int) then R.ok (D.int (i ^ (j : Int).toNat)) S else .bad) = _
  rw [if_pos this]
  rfl
theorem pow_lit (i : Int) (j : Nat) (k : Int) (hk : k = (j : Int)) (h : i.natAbs < 2 ^ 64) (hj : j ≤ 1000) (S : Store) : powD (.int i) (.int k) S = .ok (.int (i ^ j)) S := by
  subst hk
  exact pow_e h hj S
theorem abs_e (i : Int) (S : Store) : absD [.int i] S = .ok (.int (if i < 0 then -i else i)) S := rfl
/-! ### equal rows -/
theorem toPs_row (sc : List Int) : toPs (row sc) = some (sc.map .int) := by
  induction sc with
  | nil => rfl
  | cons c sc ih =>
    show (match toP (.int c), toPs (row sc) with | some p, some ps => some (p :: ps) | _, _ => none) = _
    rw [ih]
    rfl
theorem lay_ints (sc : List Int) : PyData.canLayAll0 (sc.map .int) = true := by
  induction sc with
  | nil => rfl
  | cons c sc ih => simp [PyData.canLayAll0, PyData.canLay0, ih]
theorem dep_ints (sc : List Int) : PyData.depthAll (sc.map .int) ≤ 1 := by
  induction sc with
  | nil => simp [PyData.depthAll]
  | cons c sc ih => simp [PyData.depthAll, PyData.depth, ih]
theorem shaped_ints (sc : List Int) : SeqAt.shaped (.list (sc.map .int)) = true := by
  have := dep_ints sc
  simp [SeqAt.shaped, PyData.canLay0, lay_ints, PyData.depth]
  omega
theorem ne_row (sc : List Int) (S : Store) : neD (.lst (row sc)) (.lst []) S = .ok (.bl (!sc.isEmpty)) S := by
  have e : eqPy S (.lst (row sc)) (.lst []) = some sc.isEmpty := by
    have t1 : toPy S (.lst (row sc)) = some (.list (sc.map .int)) := by
      show (toPs (row sc)).map PyData.list = _
      rw [toPs_row]
      rfl
    have t2 : toPy S (.lst []) = some (.list []) := rfl
    unfold eqPy
    rw [t1, t2]
    have h2 : SeqAt.shaped (.list []) = true := by simp [SeqAt.shaped, PyData.canLay0, PyData.canLayAll0, PyData.depth, PyData.depthAll]
    simp only [shaped_ints, h2, and_self, if_true]
    cases sc <;> simp [PyData.eqv, PyData.eqvAll]
  unfold neD
  rw [e]
/-! ### the pen -/
def Pn (sc : List Int) (at' c : Int) : Cell := .lst [.lst (row sc), .int at', .int c]
section
variable {sc : List Int} {at' c : Int} {T : Store} {v : D}
@[simp] theorem cut_cons (a : Cell) (d : D) : cut (List.length T + 1) d (a :: T) = .ok d (a :: T) := cut_self (S := a :: T) d
@[simp] theorem cutX_cons (a : Cell) (x : Ex) : cutX (List.length T + 1) x (a :: T) = .exc x (a :: T) := cutX_self (S := a :: T)
theorem pn0 : ixGet (.cel 0) (.int 0) (Pn sc at' c :: T) = .ok (.lst (row sc)) (Pn sc at' c :: T) := rfl
theorem pn1 : ixGet (.cel 0) (.int 1) (Pn sc at' c :: T) = .ok (.int at') (Pn sc at' c :: T) := rfl
theorem pn2 : ixGet (.cel 0) (.int 2) (Pn sc at' c :: T) = .ok (.int c) (Pn sc at' c :: T) := rfl
theorem pst1 {i : Int} : setD (.cel 0) (.int 1) (.int i) (Pn sc at' c :: T) = .ok () (Pn sc i c :: T) := rfl
theorem pst2 {i : Int} : setD (.cel 0) (.int 2) (.int i) (Pn sc at' c :: T) = .ok () (Pn sc at' i :: T) := rfl
theorem setI_e (f : SE) (k : Nat) (i : Int) (ρ : VS.Env) (S : Store) : sAsg f (gSubD (sVar k) (sC (.int i))) ρ S = RS.of ρ (f ρ S) fun d S1 => match (sVar k ρ S1).bind fun o S2 => (setD o (.int i) d S2).bind fun _ S3 => R.ok ρ S3 with | .ok ρ2 S2 => .nx ρ2 S2 | _ => .bad := rfl
/-- the numbers of a law's draw -/
structure DrawC where
  a : Int
  b : Int
  m1 : Int
  c : Int
  d : Int
  x : Nat
  m2 : Int
  e : Int
  f : Int
  g : Int
  y : Nat
  m3 : Int
  dv : Int
structure DrawC.Ok (C : DrawC) : Prop where
  a : 0 ≤ C.a ∧ C.a ≤ 1000000
  b : 0 ≤ C.b ∧ C.b ≤ 1000000
  m1 : 0 < C.m1 ∧ C.m1 < 2147483648
  c : 0 ≤ C.c ∧ C.c ≤ 1000000
  d : 0 ≤ C.d ∧ C.d ≤ 1000000
  x : C.x ≤ 10
  m2 : 0 < C.m2 ∧ C.m2 < 2147483648
  e : 0 ≤ C.e ∧ C.e ≤ 1000000
  f : 0 ≤ C.f ∧ C.f ≤ 1000000
  g : 0 ≤ C.g ∧ C.g ≤ 1000000
  y : C.y ≤ 10
  m3 : 0 < C.m3 ∧ C.m3 < 2147483648
  dv : 0 < C.dv ∧ C.dv ≤ 1000
/-- a draw's body: names pen, many, digit, at, cell, great, mixed -/
abbrev drawMid (C : DrawC) : SS := (sIte (tTru (sBin neD (sBin ixGet (sVar 0) (sC (.int 0))) (immF (fLst aNil)))) (sAsg (sBin ixGet (sBin ixGet (sVar 0) (sC (.int 0))) (sBin modD (sCall intD (aCons (sVar 3) aNil)) (sCall lenD (aCons (sBin ixGet (sVar 0) (sC (.int 0))) aNil)))) (gVar 4)) sSkip)
abbrev drawGreat : SS := (sIte (tAndF (tTru (sBin ltD (sVar 3) (sCall lenD (aCons (sBin ixGet (sVar 0) (sC (.int 0))) aNil)))) (tTru (sBin geD (sCall absD (aCons (sVar 4) aNil)) (sBin powD (sC (.int 10)) (sC (.int 18)))))) (sSeq (sAsg (sBin addD (sBin mulD (sC (.int 2)) (sBin subD (sCall absD (aCons (sVar 4) aNil)) (sBin powD (sC (.int 10)) (sC (.int 18))))) (sCall intD (aCons (sBin ltD (sVar 4) (sC (.int 0))) aNil))) (gVar 5)) (sSeq (sAsg (sBin fdivD (sCall intD (aCons (sVar 5) aNil)) (sVar 1)) (gSubD (sVar 0) (sC (.int 2)))) (sRet (sBin modD (sCall intD (aCons (sVar 5) aNil)) (sVar 1))))) sSkip)
abbrev drawB (C : DrawC) : SS := (sSeq (sIte (tTru (sBin gtD (sBin ixGet (sVar 0) (sC (.int 2))) (sC (.int 0)))) (sSeq (sAsg (sBin modD (sCall intD (aCons (sBin ixGet (sVar 0) (sC (.int 2))) aNil)) (sVar 1)) (gVar 2)) (sSeq (sAsg (sBin fdivD (sCall intD (aCons (sBin ixGet (sVar 0) (sC (.int 2))) aNil)) (sVar 1)) (gSubD (sVar 0) (sC (.int 2)))) (sRet (sVar 2)))) sSkip) (sSeq (sAsg (sBin ixGet (sVar 0) (sC (.int 1))) (gVar 3)) (sSeq (sAsg (sBin addD (sVar 3) (sC (.int 1))) (gSubD (sVar 0) (sC (.int 1)))) (sSeq (sAsg (sBin addD (sBin mulD (sC (.int C.a)) (sVar 3)) (sC (.int C.b))) (gVar 4)) (sSeq (drawMid C) (sSeq drawGreat (sSeq (sAsg (sBin modD (sCall intD (aCons (sBin powD (sBin addD (sBin addD (sBin modD (sCall intD (aCons (sVar 4) aNil)) (sC (.int C.m1))) (sBin mulD (sC (.int C.c)) (sVar 3))) (sC (.int C.d))) (sC (.int C.x))) aNil)) (sC (.int C.m2))) (gVar 6)) (sSeq (sAsg (sBin modD (sCall intD (aCons (sBin powD (sBin addD (sBin addD (sBin mulD (sVar 6) (sBin addD (sBin mulD (sC (.int 2)) (sVar 3)) (sC (.int C.e)))) (sBin mulD (sBin mulD (sC (.int C.f)) (sVar 3)) (sVar 3))) (sC (.int C.g))) (sC (.int C.y))) aNil)) (sC (.int C.m3))) (gVar 6)) (sRet (sBin modD (sCall intD (aCons (sBin fdivD (sVar 6) (sC (.int C.dv))) aNil)) (sVar 1)))))))))))
/-- the same ahead of which a draw of one is 0 -/
abbrev drawB1 (C : DrawC) : SS := sSeq (sIte (tTru (sBin ltD (sVar 1) (sC (.int 2)))) (sRet (sC (.int 0))) sSkip) (drawB C)
theorem drawB_digit {C : DrawC} {many : Int} (h : 0 < many) (h2 : many.natAbs.log2 < 8000) (hc : 0 < c) : fin (T.length + 1) (drawB C [some (.cel 0), some (.int many), none, none, none, none, none] (Pn sc at' c :: T)) = .ok (.int (c % many)) (Pn sc at' (c / many) :: T) := by
  unfold drawB
  simp only [seqS_e, ite_e (t := tTru (sBin gtD (sBin ixGet (sVar 0) (sC (.int 2))) (sC (.int 0))))]
  simp [-seqS_e, -ite_e, pn2, hc]
  simp [-ite_e, pn2, mod_e h, fdiv_w h h2, setI_e, pst2]
theorem drawB_e {C : DrawC} (O : C.Ok) {many : Int} (hm : 0 < many) (h2 : many.natAbs.log2 < 8000) (hc : ¬ 0 < c) (h0 : 0 ≤ at') (h1 : at' ≤ 1000000) : ∃ r c', 0 ≤ r ∧ r < many ∧ fin (T.length + 1) (drawB C [some (.cel 0), some (.int many), none, none, none, none, none] (Pn sc at' c :: T)) = .ok (.int r) (Pn sc (at' + 1) c' :: T) := by
  obtain ⟨a1, a2⟩ := O.a
  obtain ⟨b1, b2⟩ := O.b
  obtain ⟨m11, m12⟩ := O.m1
  obtain ⟨c1, c2⟩ := O.c
  obtain ⟨d1, d2⟩ := O.d
  have x1 := O.x
  obtain ⟨m21, m22⟩ := O.m2
  obtain ⟨e1, e2⟩ := O.e
  obtain ⟨f1, f2⟩ := O.f
  obtain ⟨g1, g2⟩ := O.g
  have y1 := O.y
  obtain ⟨m31, m32⟩ := O.m3
  obtain ⟨v1, v2⟩ := O.dv
  obtain ⟨a, b, m1, cc, d, x, m2, e, f, g, y, m3, dv⟩ := C
  simp only at *
  unfold drawB
  simp only [seqS_e, ite_e (t := tTru (sBin gtD (sBin ixGet (sVar 0) (sC (.int 2))) (sC (.int 0))))]
  simp [-seqS_e, -ite_e, pn2, hc]
  simp only [seqS_e, asg_e]
  simp [-seqS_e, -ite_e, pn1]
  simp only [seqS_e, setI_e]
  simp [-seqS_e, -ite_e, pst1]
  simp only [seqS_e, asg_e]
  simp [-seqS_e, -ite_e, mul_l (i := a) (by omega)]
  unfold drawMid
  simp only [seqS_e, ite_e (t := tTru (sBin neD (sBin ixGet (sVar 0) (sC (.int 0))) (immF (fLst aNil))))]
  simp [-seqS_e, -ite_e, pn0, ne_row]
  have hce : ∃ cell : Int, (if sc = [] then RS.nx [some (D.cel 0), some (D.int many), none, some (D.int at'), some (D.int (a * at' + b)), none, none] (Pn sc (at' + 1) c :: T)
      else RS.of [some (D.cel 0), some (D.int many), none, some (D.int at'), some (D.int (a * at' + b)), none, none]
        ((modD (D.int at') (D.int ((row sc).length : Int)) (Pn sc (at' + 1) c :: T)).bind fun b S2 => ixGet (D.lst (row sc)) b S2) fun d S1 => RS.nx [some (D.cel 0), some (D.int many), none, some (D.int at'), some d, none, none] S1) =
      RS.nx [some (D.cel 0), some (D.int many), none, some (D.int at'), some (D.int cell), none, none] (Pn sc (at' + 1) c :: T) := by
    by_cases hs : sc = []
    · exact ⟨a * at' + b, by simp [hs]⟩
    · have hl : (0 : Int) < (row sc).length := by
        rw [row_len]
        have := List.length_pos_iff.mpr hs
        omega
      refine ⟨sc.getD (at' % (row sc).length).toNat 0, ?_⟩
      rw [if_neg hs, mod_e hl, bind_ok, ix_lst, ixLI _ _ (Int.emod_nonneg _ (by omega)) (by rw [← row_len]; exact Int.emod_lt_of_pos _ hl)]
      rfl
  obtain ⟨cell, hce⟩ := hce
  rw [hce, seq_nx]
  unfold drawGreat
  simp only [seqS_e]
  simp only [ite_e (t := tAndF (tTru (sBin ltD (sVar 3) (sCall lenD (aCons (sBin ixGet (sVar 0) (sC (.int 0))) aNil)))) (tTru (sBin geD (sCall absD (aCons (sVar 4) aNil)) (sBin powD (sC (.int 10)) (sC (.int 18))))))]
  have e18 : ∀ S : Store, powD (.int 10) (.int 18) S = .ok (.int (10 ^ 18)) S := fun S => pow_e (i := 10) (j := 18) (by decide) (by decide) S
  by_cases hg : at' < ((row sc).length : Int) ∧ (10 : Int) ^ 18 ≤ (if cell < 0 then -cell else cell)
  · have hg1 := hg.1
    have hg2 := hg.2
    simp at hg2
    simp [-seqS_e, -ite_e, pn0, e18, abs_e, hg1, hg2]
    simp [-ite_e, mul_l, e18, abs_e, fdiv_w hm h2, mod_e hm, setI_e, pst2]
    refine ⟨_, ?_, ?_, rfl, _, rfl⟩
    · exact Int.emod_nonneg _ (by omega)
    · exact Int.emod_lt_of_pos _ hm
  · have hno : (tAndF (tTru (sBin ltD (sVar 3) (sCall lenD (aCons (sBin ixGet (sVar 0) (sC (.int 0))) aNil)))) (tTru (sBin geD (sCall absD (aCons (sVar 4) aNil)) (sBin powD (sC (.int 10)) (sC (.int 18)))))) [some (D.cel 0), some (D.int many), none, some (D.int at'), some (D.int cell), none, none] (Pn sc (at' + 1) c :: T) = .ok false (Pn sc (at' + 1) c :: T) := by
      by_cases hg1 : at' < ((row sc).length : Int)
      · have hg2 : ¬ (10 : Int) ^ 18 ≤ (if cell < 0 then -cell else cell) := fun h => hg ⟨hg1, h⟩
        simp at hg2
        simp [pn0, e18, abs_e, hg1, hg2]
      · simp [pn0, hg1]
    rw [hno]
    simp only [of_ok, Bool.false_eq_true, if_false, skip_e, seq_nx]
    have n0 : 0 ≤ cell % m1 := Int.emod_nonneg _ (by omega)
    have n1 : cell % m1 < m1 := Int.emod_lt_of_pos _ (by omega)
    have k1 : cc * at' ≤ 1000000 * 1000000 := Int.mul_le_mul c2 h1 h0 (by omega)
    have k0 : 0 ≤ cc * at' := Int.mul_nonneg c1 h0
    have p3' := fun S => pow_e (i := cell % m1 + cc * at' + d) (j := x) (by omega) (by omega) S
    simp only [seqS_e]
    rw [asg_e]
    simp [-seqS_e, -ite_e, mod_e m11, mod_e m21, mul_l (i := cc) (by omega), p3']
    obtain ⟨m, hm0⟩ : ∃ m, m = (cell % m1 + cc * at' + d) ^ x % m2 := ⟨_, rfl⟩
    have m0 : 0 ≤ m := hm0 ▸ Int.emod_nonneg _ (by omega)
    have m1' : m < m2 := hm0 ▸ Int.emod_lt_of_pos _ (by omega)
    rw [← hm0]
    simp only [seqS_e]
    rw [asg_e]
    have t1 : m * (2 * at' + e) ≤ 2147483648 * (2 * 1000000 + 1000000) := Int.mul_le_mul (by omega) (by omega) (by omega) (by omega)
    have t2 : 0 ≤ m * (2 * at' + e) := Int.mul_nonneg m0 (by omega)
    have t3 : f * at' ≤ 1000000 * 1000000 := Int.mul_le_mul f2 h1 h0 (by omega)
    have t4 : 0 ≤ f * at' := Int.mul_nonneg f1 h0
    have t5 : f * at' * at' ≤ 1000000 * 1000000 * 1000000 := Int.mul_le_mul t3 h1 h0 (by omega)
    have t6 : 0 ≤ f * at' * at' := Int.mul_nonneg t4 h0
    have q1 : ∀ S : Store, mulD (.int m) (.int (2 * at' + e)) S = .ok (.int (m * (2 * at' + e))) S := fun S => mul_l (by omega) S
    have q2 : ∀ S : Store, mulD (.int (f * at')) (.int at') S = .ok (.int (f * at' * at')) S := fun S => mul_l (by omega) S
    have p5' := fun S => pow_e (i := m * (2 * at' + e) + f * at' * at' + g) (j := y) (by omega) (by omega) S
    simp [-seqS_e, -ite_e, mod_e m31, mul_l (i := f) (by omega), mul_l (i := 2) (by omega), q1, q2, p5']
    refine ⟨((m * (2 * at' + e) + f * at' * at' + g) ^ y % m3) / dv % many, Int.emod_nonneg _ (by omega), Int.emod_lt_of_pos _ hm, c, ?_⟩
    simp [fdiv_e v1 (by omega), mod_e hm]
end
def IsPen (N : Nat) (p : Cell) : Prop := ∃ sc at' c, p = Pn sc at' c ∧ 0 ≤ at' ∧ at' ≤ (N : Int)
theorem IsPen.mono {M N : Nat} {p : Cell} (h : IsPen M p) (l : M ≤ N) : IsPen N p := by
  obtain ⟨sc, a, c, h1, h2, h3⟩ := h
  exact ⟨sc, a, c, h1, h2, by omega⟩
/-- a draw: F is a def of such a body -/
theorem draw_of {C : DrawC} (O : C.Ok) {F : Fn} (hF : F = runB 7 (drawB C)) {N : Nat} {many : Int} {p : Cell} (T : Store) (hp : IsPen N p) (hN : N ≤ 1000000) (h1 : 0 < many) (h2 : many.natAbs.log2 < 8000) :
    ∃ (r : Int) (p' : Cell), 0 ≤ r ∧ r < many ∧ IsPen (N + 1) p' ∧ F [.cel 0, .int many] (p :: T) = .ok (.int r) (p' :: T) := by
  subst hF
  obtain ⟨sc, a, c, rfl, ha, hb⟩ := hp
  rw [runB_e]
  by_cases hc : 0 < c
  · exact ⟨c % many, _, Int.emod_nonneg _ (by omega), Int.emod_lt_of_pos _ h1, ⟨sc, a, c / many, rfl, ha, by omega⟩, drawB_digit h1 h2 hc⟩
  · obtain ⟨r, c', r0, r1, e⟩ := drawB_e (sc := sc) (at' := a) (c := c) (T := T) O h1 h2 hc ha (by omega)
    exact ⟨r, _, r0, r1, ⟨sc, a + 1, c', rfl, by omega, by omega⟩, e⟩
theorem draw1_of {C : DrawC} (O : C.Ok) {F : Fn} (hF : F = runB 7 (drawB1 C)) {N : Nat} {many : Int} {p : Cell} (T : Store) (hp : IsPen N p) (hN : N ≤ 1000000) (h1 : 0 < many) (h2 : many.natAbs.log2 < 8000) :
    ∃ (r : Int) (p' : Cell), 0 ≤ r ∧ r < many ∧ IsPen (N + 1) p' ∧ F [.cel 0, .int many] (p :: T) = .ok (.int r) (p' :: T) := by
  by_cases hm : many < 2
  · subst hF
    refine ⟨0, p, by omega, h1, hp.mono (by omega), ?_⟩
    rw [runB_e]
    unfold drawB1
    rw [seqS_e]
    simp [-seqS_e, hm]
  · obtain ⟨r, p', a, b, c, e⟩ := draw_of O (F := runB 7 (drawB C)) rfl T hp hN h1 h2
    refine ⟨r, p', a, b, c, ?_⟩
    subst hF
    rw [runB_e] at e ⊢
    unfold drawB1
    rw [seqS_e]
    simpa [-seqS_e, hm] using e
theorem log_small {i : Int} (h : i.natAbs < 2 ^ 200) : i.natAbs.log2 < 8000 := by
  by_cases h0 : i.natAbs = 0
  · rw [h0]; decide
  · exact Nat.lt_trans ((Nat.log2_lt h0).mpr h) (by decide)
/-- draws, whatever they are made of: what they answer -/
def Draws (F : Fn) : Prop := ∀ (N : Nat) (many : Int) (p : Cell) (T : Store), IsPen N p → N ≤ 1000000 → 0 < many → many.natAbs < 2 ^ 200 → ∃ (r : Int) (p' : Cell), 0 ≤ r ∧ r < many ∧ IsPen (N + 1) p' ∧ F [.cel 0, .int many] (p :: T) = .ok (.int r) (p' :: T)
theorem draws_of {C : DrawC} (O : C.Ok) {F : Fn} (hF : F = runB 7 (drawB C)) : Draws F := fun N many p T hp hN h1 h2 => draw_of O hF T hp hN h1 (log_small h2)
theorem draws1_of {C : DrawC} (O : C.Ok) {F : Fn} (hF : F = runB 7 (drawB1 C)) : Draws F := fun N many p T hp hN h1 h2 => draw1_of O hF T hp hN h1 (log_small h2)
/-- a pick -/
abbrev pickB (F : Fn) : SS := sRet (sBin ixGet (sVar 1) (sApp 2 F (aCons (sVar 0) (aCons (sCall lenD (aCons (sVar 1) aNil)) aNil))))
def Picks (F : Fn) : Prop := ∀ (N : Nat) (p : Cell) (T : Store) (xs : List D), IsPen N p → N ≤ 1000000 → xs ≠ [] → xs.length ≤ 100000 → ∃ (x : D) (p' : Cell), x ∈ xs ∧ IsPen (N + 1) p' ∧ F [.cel 0, .lst xs] (p :: T) = .ok x (p' :: T)
theorem picks_of {F G : Fn} (hF : Draws F) (hG : G = runB 2 (pickB F)) : Picks G := by
  subst hG
  intro N p T xs hp hN h1 h2
  have hl := List.length_pos_iff.mpr h1
  obtain ⟨r, p', r0, r1, hp', e⟩ := hF N (xs.length : Int) p T hp hN (by omega) (by omega)
  obtain ⟨j, rfl⟩ := Int.eq_ofNat_of_zero_le r0
  have hj : j < xs.length := by omega
  refine ⟨xs[j], p', List.getElem_mem hj, hp', ?_⟩
  rw [runB_e]
  simp [e, ixL_e xs j hj]
end VS
end
section
set_option Elab.async false
set_option linter.all false
set_option maxRecDepth 100000
set_option maxHeartbeats 4000000
/-! VS: for plain laws: texts, loops, what is shown -/
namespace VS
open PySem PySem.Spec PyProof.Rows L2
/-! ### written texts -/
theorem ok_of (s : String) : PyData.strOk (Str.ofString s) = true := by
  rw [Str.ofString_eq_toList]
  unfold PyData.strOk
  simp
  intro c hc
  have h : c.toNat < 0xd800 ∨ (0xdfff < c.toNat ∧ c.toNat < 0x110000) := c.valid
  omega
theorem ok_app (a b : Str) (ha : PyData.strOk a = true) (hb : PyData.strOk b = true) : PyData.strOk (a ++ b) = true := by
  unfold PyData.strOk at *
  rw [Str.cps_append, Array.all_append, ha, hb]
  rfl
theorem char_nat_inj : ∀ {l m : List Char}, l.map Char.toNat = m.map Char.toNat → l = m
  | [], [], _ => rfl
  | [], _ :: _, h => by simp at h
  | _ :: _, [], h => by simp at h
  | c :: l, d :: m, h => by
    simp only [List.map_cons, List.cons.injEq] at h
    have h1 : c = d := by
      apply Char.ext
      apply UInt32.toNat_inj.mp
      exact h.1
    rw [h1, char_nat_inj h.2]
theorem lit_inj {a b : String} : Str.ofString a = Str.ofString b ↔ a = b := by
  refine ⟨fun h => ?_, fun h => by rw [h]⟩
  rw [Str.ofString_eq_toList, Str.ofString_eq_toList] at h
  have h' : a.toList.map Char.toNat = b.toList.map Char.toNat := by simpa using h
  exact String.toList_inj.mp (char_nat_inj h')
@[simp] theorem lit_eq (a b : String) : (Str.ofString a = Str.ofString b) = (a = b) := propext lit_inj
@[simp] theorem lit_beq (a b : String) : (Str.ofString a == Str.ofString b) = decide (a = b) := by
  by_cases h : a = b
  · subst h
    simp
  · have : Str.ofString a ≠ Str.ofString b := fun e => h (lit_inj.mp e)
    simp [h, this]
@[simp] theorem eq_lit (a b : String) (S : Store) : eqD (.str (Str.ofString a)) (.str (Str.ofString b)) S = .ok (.bl (decide (a = b))) S := by
  simp [eqD, eqPy, toPy, toP, SeqAt.shaped, PyData.eqv, PyData.canLay0, PyData.depth, ok_of]
@[simp] theorem ne_lit (a b : String) (S : Store) : neD (.str (Str.ofString a)) (.str (Str.ofString b)) S = .ok (.bl (!decide (a = b))) S := by
  simp [neD, eqPy, toPy, toP, SeqAt.shaped, PyData.eqv, PyData.canLay0, PyData.depth, ok_of]
theorem eq_same {a : D} {S : Store} {p : PyData} (h : toPy S a = some p) (h2 : SeqAt.shaped p = true) (h3 : PyData.eqv p p = true) : eqD a a S = .ok (.bl true) S := by
  simp [eqD, eqPy, h, h2, h3]
theorem ne_same {a : D} {S : Store} {p : PyData} (h : toPy S a = some p) (h2 : SeqAt.shaped p = true) (h3 : PyData.eqv p p = true) : neD a a S = .ok (.bl false) S := by
  simp [neD, eqPy, h, h2, h3]
theorem ne_str (x : Str) (S : Store) (h : PyData.strOk x = true) : neD (.str x) (.str x) S = .ok (.bl false) S := by
  simp [neD, eqPy, toPy, toP, SeqAt.shaped, PyData.eqv, PyData.canLay0, PyData.depth, h]
theorem eqv_ints (sc : List Int) : PyData.eqvAll (sc.map .int) (sc.map .int) = true := by
  induction sc with
  | nil => simp [PyData.eqvAll]
  | cons c sc ih => simp [PyData.eqvAll, PyData.eqv, ih]
theorem eq_tup_row (sc : List Int) (S : Store) : eqD (.tup (row sc)) (.tup (row sc)) S = .ok (.bl true) S := by
  have h1 : SeqAt.shaped (.tuple (sc.map .int)) = true := by
    have := dep_ints sc
    simp [SeqAt.shaped, PyData.canLay0, lay_ints, PyData.depth]
    omega
  refine eq_same (p := .tuple (sc.map .int)) ?_ h1 (by simp [PyData.eqv, eqv_ints])
  show (toPs (row sc)).map PyData.tuple = _
  rw [toPs_row]
  rfl
/-! ### what is shown -/
theorem int_len (a : Int) {k : Nat} (hk : 1 ≤ k) (h : a.natAbs < 2 ^ k) : (Str.ofString (toString a)).length ≤ k + 3 := by
  have h1 : a.natAbs.log2 < k := by
    by_cases h0 : a.natAbs = 0
    · rw [h0]; simpa using (show 0 < k by omega)
    · exact (Nat.log2_lt h0).mpr h
  have := PySem.int_text_length_le (k := k) (by omega) h1
  rw [PySem.ofString_length]
  omega
theorem log_of {a k : Nat} (hk : 1 ≤ k) (h : a < 2 ^ k) : a.log2 < k := by
  by_cases h0 : a = 0
  · rw [h0]; simpa using (show 0 < k by omega)
  · exact (Nat.log2_lt h0).mpr h
/-- small shown data: short, fit to be compared -/
def Sm (x : Str) (n : Nat) : Prop := x.length ≤ n ∧ PyData.strOk x = true
theorem Sm.mono {x : Str} {m n : Nat} (h : Sm x m) (l : m ≤ n) : Sm x n := ⟨Nat.le_trans h.1 l, h.2⟩
theorem sm_app {a b : Str} {m n : Nat} (ha : Sm a m) (hb : Sm b n) : Sm (a ++ b) (m + n) := ⟨by
  have := ha.1
  have := hb.1
  rw [Str.length_append]
  omega, ok_app a b ha.2 hb.2⟩
theorem sm_lit (s : String) (n : Nat) (h : s.length ≤ n) : Sm (Str.ofString s) n := ⟨by rw [PySem.ofString_length]; exact h, ok_of s⟩
theorem sm_int (a : Int) {k : Nat} (hk : 1 ≤ k) (h : a.natAbs < 2 ^ k) : Sm (PyData.shown (.int a)) (k + 3) := by
  have : PyData.shown (.int a) = Str.ofString (toString a) := by simp [PyData.shown]
  rw [this]
  exact ⟨int_len a hk h, ok_of _⟩
theorem rep_int (a : Int) (S : Store) (h : a.natAbs < 2 ^ 1900) : ∃ s, PyData.strOk s = true ∧ reprD [.int a] S = .ok (.str s) S := by
  refine ⟨Str.ofString (toString a), ok_of _, ?_⟩
  show (if a.natAbs.log2 < 1920 then R.ok (D.str (toString a)) S else .bad) = _
  rw [if_pos (Nat.lt_of_lt_of_le (log_of (by decide) h) (by decide))]
theorem sm_join {sep : Str} {m : Nat} (hs : Sm sep m) : ∀ {l : List Str} {n : Nat}, (∀ x ∈ l, Sm x n) → Sm (Str.join sep l) (l.length * (n + m))
  | [], n, _ => ⟨by simp [Str.join]; rfl, by simp only [Str.join]; exact ok_of ""⟩
  | [x], n, h => by
    have := h x (by simp)
    simp only [Str.join]
    exact this.mono (by simp)
  | x :: y :: l, n, h => by
    have h1 := h x (by simp)
    have ih := sm_join hs (l := y :: l) (n := n) fun z hz => h z (by simp at hz ⊢; right; exact hz)
    have : Str.join sep (x :: y :: l) = x ++ sep ++ Str.join sep (y :: l) := by simp [Str.join]
    rw [this]
    refine (sm_app (sm_app h1 hs) ih).mono ?_
    simp only [List.length_cons]
    rw [Nat.succ_mul (l.length + 1)]
    omega
/-! ### plain data: what compares, what is shown -/
mutual
/-- data that compare with themselves -/
def cmpD : D → Bool
  | .non => true
  | .bl _ => true
  | .int _ => true
  | .str x => PyData.strOk x
  | .lst xs => cmpL xs
  | .tup xs => cmpL xs
  | _ => false
def cmpL : List D → Bool
  | [] => true
  | d :: ds => cmpD d && cmpL ds
end
mutual
def dpD : D → Nat
  | .lst xs => dpL xs + 1
  | .tup xs => dpL xs + 1
  | _ => 0
def dpL : List D → Nat
  | [] => 0
  | d :: ds => max (dpD d) (dpL ds)
end
mutual
theorem cmp_p : ∀ (d : D), cmpD d = true → ∃ p, toP d = some p ∧ p.canLay0 = true ∧ p.depth = dpD d ∧ PyData.eqv p p = true
  | .non, _ => ⟨.none, rfl, by simp [PyData.canLay0], by simp [PyData.depth, dpD], by simp [PyData.eqv]⟩
  | .bl b, _ => ⟨.bool b, rfl, by simp [PyData.canLay0], by simp [PyData.depth, dpD], by simp [PyData.eqv]⟩
  | .int i, _ => ⟨.int i, rfl, by simp [PyData.canLay0], by simp [PyData.depth, dpD], by simp [PyData.eqv]⟩
  | .str x, h => ⟨.str x, rfl, by simpa [PyData.canLay0, cmpD] using h, by simp [PyData.depth, dpD], by simp [PyData.eqv]⟩
  | .lst xs, h => by
    obtain ⟨ps, h1, h2, h3, h4⟩ := cmp_ps xs (by simpa [cmpD] using h)
    exact ⟨.list ps, by simp [toP, h1], by simpa [PyData.canLay0] using h2, by simp [PyData.depth, dpD, h3], by simpa [PyData.eqv] using h4⟩
  | .tup xs, h => by
    obtain ⟨ps, h1, h2, h3, h4⟩ := cmp_ps xs (by simpa [cmpD] using h)
    exact ⟨.tuple ps, by simp [toP, h1], by simpa [PyData.canLay0] using h2, by simp [PyData.depth, dpD, h3], by simpa [PyData.eqv] using h4⟩
  | .cel _, h => by simp [cmpD] at h
  | .ins _ _, h => by simp [cmpD] at h
  | .exc _ _, h => by simp [cmpD] at h
  | .dic _, h => by simp [cmpD] at h
  | .scr _, h => by simp [cmpD] at h
  | .ty _, h => by simp [cmpD] at h
  | .cls _, h => by simp [cmpD] at h
  | .clo _ _ _ _ _, h => by simp [cmpD] at h
theorem cmp_ps : ∀ (ds : List D), cmpL ds = true → ∃ ps, toPs ds = some ps ∧ PyData.canLayAll0 ps = true ∧ PyData.depthAll ps = dpL ds ∧ PyData.eqvAll ps ps = true
  | [], _ => ⟨[], by simp [toPs], by simp [PyData.canLayAll0], by simp [PyData.depthAll, dpL], by simp [PyData.eqvAll]⟩
  | d :: ds, h => by
    simp only [cmpL, Bool.and_eq_true] at h
    obtain ⟨p, h1, h2, h3, h4⟩ := cmp_p d h.1
    obtain ⟨ps, k1, k2, k3, k4⟩ := cmp_ps ds h.2
    exact ⟨p :: ps, by simp [toPs, h1, k1], by simp [PyData.canLayAll0, h2, k2], by simp [PyData.depthAll, dpL, h3, k3], by simp [PyData.eqvAll, h4, k4]⟩
end
theorem toPy_P {d : D} (S : Store) (h : cmpD d = true) : toPy S d = toP d := by cases d <;> first | rfl | simp [cmpD] at h
theorem eq_self {d : D} (S : Store) (h : cmpD d = true) (hd : dpD d ≤ 60) : eqD d d S = .ok (.bl true) S := by
  obtain ⟨p, h1, h2, h3, h4⟩ := cmp_p d h
  exact eq_same (by rw [toPy_P S h]; exact h1) (by simp [SeqAt.shaped, h2, h3]; omega) h4
theorem ne_self {d : D} (S : Store) (h : cmpD d = true) (hd : dpD d ≤ 60) : neD d d S = .ok (.bl false) S := by
  obtain ⟨p, h1, h2, h3, h4⟩ := cmp_p d h
  exact ne_same (by rw [toPy_P S h]; exact h1) (by simp [SeqAt.shaped, h2, h3]; omega) h4
mutual
/-- data whose shown text is bounded: ints below 2 ^ k -/
def shwD (k : Nat) : D → Bool
  | .non => true
  | .bl _ => true
  | .int i => decide (i.natAbs < 2 ^ k)
  | .lst xs => shwL k xs
  | .tup xs => shwL k xs
  | _ => false
def shwL (k : Nat) : List D → Bool
  | [] => true
  | d :: ds => shwD k d && shwL k ds
end
mutual
def wdD (k : Nat) : D → Nat
  | .non => 5
  | .bl _ => 5
  | .int _ => k + 3
  | .lst xs => wdL k xs + 4
  | .tup xs => wdL k xs + 4
  | _ => 0
def wdL (k : Nat) : List D → Nat
  | [] => 0
  | d :: ds => wdD k d + 2 + wdL k ds
end
theorem sm_from {k : Nat} : ∀ (ts : List Str) (n : Nat) (acc : Str) (a w : Nat), Sm acc a → (∃ ns : List Nat, ns.length = ts.length ∧ (∀ i (h : i < ts.length) (h' : i < ns.length), Sm ts[i] ns[i]) ∧ (ns.map (· + 2)).sum = w) → Sm (textFrom n acc ts) (a + w)
  | [], n, acc, a, w, h, _ => h.mono (by omega)
  | t :: ts, n, acc, a, w, h, ⟨ns, h1, h2, h3⟩ => by
    cases ns with
    | nil => simp at h1
    | cons m ns =>
      have ht : Sm t m := h2 0 (by simp) (by simp)
      have hsep : Sm (Str.ofString (if n > 0 then ", " else "")) 2 := by
        by_cases hn : n > 0
        · rw [if_pos hn]; exact sm_lit ", " 2 (by decide)
        · rw [if_neg hn]; exact sm_lit "" 2 (by decide)
      have := sm_from (k := k) ts (n + 1) _ (a + 2 + m) ((ns.map (· + 2)).sum) (sm_app (sm_app h hsep) ht) ⟨ns, by simpa using h1, fun i hi hi' => h2 (i + 1) (by simpa using hi) (by simpa using hi'), rfl⟩
      simp only [List.map_cons, List.sum_cons] at h3
      exact this.mono (by omega)
theorem sm_joined : ∀ (ts : List Str) (w : Nat), (∃ ns : List Nat, ns.length = ts.length ∧ (∀ i (h : i < ts.length) (h' : i < ns.length), Sm ts[i] ns[i]) ∧ (ns.map (· + 2)).sum = w) → Sm (Str.join (Str.ofString ", ") ts) w
  | [], w, _ => by
    have : Sm (Str.join (Str.ofString ", ") []) 0 := ⟨by simp only [Str.join]; exact Nat.le_refl 0, by simp only [Str.join]; exact ok_of ""⟩
    exact this.mono (by omega)
  | [t], w, ⟨ns, h1, h2, h3⟩ => by
    match ns, h1 with
    | [m], _ =>
      have := h2 0 (by simp) (by simp)
      simp at h3
      simp only [Str.join]
      exact this.mono (by simp; omega)
  | t :: u :: ts, w, ⟨ns, h1, h2, h3⟩ => by
    match ns, h1 with
    | m :: ns, h1 =>
      have ht : Sm t m := h2 0 (by simp) (by simp)
      have ih := sm_joined (u :: ts) ((ns.map (· + 2)).sum) ⟨ns, by simpa using h1, fun i hi hi' => h2 (i + 1) (by simpa using hi) (by simpa using hi'), rfl⟩
      have e : Str.join (Str.ofString ", ") (t :: u :: ts) = t ++ Str.ofString ", " ++ Str.join (Str.ofString ", ") (u :: ts) := by simp only [Str.join]
      rw [e]
      simp only [List.map_cons, List.sum_cons] at h3
      exact (sm_app (sm_app ht (sm_lit ", " 2 (by decide))) ih).mono (by omega)
mutual
theorem shw_p {k : Nat} (hk : 1 ≤ k) (h9 : k ≤ 1900) : ∀ (d : D), shwD k d = true → ∃ p, toP d = some p ∧ p.showable = true ∧ p.hasDict = false ∧ p.depth = dpD d ∧ Sm p.shown (wdD k d)
  | .non, _ => ⟨.none, rfl, by simp [PyData.showable], by simp [PyData.hasDict], by simp [PyData.depth, dpD], by
      have : PyData.shown .none = Str.ofString "None" := by simp [PyData.shown]
      rw [this]; exact sm_lit _ 5 (by decide)⟩
  | .bl b, _ => ⟨.bool b, rfl, by simp [PyData.showable], by simp [PyData.hasDict], by simp [PyData.depth, dpD], by
      cases b
      · have : PyData.shown (.bool false) = Str.ofString "False" := by simp [PyData.shown]
        rw [this]; exact sm_lit _ 5 (by decide)
      · have : PyData.shown (.bool true) = Str.ofString "True" := by simp [PyData.shown]
        rw [this]; exact sm_lit _ 5 (by decide)⟩
  | .int i, h => by
    have h' : i.natAbs < 2 ^ k := by simpa [shwD] using h
    exact ⟨.int i, rfl, by
      have := log_of hk h'
      simp [PyData.showable]; omega, by simp [PyData.hasDict], by simp [PyData.depth, dpD], sm_int i hk h'⟩
  | .lst xs, h => by
    obtain ⟨ps, h1, h2, h3, h4, h5⟩ := shw_ps hk h9 xs (by simpa [shwD] using h)
    refine ⟨.list ps, by simp [toP, h1], by simpa [PyData.showable] using h2, by simpa [PyData.hasDict] using h3, by simp [PyData.depth, dpD, h4], ?_⟩
    have e : PyData.shown (.list ps) = textFrom 0 (Str.ofString "[") (PyData.shownAll ps) ++ Str.ofString "]" := by simp [PyData.shown, listText]
    rw [e]
    exact (sm_app (sm_from (k := k) _ 0 _ 1 _ (sm_lit "[" 1 (by decide)) h5) (sm_lit "]" 1 (by decide))).mono (by simp [wdD]; omega)
  | .tup xs, h => by
    obtain ⟨ps, h1, h2, h3, h4, h5⟩ := shw_ps hk h9 xs (by simpa [shwD] using h)
    refine ⟨.tuple ps, by simp [toP, h1], by simpa [PyData.showable] using h2, by simpa [PyData.hasDict] using h3, by simp [PyData.depth, dpD, h4], ?_⟩
    have e : PyData.shown (.tuple ps) = Str.ofString "(" ++ Str.join (Str.ofString ", ") (PyData.shownAll ps) ++ Str.ofString (if (PyData.shownAll ps).length == 1 then ",)" else ")") := by simp [PyData.shown, tupleText]
    rw [e]
    have l2 : Sm (Str.ofString (if (PyData.shownAll ps).length == 1 then ",)" else ")")) 2 := by
      split
      · exact sm_lit _ 2 (by decide)
      · exact sm_lit _ 2 (by decide)
    exact (sm_app (sm_app (sm_lit "(" 1 (by decide)) (sm_joined _ _ h5)) l2).mono (by simp [wdD]; omega)
  | .str _, h => by simp [shwD] at h
  | .cel _, h => by simp [shwD] at h
  | .ins _ _, h => by simp [shwD] at h
  | .exc _ _, h => by simp [shwD] at h
  | .dic _, h => by simp [shwD] at h
  | .scr _, h => by simp [shwD] at h
  | .ty _, h => by simp [shwD] at h
  | .cls _, h => by simp [shwD] at h
  | .clo _ _ _ _ _, h => by simp [shwD] at h
theorem shw_ps {k : Nat} (hk : 1 ≤ k) (h9 : k ≤ 1900) : ∀ (ds : List D), shwL k ds = true → ∃ ps, toPs ds = some ps ∧ PyData.showableAll ps = true ∧ PyData.hasDictAll ps = false ∧ PyData.depthAll ps = dpL ds ∧
      ∃ ns : List Nat, ns.length = (PyData.shownAll ps).length ∧ (∀ i (h : i < (PyData.shownAll ps).length) (h' : i < ns.length), Sm (PyData.shownAll ps)[i] ns[i]) ∧ (ns.map (· + 2)).sum = wdL k ds
  | [], _ => ⟨[], by simp [toPs], by simp [PyData.showableAll], by simp [PyData.hasDictAll], by simp [PyData.depthAll, dpL], [], by simp [PyData.shownAll], by simp, by simp [wdL]⟩
  | d :: ds, h => by
    simp only [shwL, Bool.and_eq_true] at h
    obtain ⟨p, h1, h2, h3, h4, h5⟩ := shw_p hk h9 d h.1
    obtain ⟨ps, k1, k2, k3, k4, ns, k5, k6, k7⟩ := shw_ps hk h9 ds h.2
    refine ⟨p :: ps, by simp [toPs, h1, k1], by simp [PyData.showableAll, h2, k2], by simp [PyData.hasDictAll, h3, k3], by simp [PyData.depthAll, dpL, h4, k4], wdD k d :: ns, by simp [PyData.shownAll, k5], fun i hi hi' => ?_, by simp [wdL, k7]⟩
    cases i with
    | zero => simpa [PyData.shownAll] using h5
    | succ i =>
      have := k6 i (by simpa [PyData.shownAll] using hi) (by simpa using hi')
      simpa [PyData.shownAll] using this
end
/-- what is shown of a list or a tuple of bounded data -/
theorem rep_row {k : Nat} {d : D} (S : Store) (hk : 1 ≤ k) (h9 : k ≤ 1900) (h : shwD k d = true) (hd : dpD d ≤ 50) (hs : ∃ xs, d = .lst xs ∨ d = .tup xs) (hw : wdD k d < sizeLine) : ∃ s, PyData.strOk s = true ∧ reprD [d] S = .ok (.str s) S := by
  obtain ⟨p, h1, h2, h3, h4, h5⟩ := shw_p hk h9 d h
  refine ⟨p.shown, h5.2, ?_⟩
  have hok : reprOk p = true := by
    unfold reprOk
    rw [h2, h3, decide_eq_true (by omega : p.depth ≤ 50), decide_eq_true (Nat.le_of_lt (Nat.lt_of_le_of_lt h5.1 hw))]
    rfl
  obtain ⟨xs, rfl | rfl⟩ := hs
  · show (match toPy S (.lst xs) with | some p => if reprOk p = true then R.ok (D.str p.shown) S else .bad | none => .bad) = _
    rw [show toPy S (.lst xs) = toP (.lst xs) from rfl, h1]
    simp only [hok, if_true]
  · show (match toPy S (.tup xs) with | some p => if reprOk p = true then R.ok (D.str p.shown) S else .bad | none => .bad) = _
    rw [show toPy S (.tup xs) = toP (.tup xs) from rfl, h1]
    simp only [hok, if_true]
theorem cmp_row (v : List Int) : cmpL (row v) = true := by
  induction v with
  | nil => simp [cmpL]
  | cons c v ih => simp [cmpL, cmpD, ih]
theorem dp_row (v : List Int) : dpL (row v) = 0 := by
  induction v with
  | nil => simp [dpL]
  | cons c v ih => simp [dpL, dpD, ih]
theorem shw_row {k : Nat} (v : List Int) (h : ∀ c ∈ v, c.natAbs < 2 ^ k) : shwL k (row v) = true := by
  induction v with
  | nil => simp [shwL]
  | cons c v ih =>
    have h1 := h c (by simp)
    simp [shwL, shwD, ih fun x hx => h x (by simp [hx])]
    exact h1
theorem wd_row {k : Nat} (v : List Int) : wdL k (row v) = v.length * (k + 5) := by
  induction v with
  | nil => simp [wdL]
  | cons c v ih =>
    simp only [row_cons, wdL, wdD, ih, List.length_cons, Nat.succ_mul]
    omega
/-! ### loops -/
theorem for_as {α : Type} {as : List α} {enc : α → D} {src : Src} {gt : SG} {body : SS} (I : List α → VS.Env → Store → Prop)
    (hat : ∀ pre ρ S, I pre ρ S → ∀ i, src.at S i = some ((as.map enc)[i]?))
    (hs : ∀ pre a post ρ S, as = pre ++ a :: post → I pre ρ S → ∃ ρ1 S1, gt (enc a) ρ S = .ok ρ1 S1 ∧ ∃ ρ2 S2, body ρ1 S1 = .nx ρ2 S2 ∧ I (pre ++ [a]) ρ2 S2)
    {m : Nat} {ρ : VS.Env} {S : Store} (hm : as.length < m) (h0 : I [] ρ S) : ∃ ρ' S', forS src gt body m 0 ρ S = .nx ρ' S' ∧ I as ρ' S' := by
  obtain ⟨ρ', S', e, h⟩ := forS_run (src := src) (gt := gt) (body := body) (fun i ρ S => I (as.take i) ρ S) as.length
    (fun i hi ρ S h => by
      obtain ⟨ρ1, S1, e1, ρ2, S2, e2, h2⟩ := hs (as.take i) as[i] (as.drop (i + 1)) ρ S (by rw [← List.drop_eq_getElem_cons hi, List.take_append_drop]) h
      refine ⟨enc as[i], by rw [hat _ _ _ h]; simp [hi], ρ1, S1, e1, ρ2, S2, e2, ?_⟩
      rw [List.take_succ_eq_append_getElem hi]
      exact h2)
    (fun ρ S h => by rw [hat _ _ _ h, List.getElem?_eq_none (by simp)]) m 0 ρ S (by omega) (by omega) (by simpa using h0)
  exact ⟨ρ', S', e, by simpa using h⟩
/-- for k in range -/
theorem for_rng {gt : SG} {body : SS} (I : Nat → VS.Env → Store → Prop) (n : Nat)
    (hs : ∀ i ρ S, i < n → I i ρ S → ∃ ρ1 S1, gt (.int (i : Int)) ρ S = .ok ρ1 S1 ∧ ∃ ρ2 S2, body ρ1 S1 = .nx ρ2 S2 ∧ I (i + 1) ρ2 S2)
    {ρ : VS.Env} {S : Store} (h0 : I 0 ρ S) : ∃ ρ' S', forS (.rng 0 n) gt body (n + 1) 0 ρ S = .nx ρ' S' ∧ I n ρ' S' :=
  forS_run (src := .rng 0 n) I n (fun i hi ρ S h => ⟨.int (i : Int), by simp [Src.at, hi], hs i ρ S hi h⟩) (fun ρ S h => by simp [Src.at]) (n + 1) 0 ρ S (by omega) (by omega) h0
theorem while_run {ft : ST} {body : SS} (I : Nat → VS.Env → Store → Prop) (J : VS.Env → Store → Prop)
    (h : ∀ k ρ S, I k ρ S → (∃ S1, ft ρ S = .ok false S1 ∧ J ρ S1) ∨ (∃ S1 ρ2 S2, ft ρ S = .ok true S1 ∧ body ρ S1 = .nx ρ2 S2 ∧ ∃ j, j < k ∧ I j ρ2 S2)) :
    ∀ (k : Nat) (ρ : VS.Env) (S : Store), I k ρ S → ∃ ρ' S', sWhile ft body ρ S = .nx ρ' S' ∧ J ρ' S' := by
  have key : ∀ (m k : Nat) (ρ : VS.Env) (S : Store), k < m → I k ρ S → ∃ ρ' S', whileS ft body m ρ S = .nx ρ' S' ∧ J ρ' S' := by
    intro m
    induction m with
    | zero => intro k ρ S hk; omega
    | succ m ih =>
      intro k ρ S hk hI
      rcases h k ρ S hI with ⟨S1, e, hJ⟩ | ⟨S1, ρ2, S2, e1, e2, j, hj, hI2⟩
      · exact ⟨ρ, S1, by unfold whileS; simp only [e], hJ⟩
      · obtain ⟨ρ', S', e3, hJ⟩ := ih j ρ2 S2 (by omega) hI2
        refine ⟨ρ', S', ?_, hJ⟩
        unfold whileS
        simp only [e1, e2]
        exact e3
  intro k ρ S hI
  obtain ⟨ρ', S', e, hJ⟩ := key (k + 1) k ρ S (by omega) hI
  exact ⟨ρ', S', by rw [sWhile_eq (k + 1) (by rw [e]; exact fun z => nomatch z)]; exact e, hJ⟩
/-- a comprehension whose items are drawn: the store moves -/
theorem lcS_move {src : Src} {gt : SG} {tt : ST} {te : SE} {vs : List Nat} {ρ : VS.Env} (I : Nat → List D → Store → Prop) (n : Nat)
    (hs : ∀ i acc S, i < n → I i acc S → ∃ d, src.at S i = some (some d) ∧ ∃ ρ1 S1, gt d (wipeE ρ vs) S = .ok ρ1 S1 ∧ ∃ k S2, tt ρ1 S1 = .ok k S2 ∧ if k = true then acc.length < sizeLine ∧ ∃ e S3, te ρ1 S2 = .ok e S3 ∧ I (i + 1) (acc ++ [e]) S3 else I (i + 1) acc S2)
    (hend : ∀ acc S, I n acc S → src.at S n = some none) : ∀ (m i : Nat) (acc : List D) (S : Store), i ≤ n → n < i + m → I i acc S → ∃ acc' S', lcS src gt tt te vs ρ m i acc S = .ok acc' S' ∧ I n acc' S'
  | 0, i, acc, S, h1, h2, h => by omega
  | m + 1, i, acc, S, h1, h2, h => by
    by_cases hi : i < n
    · obtain ⟨d, e0, ρ1, S1, e1, k, S2, e2, h3⟩ := hs i acc S hi h
      cases k with
      | true =>
        rw [if_pos rfl] at h3
        obtain ⟨hl, e, S3, e3, h4⟩ := h3
        obtain ⟨acc', S', e5, h5⟩ := lcS_move I n hs hend m (i + 1) _ S3 hi (by omega) h4
        refine ⟨acc', S', ?_, h5⟩
        unfold lcS
        simp only [e0, e1, e2, e3, hl, if_true]
        exact e5
      | false =>
        rw [if_neg (by simp)] at h3
        obtain ⟨acc', S', e5, h5⟩ := lcS_move I n hs hend m (i + 1) _ S2 hi (by omega) h3
        refine ⟨acc', S', ?_, h5⟩
        unfold lcS
        simp only [e0, e1, e2]
        exact e5
    · have hi' : i = n := by omega
      subst hi'
      refine ⟨acc, S, ?_, h⟩
      unfold lcS
      simp only [hend acc S h]
/-- a comprehension over encoded items, pure -/
theorem lc_enc {α : Type} {src : Src} {gt : SG} {tt : ST} {te : SE} {vs : List Nat} {ρ : VS.Env} {S : Store} (as : List α) (enc out : α → D) (p : α → Bool)
    (hat : ∀ i, src.at S i = some ((as.map enc)[i]?)) (hsz : as.length < sizeLine)
    (h : ∀ a ∈ as, ∃ ρ1, gt (enc a) (wipeE ρ vs) S = .ok ρ1 S ∧ tt ρ1 S = .ok (p a) S ∧ (p a = true → te ρ1 S = .ok (out a) S)) {m : Nat} (hm : as.length < m) : lcS src gt tt te vs ρ m 0 [] S = .ok ((as.filter p).map out) S := by
  obtain ⟨acc, S', e, h1, h2, _⟩ := lcS_move (src := src) (gt := gt) (tt := tt) (te := te) (vs := vs) (ρ := ρ) (fun i acc T => T = S ∧ acc = ((as.take i).filter p).map out ∧ acc.length ≤ i) as.length
    (fun i acc T hi ⟨h1, h2, h3⟩ => by
      subst h1
      obtain ⟨ρ1, e1, e2, e3⟩ := h as[i] (List.getElem_mem hi)
      refine ⟨enc as[i], by rw [hat]; simp [hi], ρ1, T, e1, p as[i], T, e2, ?_⟩
      cases hp : p as[i] with
      | true =>
        rw [if_pos rfl]
        refine ⟨by omega, out as[i], T, e3 hp, rfl, ?_, by simp; omega⟩
        rw [h2, List.take_succ_eq_append_getElem hi, List.filter_append, List.map_append]
        simp [hp]
      | false =>
        rw [if_neg (by simp)]
        refine ⟨rfl, ?_, by omega⟩
        rw [h2, List.take_succ_eq_append_getElem hi, List.filter_append, List.map_append]
        simp [hp])
    (fun acc T ⟨h1, _, _⟩ => by subst h1; rw [hat, List.getElem?_eq_none (by simp)]) m 0 [] S (by omega) (by omega) ⟨rfl, by simp, by simp⟩
  subst h1 h2
  rw [e, List.take_length]
theorem lc_encA {α : Type} {src : Src} {gt : SG} {te : SE} {vs : List Nat} {ρ : VS.Env} {S : Store} (as : List α) (enc out : α → D)
    (hat : ∀ i, src.at S i = some ((as.map enc)[i]?)) (hsz : as.length < sizeLine)
    (h : ∀ a ∈ as, ∃ ρ1, gt (enc a) (wipeE ρ vs) S = .ok ρ1 S ∧ te ρ1 S = .ok (out a) S) {m : Nat} (hm : as.length < m) : lcS src gt tAll te vs ρ m 0 [] S = .ok (as.map out) S := by
  rw [lc_enc (tt := tAll) as enc out (fun _ => true) hat hsz (fun a ha => let ⟨ρ1, a1, a2⟩ := h a ha; ⟨ρ1, a1, rfl, fun _ => a2⟩) hm, List.filter_eq_self.mpr fun _ _ => rfl]
/-- what walks over a row, a tuple or a list, is its items -/
def SrcOf (S : Store) (src : Src) (xs : List D) : Prop := (∀ i, src.at S i = some xs[i]?) ∧ src.len S = xs.length
theorem src_of_tup (xs : List D) (S : Store) : SrcOf S (.tup xs) xs := ⟨fun i => rfl, rfl⟩
theorem src_of_seq {d : D} {xs : List D} {S : Store} (h : lookL S d = some xs) : SrcOf S (.seq d) xs := ⟨fun i => by simp [Src.at, h], by simp [Src.len, h]⟩
theorem all_bools {α : Type} (as : List α) (f : α → Bool) (S : Store) : allD [.lst (as.map fun d => D.bl (f d))] S = .ok (.bl (as.all f)) S := by
  rw [all_lst (bs := as.map f) (by rw [← boolsOf_map, List.map_map]; rfl)]
  simp [List.all_map]
theorem sum_ints (v : List Int) (S : Store) : sumD [.lst (row v)] S = .ok (.int v.sum) S := by
  have : intsOf (row v) = some v := by
    induction v with
    | nil => rfl
    | cons c v ih => simp [intsOf, ih]
  simp [sumD, this]
@[simp] theorem star_e (f : SE) (fs : SA) (ρ : VS.Env) (S : Store) : aStar f fs ρ S = (f ρ S).bind fun d S1 => match lookT d with
  | some xs => (fs ρ S1).bind fun ds S2 => .ok (xs ++ ds) S2
  | none => match lookL S1 d with
    | some xs => (fs ρ S1).bind fun ds S2 => .ok (xs ++ ds) S2
    | none => .bad := rfl
theorem cut_snoc (T : Store) (c : Cell) (d : D) (h : d.und T.length = true) (h2 : T.all (Cell.und T.length) = true) : cut T.length d (T ++ [c]) = .ok d T := by
  unfold cut
  rw [if_neg (by simp), if_pos ⟨by simp, h, by simpa using h2⟩]
  simp
mutual
/-- data without cells -/
def noCel : D → Bool
  | .cel _ => false
  | .lst xs => noCels xs
  | .tup xs => noCels xs
  | .scr xs => noCels xs
  | .ins _ _ => false
  | .exc _ _ => false
  | .dic _ => false
  | .clo _ _ _ _ _ => false
  | _ => true
def noCels : List D → Bool
  | [] => true
  | d :: ds => noCel d && noCels ds
end
mutual
theorem und_no (n : Nat) : ∀ (d : D), noCel d = true → d.und n = true
  | .non, _ => rfl
  | .bl _, _ => rfl
  | .int _, _ => rfl
  | .str _, _ => rfl
  | .ty _, _ => rfl
  | .cls _, _ => rfl
  | .lst xs, h => by
    show undL n xs = true
    exact und_nos n xs (by simpa [noCel] using h)
  | .tup xs, h => by
    show undL n xs = true
    exact und_nos n xs (by simpa [noCel] using h)
  | .scr xs, h => by
    show undL n xs = true
    exact und_nos n xs (by simpa [noCel] using h)
  | .cel _, h => by simp [noCel] at h
  | .ins _ _, h => by simp [noCel] at h
  | .exc _ _, h => by simp [noCel] at h
  | .dic _, h => by simp [noCel] at h
  | .clo _ _ _ _ _, h => by simp [noCel] at h
theorem und_nos (n : Nat) : ∀ (ds : List D), noCels ds = true → undL n ds = true
  | [], _ => rfl
  | d :: ds, h => by
    simp only [noCels, Bool.and_eq_true] at h
    show (d.und n && undL n ds) = true
    rw [und_no n d h.1, und_nos n ds h.2]
    rfl
end
theorem no_row (v : List Int) : noCels (row v) = true := by
  induction v with
  | nil => simp [noCels]
  | cons c v ih => simp [noCels, noCel, ih]
theorem pen_und {N : Nat} {p : Cell} (n : Nat) (hp : IsPen N p) : Cell.und n p = true := by
  obtain ⟨sc, a, c, rfl, _, _⟩ := hp
  show undL n [.lst (row sc), .int a, .int c] = true
  exact und_nos n _ (by simp [noCels, noCel, no_row])
@[simp] theorem lookT_ty (t : BT) : lookT (.ty t) = none := rfl
@[simp] theorem lookT_cls (c : Nat) : lookT (.cls c) = none := rfl
@[simp] theorem lookT_non : lookT .non = none := rfl
@[simp] theorem lookT_bl (b : Bool) : lookT (.bl b) = none := rfl
@[simp] theorem lookT_int (i : Int) : lookT (.int i) = none := rfl
@[simp] theorem lookT_str (x : Str) : lookT (.str x) = none := rfl
@[simp] theorem lookT_dic (x : List (Key × D)) : lookT (.dic x) = none := rfl
section
variable {sub : Nat → Nat → Bool} {S : Store} {t : BT}
@[simp] theorem isi_non : isiD sub [.non, .ty t] S = .ok (.bl (VS.subB .non t)) S := rfl
@[simp] theorem isi_bl (b : Bool) : isiD sub [.bl b, .ty t] S = .ok (.bl (VS.subB .bl t)) S := rfl
@[simp] theorem isi_int (i : Int) : isiD sub [.int i, .ty t] S = .ok (.bl (VS.subB .int t)) S := rfl
@[simp] theorem isi_str (x : Str) : isiD sub [.str x, .ty t] S = .ok (.bl (VS.subB .str t)) S := rfl
@[simp] theorem isi_lst (x : List D) : isiD sub [.lst x, .ty t] S = .ok (.bl (VS.subB .lst t)) S := rfl
@[simp] theorem isi_scr (x : List D) : isiD sub [.scr x, .ty t] S = .ok (.bl (VS.subB .lst t)) S := rfl
@[simp] theorem isi_tup (x : List D) : isiD sub [.tup x, .ty t] S = .ok (.bl (VS.subB .tup t)) S := rfl
@[simp] theorem isi_dic (x : List (Key × D)) : isiD sub [.dic x, .ty t] S = .ok (.bl (VS.subB .dic t)) S := rfl
@[simp] theorem isi_exc (c k : Nat) (fs : List (Str × D)) : isiD sub [.exc c fs, .cls k] S = .ok (.bl (sub c k)) S := rfl
end
@[simp] theorem subB_int_int : VS.subB .int .int = true := rfl
@[simp] theorem subB_bl_int : VS.subB .bl .int = true := rfl
@[simp] theorem subB_int_bl : VS.subB .int .bl = false := rfl
@[simp] theorem subB_self (t : BT) : VS.subB t t = true := by cases t <;> rfl
theorem cut_from (xs : List D) (i : Nat) (h : i ≤ xs.length) : VS.cutD xs (some (i : Int)) none = xs.drop i := by
  have e : HT.sIx xs.length 0 (some (i : Int)) = i := by
    have := HT.sIx_nat xs.length 0 i
    simpa [Nat.min_eq_left h] using this
  unfold VS.cutD
  rw [e, HT.sIx_none, List.take_of_length_le (by simp)]
theorem cut_to (xs : List D) (i : Nat) (h : i ≤ xs.length) : VS.cutD xs none (some (i : Int)) = xs.take i := by
  have e : HT.sIx xs.length xs.length (some (i : Int)) = i := by
    have := HT.sIx_nat xs.length xs.length i
    simpa [Nat.min_eq_left h] using this
  unfold VS.cutD
  rw [e, HT.sIx_none]
  simp
theorem sl_from (xs : List D) (i : Nat) (h : i ≤ xs.length) (S : Store) : slD (.lst xs) (some (i : Int)) none S = .ok (.lst (xs.drop i)) S := by
  show (match lookL S (.lst xs) with | some ys => R.ok (D.lst (VS.cutD ys _ _)) S | none => .bad) = _
  simp only [lookL_lst, cut_from xs i h]
theorem sl_to (xs : List D) (i : Nat) (h : i ≤ xs.length) (S : Store) : slD (.lst xs) none (some (i : Int)) S = .ok (.lst (xs.take i)) S := by
  show (match lookL S (.lst xs) with | some ys => R.ok (D.lst (VS.cutD ys _ _)) S | none => .bad) = _
  simp only [lookL_lst, cut_to xs i h]
end VS
end
section
set_option Elab.async false
set_option linter.all false
set_option maxRecDepth 100000
set_option maxHeartbeats 4000000
/-! VS: for plain laws: the last cell of the store -/
namespace VS
open PySem PySem.Spec PyProof.Rows L2
@[simp] theorem get_last (S : Store) (c : Cell) : (S ++ [c])[S.length]? = some c := by simp
@[simp] theorem set_last (S : Store) (c c' : Cell) : (S ++ [c]).set S.length c' = S ++ [c'] := by
  rw [List.set_append_right _ _ (Nat.le_refl _)]
  simp
theorem app_last (S : Store) (xs : List D) (d : D) (h : xs.length < sizeLine) : appendD (.cel S.length) [d] (S ++ [.lst xs]) = .ok .non (S ++ [.lst (xs ++ [d])]) := by
  show (match (S ++ [Cell.lst xs])[S.length]? with | some (.lst ys) => if ys.length < sizeLine then R.ok D.non ((S ++ [Cell.lst xs]).set S.length (.lst (ys ++ [d]))) else .bad | _ => .bad) = _
  rw [get_last]
  simp only [h, if_true, set_last]
theorem isL_last (S : Store) (xs : List D) : isListD (S ++ [.lst xs]) (.cel S.length) = true := by
  simp [isListD, lookL]
theorem look_last (S : Store) (xs : List D) : lookL (S ++ [.lst xs]) (.cel S.length) = some xs := by
  simp [lookL]
theorem tup_last (S : Store) (xs : List D) : tupleD [.cel S.length] (S ++ [.lst xs]) = .ok (.tup xs) (S ++ [.lst xs]) := by
  show (match lookT (.cel S.length) with | some ys => R.ok (D.tup ys) (S ++ [Cell.lst xs]) | none => match lookL (S ++ [Cell.lst xs]) (.cel S.length) with | some ys => R.ok (D.tup ys) (S ++ [Cell.lst xs]) | none => .bad) = _
  rw [look_last]
  rfl
theorem go_last (S : Store) (xs : List D) (ρ : VS.Env) (i : Nat) (h : ρ[i]? = some (some (.cel S.length))) : sGo i ρ (S ++ [.lst xs]) = .ok (.lst xs) (S ++ [.dead]) := by
  unfold sGo
  rw [h]
  simp only [get_last, set_last]
/-- a store whose cells know none beyond -/
def Own (S : Store) : Prop := S.all (Cell.und S.length) = true
theorem own_pen {N : Nat} {p : Cell} (hp : IsPen N p) : Own [p] := by
  simp [Own, pen_und _ hp]
theorem cut_last {S : Store} (h : Own S) (c : Cell) (d : D) (hd : noCel d = true) : cut S.length d (S ++ [c]) = .ok d S := cut_snoc S c d (und_no _ d hd) h
@[simp] theorem no_tup (xs : List D) : noCel (.tup xs) = noCels xs := by simp [noCel]
@[simp] theorem no_lst (xs : List D) : noCel (.lst xs) = noCels xs := by simp [noCel]
end VS
end
section
set_option Elab.async false
set_option linter.all false
set_option maxRecDepth 100000
set_option maxHeartbeats 4000000
/-! VS: texts: walked, joined, sought in; chains of comparisons -/
namespace VS
open PySem PySem.Spec PyProof.Rows L2
section
variable {X : Cx} {cm : CM} {W : WX} {a b c e o tg : Expr} {es : List Expr} {p pos apos cpos : Pos} {fa fb fc fe : SE}
/-! ### chains -/
def sChain (o o' : D → D → Store → R D) (fa fb fc : SE) : SE := fun ρ S => (fa ρ S).bind fun a S1 => (fb ρ S1).bind fun b S2 => (o a b S2).bind fun z S3 => match z with
  | .bl k => if k = true then (fc ρ S3).bind fun c S4 => o' b c S4 else .ok (.bl false) S3
  | _ => .bad
@[simp] theorem chain_e (o o' : D → D → Store → R D) (fa fb fc : SE) (ρ : VS.Env) (S : Store) : sChain o o' fa fb fc ρ S = (fa ρ S).bind fun a S1 => (fb ρ S1).bind fun b S2 => (o a b S2).bind fun z S3 => match z with
  | .bl k => if k = true then (fc ρ S3).bind fun c S4 => o' b c S4 else .ok (.bl false) S3
  | _ => .bad := rfl
theorem chain_step {r r' : R2} {f f' : D → D → Store → R D} (hd : OpD X cm r f) (hd' : OpD X cm r' f') {σ : L2.St} {H : Hp} {Q : VK} (q : tE X.K cm W (sChain f f' fa fb fc) σ H Q) : tChain r r' (tE X.K cm W fa) (tE X.K cm W fb) (tE X.K cm W fc) σ H Q := by
  obtain ⟨g, ρ, rl, de, q⟩ := q
  refine ⟨g, ρ, rl, de, RP.mono (RP.step q) fun x H1 ⟨d, g1, e1, rl1, dn, q1⟩ => ?_⟩
  refine ⟨g1, ρ, rl1, e1.denE de, RP.mono (RP.step q1) fun y H2 ⟨d2, g2, e2, rl2, dn2, q2⟩ => ?_⟩
  refine hd (fun c d H' => W c d σ H') g2 H2 x y d d2 _ rl2 (e2.den dn) dn2 (RP.mono (RP.step q2) fun z H3 ⟨dz, g3, e3, rl3, dnz, q3⟩ => ?_)
  have hz : ∃ k, dz = .bl k := by
    cases dz <;> first | exact q3.elim | exact ⟨_, rfl⟩
  obtain ⟨k, rfl⟩ := hz
  cases dnz
  refine ⟨k, rfl, ?_⟩
  cases k with
  | true =>
    exact ⟨g3, ρ, rl3, e3.denE (e2.denE (e1.denE de)), RP.mono (RP.step q3) fun w' H4 ⟨d4, g4, e4, rl4, dn4, q4⟩ => hd' _ g4 H4 y w' d2 d4 Q rl4 (e4.den (e3.den dn2)) dn4 q4⟩
  | false => exact RP.ret q3 rl3 (.bl false)
theorem ve_chain {op op' : CmpOp} {r r' : R2} {f f' : D → D → Store → R D} (ho : OpR X (compareOp op) r) (ho' : OpR X (compareOp op') r') (hd : OpD X cm r f) (hd' : OpD X cm r' f') (ha : VE X cm W a fa) (hb : VE X cm W b fb) (hc : VE X cm W c fc)
    (hm : lastMarks [op, op'] [b, c] = false := by with_unfolding_all rfl) : VE X cm W (.Compare a [op, op'] [b, c] pos) (sChain f f' fa fb fc) :=
  PE.imp (pe_chain ho ho' ha hb hc hm) fun _ _ _ q => chain_step hd hd' q
/-- a test's answer as a truth value -/
theorem tru_of {g : G} {H : Hp} {r : R D} {W' : Value → Option Addr → Hp → Prop} {Q : Bool → Hp → Prop} (hb : ∀ d S, r = .ok d S → ∃ k, d = .bl k) (q : RP X.K cm eqB W' g H (r.bind truR) Q) : RP X.K cm (Den X.K cm) W' g H r (fun x H' => ∃ k, x = V.bl k ∧ Q k H') := by
  cases hr : r with
  | ok d S' =>
    obtain ⟨k, rfl⟩ := hb d S' hr
    rw [hr] at q
    intro g' H' v ex rl' es' dn
    cases dn
    exact ⟨k, rfl, q g' H' k ex rl' es' rfl⟩
  | exc x S' =>
    rw [hr] at q
    exact q
  | bad =>
    rw [hr] at q
    exact q
theorem chain_bl {f f' : D → D → Store → R D} (h' : BlD f') {ρ : VS.Env} {S : Store} {d : D} {S' : Store} (h : sChain f f' fa fb fc ρ S = .ok d S') : ∃ k, d = .bl k := by
  unfold sChain at h
  cases h1 : fa ρ S with
  | bad => rw [h1] at h; cases h
  | exc x T => rw [h1] at h; cases h
  | ok d1 S1 =>
    rw [h1, bind_ok] at h
    cases h2 : fb ρ S1 with
    | bad => rw [h2] at h; cases h
    | exc x T => rw [h2] at h; cases h
    | ok d2 S2 =>
      rw [h2, bind_ok] at h
      cases h3 : f d1 d2 S2 with
      | bad => rw [h3] at h; cases h
      | exc x T => rw [h3] at h; cases h
      | ok d3 S3 =>
        rw [h3, bind_ok] at h
        split at h
        · split at h
          · cases h4 : fc ρ S3 with
            | bad => rw [h4] at h; cases h
            | exc x T => rw [h4] at h; cases h
            | ok d4 S4 =>
              rw [h4, bind_ok] at h
              exact h' _ _ _ _ _ h
          · cases h
            exact ⟨_, rfl⟩
        · cases h
theorem vt_chain {op op' : CmpOp} {r r' : R2} {f f' : D → D → Store → R D} (ho : OpR X (compareOp op) r) (ho' : OpR X (compareOp op') r') (hd : OpD X cm r f) (hd' : OpD X cm r' f') (hbl : BlD f') (ha : VE X cm W a fa) (hb : VE X cm W b fb) (hc : VE X cm W c fc)
    (hm : lastMarks [op, op'] [b, c] = false := by with_unfolding_all rfl) : VT X cm W (.Compare a [op, op'] [b, c] pos) (tTru (sChain f f' fa fb fc)) := by
  refine PT.imp (pt_chain ho ho' ha hb hc hm) fun σ H Q ⟨g, ρ, rl, de, q⟩ => ?_
  exact chain_step (W := W) hd hd' (Q := fun x H' => ∃ k, x = V.bl k ∧ Q k H') ⟨g, ρ, rl, de, tru_of (fun d S h => chain_bl hbl h) q⟩
/-! ### a text walked -/
theorem src_str {K : PySem.W.Frag} {g : G} {H : Hp} {x : Str} : SrcOk K cm g H (Its x) (.str x) where
  go := fun g' H' i d' e rl h => by
    have h := Option.some.inj h
    split at h
    · rename_i c hc
      exact (Array.getElem?_eq_some_iff.mp hc).1
    · cases h
  yld := fun g' H' i d' y H'' e rl h q => by
    have h := Option.some.inj h
    obtain ⟨e1, c, e2, e3⟩ := q
    subst e1 e3
    rw [e2] at h
    cases h
    exact ⟨g', Ext.refl _ _, rl, rfl, .str _⟩
  stop := fun g' H' i e rl h => by
    have h := Option.some.inj h
    split at h
    · cases h
    · rename_i z
      exact Array.getElem?_eq_none_iff.mp z
def iStrO (fe : SE) : SI := fun ρ S => (fe ρ S).bind fun d S1 => match d with
  | .str x => .ok (.str x) S1
  | _ => .bad
@[simp] theorem istr_e (f : SE) (ρ : VS.Env) (S : Store) : iStrO f ρ S = (f ρ S).bind fun d S1 => match d with | .str x => .ok (.str x) S1 | _ => .bad := rfl
theorem vi_str (he : VE X cm W e fe) : VI X cm W tg e (iStrO fe) := by
  refine PI.imp (pi_str he) fun σ H Q ⟨g, ρ, rl, de, q⟩ => ⟨g, ρ, rl, de, RP.mono (IP.step q) fun v H1 ⟨d, g1, e1, rl1, dn, q1⟩ => ?_⟩
  have hd : ∃ x, d = .str x := by cases d <;> first | exact q1.elim | exact ⟨_, rfl⟩
  obtain ⟨x, rfl⟩ := hd
  cases dn
  exact ⟨x, rfl, IP.ret q1 rl1 src_str⟩
/-! ### methods of texts -/
def isStrD : D → Bool
  | .str _ => true
  | _ => false
def mStr (f : D → List D → Store → R D) (fo : SE) (fa : SA) : SE := fun ρ S => (fo ρ S).bind fun o S1 => if isStrD o = true then (fa ρ S1).bind fun ds S2 => f o ds S2 else .bad
@[simp] theorem ms_e (f : D → List D → Store → R D) (fo : SE) (fa : SA) (ρ : VS.Env) (S : Store) : mStr f fo fa ρ S = (fo ρ S).bind fun o S1 => if isStrD o = true then (fa ρ S1).bind fun ds S2 => f o ds S2 else .bad := rfl
@[simp] theorem isStrD_str (x : Str) : isStrD (.str x) = true := rfl
theorem ve_strM {id : String} {name : Str} {r : V → List V → Hp → VK → Prop} {f : D → List D → Store → R D} {fo : SE} {fa : SA} {e : Expr} (pa : PlainAttrs "str") (slot : Slot "str" name id) (hty : typeOf (.builtin id) = pure (.type "method_descriptor")) (hm : MtR X id r) (hd : MethD X cm r f) (ho : VE X cm W o fo) (ha : VA X cm W (e :: es) fa)
    (hbase : attributeBase o name X.env (eval o X.env) = eval o X.env := by rfl)
    (hfew : ((backTo cpos (starEach (e :: es) X.env)).all (fun x => !x.1) && (backToKw cpos (keywordEach [] X.env)).all (fun x => x.1.isSome)
      && decide ((e :: es).length + ([] : List Keyword).length + (if ([] : List Keyword).isEmpty then 0 else 1) < 30)) = true := by rfl)
    (hline : (apos.endLine == cpos.line) = true := by rfl) (hs : starEach (e :: es) X.env = (false, eval e X.env) :: starEach es X.env := by rfl) (hplain : (backTo cpos (starEach es X.env)).any (·.1) = false := by rfl) :
    VE X cm W (.Call (.Attribute o name apos) (e :: es) [] cpos) (mStr f fo fa) := by
  refine PE.imp (pe_bm pa slot hty hm ho ha hbase hfew hline hs hplain) fun σ H Q ⟨g, ρ, rl, de, q⟩ => ⟨g, ρ, rl, de, RP.mono (RP.step q) fun x H1 ⟨d, g1, e1, rl1, dn, q1⟩ => ?_⟩
  split at q1
  · rename_i hl
    have hx : ∃ z, d = .str z := by cases d <;> first | exact ⟨_, rfl⟩ | cases hl
    obtain ⟨z, rfl⟩ := hx
    cases dn
    refine ⟨rfl, g1, ρ, rl1, e1.denE de, RP.mono (RP.step q1) fun ys H2 ⟨ds, g2, e2, rl2, dl, q2⟩ => ?_⟩
    exact hd _ g2 H2 _ _ ys ds Q rl2 (.str _) dl q2
  · exact q1.elim
def strsOf : List D → Option (List Str)
  | [] => some []
  | .str x :: ds => (strsOf ds).map (x :: ·)
  | _ => none
theorem strsOf_V {K : PySem.W.Frag} {g : G} : ∀ {vs : List V} {ds : List D} {xs : List Str}, DenL K cm g vs ds → strsOf ds = some xs → vs = xs.map V.str
  | _, _, _, .nil, e => by cases e; rfl
  | _, _, xs, .cons (d := d) (ds := ds) h t, e => by
    have hb : ∃ b, d = .str b := by cases d <;> first | cases e | exact ⟨_, rfl⟩
    obtain ⟨b, rfl⟩ := hb
    obtain ⟨xs', h1, rfl⟩ := Option.map_eq_some_iff.mp (show (strsOf ds).map (b :: ·) = some xs from e)
    cases h
    rw [strsOf_V t h1]
    rfl
def joinD (o : D) (ds : List D) (S : Store) : R D := match o, ds with
  | .str a, [d] => match (lookS S d).bind strsOf with
    | some ys => if (ys.map (·.length)).sum + ys.length * a.length ≤ 16777216 then .ok (.str (Txt.join a ys)) S else .bad
    | none => .bad
  | _, _ => .bad
theorem joinD_ok : MethD X cm (fun x xs H Q => ∃ a p, ∃ ys : List Str, x = .str a ∧ xs = [.ref p] ∧ (SqL X.K H p (ys.map V.str) ∨ SqT X.K H p (ys.map V.str)) ∧ (ys.map (·.length)).sum + ys.length * a.length ≤ 16777216 ∧ Q (.str (Txt.join a ys)) H) joinD := by
  intro W g H x d xs ds Q rl dn dl q
  unfold joinD at q
  split at q
  · rename_i a d'
    cases dn
    obtain ⟨y, rfl, dy⟩ := one_of (α := Unit) dl
    cases hl : lookS g.S d' with
    | none =>
      simp only [hl, Option.bind_none] at q
      exact q.elim
    | some zs =>
      simp only [hl, Option.bind_some] at q
      split at q
      · rename_i ys hy
        split at q
        · rename_i hz
          obtain ⟨p, vs, rfl, h1, h2⟩ := dy.lookS rl hl
          have := strsOf_V h2 hy
          subst this
          exact ⟨a, p, ys, rfl, rfl, h1, hz, RP.ret q rl (.str _)⟩
        · exact q.elim
      · exact q.elim
  · exact q.elim
def findD (o : D) (ds : List D) (S : Store) : R D := match o, ds with
  | .str a, [.str b, .int i, .int j] => .ok (.int (Txt.findIn a b i j)) S
  | _, _ => .bad
theorem three_of {K : PySem.W.Frag} {g : G} {xs : List V} {d e f : D} (h : DenL K cm g xs [d, e, f]) : ∃ x y z, xs = [x, y, z] ∧ Den K cm g x d ∧ Den K cm g y e ∧ Den K cm g z f := by
  cases h with
  | cons h1 t =>
    obtain ⟨y, z, rfl, h2, h3⟩ := two_of t
    exact ⟨_, y, z, rfl, h1, h2, h3⟩
theorem findD_ok : MethD X cm (fun x xs H Q => ∃ (a b : Str) (i j : Int), x = .str a ∧ xs = [.str b, .int i, .int j] ∧ Q (.int (Txt.findIn a b i j)) H) findD := by
  intro W g H x d xs ds Q rl dn dl q
  unfold findD at q
  split at q
  · rename_i a b i j
    cases dn
    obtain ⟨x, y, z, rfl, h1, h2, h3⟩ := three_of dl
    cases h1
    cases h2
    cases h3
    exact ⟨a, b, i, j, rfl, rfl, RP.ret q rl (.int _)⟩
  · exact q.elim
theorem ve_join {fo : SE} {fa : SA} {e : Expr} (ho : VE X cm W o fo) (ha : VA X cm W [e] fa) (hbase : attributeBase o "join" X.env (eval o X.env) = eval o X.env := by rfl) (hline : (apos.endLine == cpos.line) = true := by rfl)
    (hfew : ((backTo cpos (starEach [e] X.env)).all (fun x => !x.1) && (backToKw cpos (keywordEach [] X.env)).all (fun x => x.1.isSome) && decide ([e].length + ([] : List Keyword).length + (if ([] : List Keyword).isEmpty then 0 else 1) < 30)) = true := by rfl)
    (hs : starEach [e] X.env = (false, eval e X.env) :: starEach [] X.env := by rfl) (hplain : (backTo cpos (starEach [] X.env)).any (·.1) = false := by rfl) : VE X cm W (.Call (.Attribute o "join" apos) [e] [] cpos) (mStr joinD fo fa) :=
  ve_strM PySem.F.plainAttrs_str PySem.F.slot_str_join PySem.F.type_str_join mt_join joinD_ok ho ha hbase hfew hline hs hplain
theorem ve_find4 {fo : SE} {fa : SA} {e e2 e3 : Expr} (ho : VE X cm W o fo) (ha : VA X cm W [e, e2, e3] fa) (hbase : attributeBase o "find" X.env (eval o X.env) = eval o X.env := by rfl) (hline : (apos.endLine == cpos.line) = true := by rfl)
    (hfew : ((backTo cpos (starEach [e, e2, e3] X.env)).all (fun x => !x.1) && (backToKw cpos (keywordEach [] X.env)).all (fun x => x.1.isSome) && decide ([e, e2, e3].length + ([] : List Keyword).length + (if ([] : List Keyword).isEmpty then 0 else 1) < 30)) = true := by rfl)
    (hs : starEach [e, e2, e3] X.env = (false, eval e X.env) :: starEach [e2, e3] X.env := by rfl) (hplain : (backTo cpos (starEach [e2, e3] X.env)).any (·.1) = false := by rfl) : VE X cm W (.Call (.Attribute o "find" apos) [e, e2, e3] [] cpos) (mStr findD fo fa) :=
  ve_strM PySem.F.plainAttrs_str PySem.F.slot_str_find PySem.F.type_str_find mt_find4 findD_ok ho ha hbase hfew hline hs hplain
/-! ### xs[::-1] -/
def fRev (f : SE) : SF := fun ρ S => (f ρ S).bind fun d S1 => match lookL S1 d with
  | some xs => .ok xs.reverse S1
  | none => .bad
@[simp] theorem frev_e (f : SE) (ρ : VS.Env) (S : Store) : fRev f ρ S = (f ρ S).bind fun d S1 => match lookL S1 d with | some xs => .ok xs.reverse S1 | none => .bad := rfl
theorem vf_rev {k : Nat} {p1 p2 p3 : Pos} (he : VE X cm W e fe) : VF X cm W (.Subscript e (.Slice none none (some (.UnaryOp .USub (.Constant (.int 1) k p1) p2)) p3) pos) (fRev fe) := by
  refine PE.imp (pe_revL he) fun σ H Q ⟨g, ρ, rl, de, q⟩ => ⟨g, ρ, rl, de, RP.mono (FP.step q) fun v H1 ⟨d, g1, e1, rl1, dn, q1⟩ => ?_⟩
  split at q1
  · rename_i xs hx
    obtain ⟨a, vs, rfl, h1, h2⟩ := dn.lookL rl1 hx
    exact ⟨a, vs, rfl, h1, fun p hp => FP.new q1 rl1 h2.reverse hp⟩
  · exact q1.elim
/-! ### a sign in a text -/
def inSg (a b : D) (S : Store) : R D := match a, b with
  | .str x, .str z => match x.cps.toList with
    | [c] => .ok (.bl (decide (c ∈ z.cps.toList))) S
    | _ => .bad
  | _, _ => .bad
theorem inSg_ok : OpD X cm (fun x y H Q => ∃ (c : Nat) (z : Str), x = .str ⟨#[c]⟩ ∧ y = .str z ∧ Q (.bl (decide (c ∈ z.cps.toList))) H) inSg := by
  intro W g H x y a b Q rl da db q
  unfold inSg at q
  split at q
  · rename_i x z
    cases da
    cases db
    split at q
    · rename_i c hc
      have : x = ⟨#[c]⟩ := by
        cases x with
        | mk cps =>
          congr 1
          exact Array.toList_inj.mp hc
      subst this
      exact ⟨c, z, rfl, rfl, RP.ret q rl (.bl _)⟩
    · exact q.elim
  · exact q.elim
def inA (a b : D) (S : Store) : R D := if isStrD b = true then inSg a b S else inSq false a b S
theorem inA_ok : OpD X cm (fun x y H Q => (∃ (c : Nat) (z : Str), x = .str ⟨#[c]⟩ ∧ y = .str z ∧ Q (.bl (decide (c ∈ z.cps.toList))) H) ∨ rIn X.K false x y H Q) inA := OpD.or (p := fun _ b _ => isStrD b) inSg_ok (inSq_ok false)
theorem op_inA : OpR X (compareOp .In) (fun x y H Q => (∃ (c : Nat) (z : Str), x = .str ⟨#[c]⟩ ∧ y = .str z ∧ Q (.bl (decide (c ∈ z.cps.toList))) H) ∨ rIn X.K false x y H Q) := op_in_sign.or op_in_seq
theorem inA_bl : BlD inA := fun a b S d S' h => by
  unfold inA at h
  split at h
  · unfold inSg at h
    split at h
    · split at h
      · cases h
        exact ⟨_, rfl⟩
      · cases h
    · cases h
  · exact inSq_bl a b S d S' h
/-! ### a text so many times -/
def rMulS : R2 := fun x y H Q => ∃ (z : Str) (k : Int), x = .str z ∧ y = .int k ∧ -(2 ^ 63) ≤ k ∧ k < 2 ^ 63 ∧ z.length * k.toNat ≤ 1000000 ∧ Q (.str ⟨(List.replicate k.toNat z.cps.toList).flatten.toArray⟩) H
theorem fold_app : ∀ (l : List (Array Nat)) (a : Array Nat), (l.foldl (· ++ ·) a).toList = a.toList ++ (l.map Array.toList).flatten
  | [], a => by simp
  | x :: l, a => by
    rw [List.foldl_cons, fold_app l (a ++ x)]
    simp
theorem rep_str (z : Str) (n : Nat) : (⟨(List.replicate n z.cps).foldl (· ++ ·) #[]⟩ : Str) = ⟨(List.replicate n z.cps.toList).flatten.toArray⟩ := by
  congr 1
  apply Array.toList_inj.mp
  rw [fold_app]
  simp
theorem op_mulS : OpR X (binaryOp .Mult) rMulS := by
  intro pins s σ H x y v u Q I rx ry h
  obtain ⟨z, k, rfl, rfl, h1, h2, hz, q⟩ := h
  obtain ⟨t, rfl⟩ := rx
  obtain ⟨t', rfl⟩ := ry
  have hb : (2 : Int) ^ 63 = 9223372036854775808 := by decide
  refine PySem.P.mul_str (by rw [decide_eq_false (by omega), decide_eq_false (by omega)]; rfl) (fun k1 k2 hk => ?_) (fun k1 k2 => ?_) ?_
  · have hk1 : (1 : Int) ≤ k := by omega
    have hl : (z.length : Int) * k ≤ 1000000 := by
      have : ((z.length * k.toNat : Nat) : Int) ≤ 1000000 := by omega
      rw [Int.natCast_mul, Int.toNat_of_nonneg (by omega)] at this
      exact this
    have h3 : (2 ^ 63 - 1) / k * k ≤ 2 ^ 63 - 1 := Int.ediv_mul_le _ (by omega)
    have h4 : ((2 ^ 63 - 1) / k + 1) * k > 2 ^ 63 - 1 := Int.lt_ediv_add_one_mul_self _ (by omega)
    have h5 : ((2 ^ 63 - 1) / k + 1) * k ≤ (z.length : Int) * k := Int.mul_le_mul_of_nonneg_right (by omega) (by omega)
    omega
  · have : z.length * k.toNat < sizeLine := Nat.lt_of_le_of_lt hz (by decide)
    unfold Builtin.Str.tooLong
    simp
    omega
  · by_cases k1 : k < 1
    · rw [if_pos k1]
      have hk : k.toNat = 0 := by omega
      rw [hk] at q
      exact ⟨by decide, ⟨.str _, H, I.tok _, ⟨_, rfl⟩, q⟩⟩
    · rw [if_neg k1]
      split
      · rename_i h3
        have : (⟨(List.replicate k.toNat z.cps.toList).flatten.toArray⟩ : Str) = z := by
          simp only [Bool.or_eq_true, beq_iff_eq] at h3
          rcases h3 with h3 | h3
          · subst h3
            simp
          · have : z.cps.toList = [] := by
              apply List.eq_nil_of_length_eq_zero
              simpa [Str.length] using h3
            cases z with
            | mk cps =>
              simp only at this
              rw [this]
              congr 1
              apply Array.toList_inj.mp
              rw [this]
              simp
        rw [this] at q
        exact ⟨.str _, H, I, ⟨_, rfl⟩, q⟩
      · rw [rep_str]
        refine ⟨?_, ⟨.str _, H, I.tok _, ⟨_, rfl⟩, q⟩⟩
        have e : (⟨(List.replicate k.toNat z.cps.toList).flatten.toArray⟩ : Str).length = z.length * k.toNat := by
          simp [Str.length, Nat.mul_comm]
        rw [e]
        exact Nat.le_of_lt (Nat.lt_of_le_of_lt hz (by decide))
/-- all products -/
def mulA (a b : D) (S : Store) : R D := match a, b with
  | .str z, .int k => if -(2 ^ 63) ≤ k ∧ k < 2 ^ 63 ∧ z.length * k.toNat ≤ 1000000 then .ok (.str ⟨(List.replicate k.toNat z.cps.toList).flatten.toArray⟩) S else .bad
  | a, b => mulD a b S
theorem op_mulA : OpR X (binaryOp .Mult) (fun x y H Q => rMulS x y H Q ∨ rMuls x y H Q) := op_mulS.or op_muls
theorem mulA_ok : OpD X cm (fun x y H Q => rMulS x y H Q ∨ rMuls x y H Q) mulA := by
  intro W g H x y a b Q rl da db q
  unfold mulA at q
  split at q
  · rename_i z k
    cases da
    cases db
    split at q
    · rename_i h
      exact .inl ⟨z, k, rfl, rfl, h.1, h.2.1, h.2.2, RP.ret q rl (.str _)⟩
    · exact q.elim
  · exact .inr (mulD_ok W g H x y _ _ Q rl da db q)
/-! ### max, min of two, str of a whole number -/
def maxD (ds : List D) (S : Store) : R D := match ds with
  | [.int i, .int j] => .ok (.int (if j > i then j else i)) S
  | _ => .bad
def minD (ds : List D) (S : Store) : R D := match ds with
  | [.int i, .int j] => .ok (.int (if j < i then j else i)) S
  | _ => .bad
def strI (ds : List D) (S : Store) : R D := match ds with
  | [.int i] => if i.natAbs.log2 < 1920 then .ok (.str (toString i)) S else .bad
  | _ => .bad
theorem maxD_ok : CallD X cm (fun xs H Q => ∃ i j, xs = [.int i, .int j] ∧ Q (.int (if j > i then j else i)) H) maxD := by
  intro W g H xs ds Q rl dl q
  unfold maxD at q
  split at q
  · obtain ⟨x, y, rfl, h1, h2⟩ := two_of dl
    cases h1
    cases h2
    exact ⟨_, _, rfl, RP.ret q rl (.int _)⟩
  · exact q.elim
theorem minD_ok : CallD X cm (fun xs H Q => ∃ i j, xs = [.int i, .int j] ∧ Q (.int (if j < i then j else i)) H) minD := by
  intro W g H xs ds Q rl dl q
  unfold minD at q
  split at q
  · obtain ⟨x, y, rfl, h1, h2⟩ := two_of dl
    cases h1
    cases h2
    exact ⟨_, _, rfl, RP.ret q rl (.int _)⟩
  · exact q.elim
theorem strI_ok : CallD X cm (fun xs H Q => ∃ i, xs = [.int i] ∧ i.natAbs.log2 < 1920 ∧ Q (.str (toString i)) H) strI := by
  intro W g H xs ds Q rl dl q
  unfold strI at q
  split at q
  · obtain ⟨x, rfl, h1⟩ := one_of (α := Unit) dl
    cases h1
    split at q
    · rename_i h
      exact ⟨_, rfl, h, RP.ret q rl (.str _)⟩
    · exact q.elim
  · exact q.elim
end
/-! ### a list newly made of two -/
def fCat (fa fb : SE) : SF := fun ρ S => (fa ρ S).bind fun a S1 => (fb ρ S1).bind fun b S2 => match lookM S2 a, lookM S2 b with
  | some xs, some ys => if (xs ++ ys).length ≤ sizeLine then .ok (xs ++ ys) S2 else .bad
  | _, _ => .bad
@[simp] theorem fcat_e (fa fb : SE) (ρ : VS.Env) (S : Store) : fCat fa fb ρ S = (fa ρ S).bind fun a S1 => (fb ρ S1).bind fun b S2 => match lookM S2 a, lookM S2 b with
  | some xs, some ys => if (xs ++ ys).length ≤ sizeLine then .ok (xs ++ ys) S2 else .bad
  | _, _ => .bad := rfl
theorem vf_cat {X : Cx} {cm : CM} {W : WX} {a b : Expr} {pos : Pos} {fa fb : SE} (ha : VE X cm W a fa) (hb : VE X cm W b fb) : VF X cm W (.BinOp a .Add b pos) (fCat fa fb) := by
  refine PE.imp (pe_op op_cat ha hb) fun σ H Q ⟨g, ρ, rl, de, q⟩ => ?_
  refine ⟨g, ρ, rl, de, RP.mono (FP.step q) fun x H1 ⟨d, g1, e1, rl1, dn, q1⟩ => ?_⟩
  refine ⟨g1, ρ, rl1, e1.denE de, RP.mono (FP.step q1) fun y H2 ⟨d2, g2, e2, rl2, dn2, q2⟩ => ?_⟩
  have dn' := e2.den dn
  split at q2
  · rename_i xs ys h1 h2
    split at q2
    · rename_i hz
      obtain ⟨l, vs, rfl, k1, l1⟩ := dn'.lookM rl2 h1
      obtain ⟨m, ws, rfl, k2, l2⟩ := dn2.lookM rl2 h2
      exact ⟨l, m, vs, ws, rfl, rfl, k1, k2, by rw [l1.length, l2.length]; rw [List.length_append] at hz; exact hz, fun p hp => FP.new q2 rl2 (l1.append l2) hp⟩
    · exact q2.elim
  · exact q2.elim
/-! ### repr of None, too -/
def reprN (ds : List D) (S : Store) : R D := match ds with
  | [.non] => .ok (.str "None") S
  | ds => reprD ds S
def rReprN (cm : CM) (K : PySem.W.Frag) : List V → Hp → VK → Prop := fun xs H Q => (xs = [.non] ∧ Q (.str "None") H) ∨ rRepr cm K xs H Q
theorem call_reprN {X : Cx} {cm : CM} {k : Nat} (hg : X.A.guards = some []) (hr : Room k X.A) : CallR X (.builtin "repr") (rReprN cm X.K) := by
  refine CallR.or ?_ (call_reprG hg hr)
  intro pins s σ H xs us Q I r h
  obtain ⟨rfl, q⟩ := h
  obtain ⟨u1, rfl, r1⟩ := vals1 r
  cases (show u1 = Value.none from r1)
  exact PySem.P.repr_of_none ⟨.str _, H, I.tok _, ⟨_, rfl⟩, q⟩
theorem reprN_ok {X : Cx} {cm : CM} : CallD X cm (rReprN cm X.K) reprN := by
  intro W g H xs ds Q rl dl q
  unfold reprN at q
  split at q
  · obtain ⟨x, rfl, h1⟩ := one_of (α := Unit) dl
    cases h1
    exact .inl ⟨rfl, RP.ret q rl (.str _)⟩
  · exact .inr (reprD_ok W g H xs ds Q rl dl q)
end VS
end
section
set_option Elab.async false
set_option linter.all false
set_option maxRecDepth 100000
set_option maxHeartbeats 4000000
/-! VS: for plain laws: a second kind of draw; texts of bits -/
namespace VS
open PySem PySem.Spec PyProof.Rows L2
@[simp] theorem mulA_ii (i j : Int) (S : Store) : mulA (.int i) (.int j) S = mulD (.int i) (.int j) S := rfl
section
variable {sc : List Int} {at' c : Int} {T : Store} {v : D}
abbrev drawGreatA : SS := (sIte (tAndF (tTru (sBin ltD (sVar 3) (sCall lenD (aCons (sBin ixGet (sVar 0) (sC (.int 0))) aNil)))) (tTru (sBin geD (sCall absD (aCons (sVar 4) aNil)) (sBin powD (sC (.int 10)) (sC (.int 18)))))) (sSeq (sAsg (sBin addD (sBin mulA (sC (.int 2)) (sBin subD (sCall absD (aCons (sVar 4) aNil)) (sBin powD (sC (.int 10)) (sC (.int 18))))) (sCall intD (aCons (sBin ltD (sVar 4) (sC (.int 0))) aNil))) (gVar 2)) (sSeq (sAsg (sBin fdivD (sCall intD (aCons (sVar 2) aNil)) (sVar 1)) (gSubD (sVar 0) (sC (.int 2)))) (sRet (sBin modD (sCall intD (aCons (sVar 2) aNil)) (sVar 1))))) sSkip)
abbrev drawBA (C : DrawC) : SS := (sSeq (sIte (tTru (sBin gtD (sBin ixGet (sVar 0) (sC (.int 2))) (sC (.int 0)))) (sSeq (sAsg (sCall intD (aCons (sBin ixGet (sVar 0) (sC (.int 2))) aNil)) (gVar 2)) (sSeq (sAsg (sBin fdivD (sVar 2) (sVar 1)) (gSubD (sVar 0) (sC (.int 2)))) (sRet (sBin modD (sCall intD (aCons (sVar 2) aNil)) (sVar 1))))) sSkip) (sSeq (sAsg (sBin ixGet (sVar 0) (sC (.int 1))) (gVar 3)) (sSeq (sAsg (sBin addD (sVar 3) (sC (.int 1))) (gSubD (sVar 0) (sC (.int 1)))) (sSeq (sAsg (sBin addD (sBin mulA (sC (.int C.a)) (sVar 3)) (sC (.int C.b))) (gVar 4)) (sSeq (drawMid C) (sSeq drawGreatA (sSeq (sAsg (sBin modD (sCall intD (aCons (sBin powD (sBin addD (sBin addD (sBin modD (sCall intD (aCons (sVar 4) aNil)) (sC (.int C.m1))) (sBin mulA (sC (.int C.c)) (sVar 3))) (sC (.int C.d))) (sC (.int C.x))) aNil)) (sC (.int C.m2))) (gVar 5)) (sSeq (sAsg (sBin modD (sCall intD (aCons (sBin powD (sBin addD (sBin addD (sBin mulA (sVar 5) (sBin addD (sBin mulA (sC (.int 2)) (sVar 3)) (sC (.int C.e)))) (sBin mulA (sBin mulA (sC (.int C.f)) (sVar 3)) (sVar 3))) (sC (.int C.g))) (sC (.int C.y))) aNil)) (sC (.int C.m3))) (gVar 5)) (sRet (sBin modD (sCall intD (aCons (sBin fdivD (sVar 5) (sC (.int C.dv))) aNil)) (sVar 1)))))))))))
theorem drawBA_digit {C : DrawC} {many : Int} (h : 0 < many) (h2 : many.natAbs.log2 < 8000) (hc : 0 < c) : fin (T.length + 1) (drawBA C [some (.cel 0), some (.int many), none, none, none, none] (Pn sc at' c :: T)) = .ok (.int (c % many)) (Pn sc at' (c / many) :: T) := by
  unfold drawBA
  simp only [seqS_e, ite_e (t := tTru (sBin gtD (sBin ixGet (sVar 0) (sC (.int 2))) (sC (.int 0))))]
  simp [-seqS_e, -ite_e, pn2, hc]
  simp [-ite_e, pn2, mod_e h, fdiv_w h h2, setI_e, pst2]
theorem drawBA_e {C : DrawC} (O : C.Ok) {many : Int} (hm : 0 < many) (h2 : many.natAbs.log2 < 8000) (hc : ¬ 0 < c) (h0 : 0 ≤ at') (h1 : at' ≤ 1000000) : ∃ r c', 0 ≤ r ∧ r < many ∧ fin (T.length + 1) (drawBA C [some (.cel 0), some (.int many), none, none, none, none] (Pn sc at' c :: T)) = .ok (.int r) (Pn sc (at' + 1) c' :: T) := by
  obtain ⟨a1, a2⟩ := O.a
  obtain ⟨b1, b2⟩ := O.b
  obtain ⟨m11, m12⟩ := O.m1
  obtain ⟨c1, c2⟩ := O.c
  obtain ⟨d1, d2⟩ := O.d
  have x1 := O.x
  obtain ⟨m21, m22⟩ := O.m2
  obtain ⟨e1, e2⟩ := O.e
  obtain ⟨f1, f2⟩ := O.f
  obtain ⟨g1, g2⟩ := O.g
  have y1 := O.y
  obtain ⟨m31, m32⟩ := O.m3
  obtain ⟨v1, v2⟩ := O.dv
  obtain ⟨a, b, m1, cc, d, x, m2, e, f, g, y, m3, dv⟩ := C
  simp only at *
  unfold drawBA
  simp only [seqS_e, ite_e (t := tTru (sBin gtD (sBin ixGet (sVar 0) (sC (.int 2))) (sC (.int 0))))]
  simp [-seqS_e, -ite_e, pn2, hc]
  simp only [seqS_e, asg_e]
  simp [-seqS_e, -ite_e, pn1]
  simp only [seqS_e, setI_e]
  simp [-seqS_e, -ite_e, pst1]
  simp only [seqS_e, asg_e]
  simp [-seqS_e, -ite_e, mul_l (i := a) (by omega)]
  unfold drawMid
  simp only [seqS_e, ite_e (t := tTru (sBin neD (sBin ixGet (sVar 0) (sC (.int 0))) (immF (fLst aNil))))]
  simp [-seqS_e, -ite_e, pn0, ne_row]
  have hce : ∃ cell : Int, (if sc = [] then RS.nx [some (D.cel 0), some (D.int many), none, some (D.int at'), some (D.int (a * at' + b)), none] (Pn sc (at' + 1) c :: T)
      else RS.of [some (D.cel 0), some (D.int many), none, some (D.int at'), some (D.int (a * at' + b)), none]
        ((modD (D.int at') (D.int ((row sc).length : Int)) (Pn sc (at' + 1) c :: T)).bind fun b S2 => ixGet (D.lst (row sc)) b S2) fun d S1 => RS.nx [some (D.cel 0), some (D.int many), none, some (D.int at'), some d, none] S1) =
      RS.nx [some (D.cel 0), some (D.int many), none, some (D.int at'), some (D.int cell), none] (Pn sc (at' + 1) c :: T) := by
    by_cases hs : sc = []
    · exact ⟨a * at' + b, by simp [hs]⟩
    · have hl : (0 : Int) < (row sc).length := by
        rw [row_len]
        have := List.length_pos_iff.mpr hs
        omega
      refine ⟨sc.getD (at' % (row sc).length).toNat 0, ?_⟩
      rw [if_neg hs, mod_e hl, bind_ok, ix_lst, ixLI _ _ (Int.emod_nonneg _ (by omega)) (by rw [← row_len]; exact Int.emod_lt_of_pos _ hl)]
      rfl
  obtain ⟨cell, hce⟩ := hce
  rw [hce, seq_nx]
  unfold drawGreatA
  simp only [seqS_e]
  simp only [ite_e (t := tAndF (tTru (sBin ltD (sVar 3) (sCall lenD (aCons (sBin ixGet (sVar 0) (sC (.int 0))) aNil)))) (tTru (sBin geD (sCall absD (aCons (sVar 4) aNil)) (sBin powD (sC (.int 10)) (sC (.int 18))))))]
  have e18 : ∀ S : Store, powD (.int 10) (.int 18) S = .ok (.int (10 ^ 18)) S := fun S => pow_e (i := 10) (j := 18) (by decide) (by decide) S
  by_cases hg : at' < ((row sc).length : Int) ∧ (10 : Int) ^ 18 ≤ (if cell < 0 then -cell else cell)
  · have hg1 := hg.1
    have hg2 := hg.2
    simp at hg2
    simp [-seqS_e, -ite_e, pn0, e18, abs_e, hg1, hg2]
    simp [-ite_e, mul_l, e18, abs_e, fdiv_w hm h2, mod_e hm, setI_e, pst2]
    refine ⟨_, ?_, ?_, rfl, _, rfl⟩
    · exact Int.emod_nonneg _ (by omega)
    · exact Int.emod_lt_of_pos _ hm
  · have hno : (tAndF (tTru (sBin ltD (sVar 3) (sCall lenD (aCons (sBin ixGet (sVar 0) (sC (.int 0))) aNil)))) (tTru (sBin geD (sCall absD (aCons (sVar 4) aNil)) (sBin powD (sC (.int 10)) (sC (.int 18)))))) [some (D.cel 0), some (D.int many), none, some (D.int at'), some (D.int cell), none] (Pn sc (at' + 1) c :: T) = .ok false (Pn sc (at' + 1) c :: T) := by
      by_cases hg1 : at' < ((row sc).length : Int)
      · have hg2 : ¬ (10 : Int) ^ 18 ≤ (if cell < 0 then -cell else cell) := fun h => hg ⟨hg1, h⟩
        simp at hg2
        simp [pn0, e18, abs_e, hg1, hg2]
      · simp [pn0, hg1]
    rw [hno]
    simp only [of_ok, Bool.false_eq_true, if_false, skip_e, seq_nx]
    have n0 : 0 ≤ cell % m1 := Int.emod_nonneg _ (by omega)
    have n1 : cell % m1 < m1 := Int.emod_lt_of_pos _ (by omega)
    have k1 : cc * at' ≤ 1000000 * 1000000 := Int.mul_le_mul c2 h1 h0 (by omega)
    have k0 : 0 ≤ cc * at' := Int.mul_nonneg c1 h0
    have p3' := fun S => pow_e (i := cell % m1 + cc * at' + d) (j := x) (by omega) (by omega) S
    simp only [seqS_e]
    rw [asg_e]
    simp [-seqS_e, -ite_e, mod_e m11, mod_e m21, mul_l (i := cc) (by omega), p3']
    obtain ⟨m, hm0⟩ : ∃ m, m = (cell % m1 + cc * at' + d) ^ x % m2 := ⟨_, rfl⟩
    have m0 : 0 ≤ m := hm0 ▸ Int.emod_nonneg _ (by omega)
    have m1' : m < m2 := hm0 ▸ Int.emod_lt_of_pos _ (by omega)
    rw [← hm0]
    simp only [seqS_e]
    rw [asg_e]
    have t1 : m * (2 * at' + e) ≤ 2147483648 * (2 * 1000000 + 1000000) := Int.mul_le_mul (by omega) (by omega) (by omega) (by omega)
    have t2 : 0 ≤ m * (2 * at' + e) := Int.mul_nonneg m0 (by omega)
    have t3 : f * at' ≤ 1000000 * 1000000 := Int.mul_le_mul f2 h1 h0 (by omega)
    have t4 : 0 ≤ f * at' := Int.mul_nonneg f1 h0
    have t5 : f * at' * at' ≤ 1000000 * 1000000 * 1000000 := Int.mul_le_mul t3 h1 h0 (by omega)
    have t6 : 0 ≤ f * at' * at' := Int.mul_nonneg t4 h0
    have q1 : ∀ S : Store, mulD (.int m) (.int (2 * at' + e)) S = .ok (.int (m * (2 * at' + e))) S := fun S => mul_l (by omega) S
    have q2 : ∀ S : Store, mulD (.int (f * at')) (.int at') S = .ok (.int (f * at' * at')) S := fun S => mul_l (by omega) S
    have p5' := fun S => pow_e (i := m * (2 * at' + e) + f * at' * at' + g) (j := y) (by omega) (by omega) S
    simp [-seqS_e, -ite_e, mod_e m31, mul_l (i := f) (by omega), mul_l (i := 2) (by omega), q1, q2, p5']
    refine ⟨((m * (2 * at' + e) + f * at' * at' + g) ^ y % m3) / dv % many, Int.emod_nonneg _ (by omega), Int.emod_lt_of_pos _ hm, c, ?_⟩
    simp [fdiv_e v1 (by omega), mod_e hm]
end

theorem drawA_of {C : DrawC} (O : C.Ok) {F : Fn} (hF : F = runB 6 (drawBA C)) : Draws F := by
  intro N many p T hp hN h1 h2'
  have h2 := log_small h2'
  subst hF
  obtain ⟨sc, a, c, rfl, ha, hb⟩ := hp
  rw [runB_e]
  by_cases hc : 0 < c
  · exact ⟨c % many, _, Int.emod_nonneg _ (by omega), Int.emod_lt_of_pos _ h1, ⟨sc, a, c / many, rfl, ha, by omega⟩, drawBA_digit h1 h2 hc⟩
  · obtain ⟨r, c', r0, r1, e⟩ := drawBA_e (sc := sc) (at' := a) (c := c) (T := T) O h1 h2 hc ha (by omega)
    exact ⟨r, _, r0, r1, ⟨sc, a + 1, c', rfl, by omega, by omega⟩, e⟩
end VS
end
section
set_option Elab.async false
set_option linter.all false
set_option maxRecDepth 100000
set_option maxHeartbeats 4000000
/-! VS: for plain laws: texts of bits -/
namespace VS
open PySem PySem.Spec PyProof.Rows L2
def bN (b : Bool) : Nat := if b then 49 else 48
/-- a text of bits -/
def bT (l : List Bool) : Str := ⟨(l.map bN).toArray⟩
theorem bN_inj {a b : Bool} (h : bN a = bN b) : a = b := by cases a <;> cases b <;> first | rfl | (simp [bN] at h)
theorem map_bN_inj : ∀ {a b : List Bool}, a.map bN = b.map bN → a = b
  | [], [], _ => rfl
  | [], _ :: _, h => by simp at h
  | _ :: _, [], h => by simp at h
  | x :: a, y :: b, h => by
    simp only [List.map_cons, List.cons.injEq] at h
    rw [bN_inj h.1, map_bN_inj h.2]
theorem bT_inj {a b : List Bool} (h : bT a = bT b) : a = b := by
  unfold bT at h
  have h1 := congrArg (fun s : Str => s.cps.toList) h
  exact map_bN_inj (by simpa using h1)
@[simp] theorem bT_len (l : List Bool) : (bT l).length = l.length := by simp [bT, Str.length]
@[simp] theorem bT_size (l : List Bool) : (bT l).cps.size = l.length := by simp [bT]
@[simp] theorem bT_cps (l : List Bool) : (bT l).cps.toList = l.map bN := by simp [bT]
theorem str_ext {a b : Str} (h : a.cps.toList = b.cps.toList) : a = b := by
  cases a
  cases b
  congr 1
  exact Array.toList_inj.mp h
theorem bT_app (a b : List Bool) : bT a ++ bT b = bT (a ++ b) := by
  apply str_ext
  rw [Str.cps_append]
  simp
theorem bT_ok (l : List Bool) : PyData.strOk (bT l) = true := by
  unfold PyData.strOk
  rw [← Array.all_toList, bT_cps]
  simp only [List.all_map, List.all_eq_true]
  intro b _
  cases b <;> decide
theorem bT_nil : (Str.ofString "" : Str) = bT [] := by rfl
theorem bT_0 : (Str.ofString "0" : Str) = bT [false] := by rfl
theorem bT_1 : (Str.ofString "1" : Str) = bT [true] := by rfl
theorem bT_01 : (Str.ofString "01" : Str) = bT [false, true] := by rfl
theorem eq_bT (a b : List Bool) (S : Store) : eqD (.str (bT a)) (.str (bT b)) S = .ok (.bl (decide (a = b))) S := by
  have h : (bT a = bT b) = (a = b) := propext ⟨bT_inj, fun h => by rw [h]⟩
  have h2 : (bT a == bT b) = decide (a = b) := by
    by_cases k : a = b
    · subst k; simp
    · have : bT a ≠ bT b := fun e => k (bT_inj e)
      simp [k, this]
  simp [eqD, eqPy, toPy, toP, SeqAt.shaped, PyData.eqv, PyData.canLay0, PyData.depth, bT_ok, h, h2]
theorem ne_bT (a b : List Bool) (S : Store) : neD (.str (bT a)) (.str (bT b)) S = .ok (.bl (!decide (a = b))) S := by
  have h : (bT a = bT b) = (a = b) := propext ⟨bT_inj, fun h => by rw [h]⟩
  have h2 : (bT a == bT b) = decide (a = b) := by
    by_cases k : a = b
    · subst k; simp
    · have : bT a ≠ bT b := fun e => k (bT_inj e)
      simp [k, this]
  simp [neD, eqPy, toPy, toP, SeqAt.shaped, PyData.eqv, PyData.canLay0, PyData.depth, bT_ok, h, h2]
theorem add_bT (a b : List Bool) (S : Store) (h : a.length + b.length ≤ 1000000) : addD (.str (bT a)) (.str (bT b)) S = .ok (.str (bT (a ++ b))) S := by
  show (if (bT a).length + (bT b).length ≤ sizeLine then R.ok (D.str (bT a ++ bT b)) S else .bad) = _
  rw [bT_len, bT_len, if_pos (Nat.le_of_lt (Nat.lt_of_le_of_lt h (by decide))), bT_app]
theorem len_bT (a : List Bool) (S : Store) (h : a.length ≤ 1000000) : lenD [.str (bT a)] S = .ok (.int a.length) S := by
  show (if (bT a).length ≤ sizeLine then R.ok (D.int (bT a).length) S else .bad) = _
  rw [bT_len, if_pos (Nat.le_of_lt (Nat.lt_of_le_of_lt h (by decide)))]
theorem rep_bT (b : Bool) (k : Nat) : (⟨(List.replicate k (bT [b]).cps.toList).flatten.toArray⟩ : Str) = bT (List.replicate k b) := by
  apply str_ext
  have : ∀ k : Nat, (List.replicate k [bN b]).flatten = List.replicate k (bN b) := by
    intro k
    induction k with
    | zero => rfl
    | succ k ih => simp [List.replicate_succ, ih]
  simp [this]
theorem mul_bT (b : Bool) (k : Nat) (S : Store) (h : k ≤ 1000000) : mulA (.str (bT [b])) (.int (k : Int)) S = .ok (.str (bT (List.replicate k b))) S := by
  unfold mulA
  simp only [Int.toNat_natCast]
  rw [if_pos ⟨by omega, by omega, by simpa using h⟩, rep_bT]
theorem cut_bT (l : List Bool) (lo hi : Option Int) : cutS (bT l) lo hi = bT ((l.drop (HT.sIx l.length 0 lo)).take (HT.sIx l.length l.length hi - HT.sIx l.length 0 lo)) := by
  apply str_ext
  unfold cutS
  simp [List.map_take, List.map_drop]
theorem sl_bT (l : List Bool) (i j : Nat) (hi : i ≤ j) (hj : j ≤ l.length) (S : Store) (h : l.length ≤ 1000000) : slD (.str (bT l)) (some (i : Int)) (some (j : Int)) S = .ok (.str (bT ((l.drop i).take (j - i)))) S := by
  show (if (bT l).length ≤ sizeLine then R.ok (D.str (cutS (bT l) (some (i : Int)) (some (j : Int)))) S else .bad) = _
  rw [bT_len, if_pos (Nat.le_of_lt (Nat.lt_of_le_of_lt h (by decide))), cut_bT, HT.sIx_nat, HT.sIx_nat, Nat.min_eq_left (Nat.le_trans hi hj), Nat.min_eq_left hj]
theorem sIx_m1 (n d : Nat) : HT.sIx n d (some (-1)) = n - 1 := by
  unfold HT.sIx
  simp
  omega
/-- all but the last one -/
theorem sl_last (l : List Bool) (S : Store) (h : l.length ≤ 1000000) : slD (.str (bT l)) none (some (-1)) S = .ok (.str (bT l.dropLast)) S := by
  show (if (bT l).length ≤ sizeLine then R.ok (D.str (cutS (bT l) none (some (-1)))) S else .bad) = _
  rw [bT_len, if_pos (Nat.le_of_lt (Nat.lt_of_le_of_lt h (by decide))), cut_bT, HT.sIx_none, sIx_m1, List.dropLast_eq_take]
  simp
theorem ix_bT (l : List Bool) (i : Nat) (hi : i < l.length) (S : Store) (h : l.length ≤ 1000000) : ixGet (.str (bT l)) (.int (i : Int)) S = .ok (.str (bT [l[i]])) S := by
  show ixStr (bT l) (i : Int) S = _
  unfold ixStr
  have e : L2.atI (bT l).cps.toList (i : Int) = some (bN l[i]) := by
    unfold L2.atI L2.ixN
    rw [if_pos (by omega), if_pos (by simp; omega)]
    simp [hi]
  rw [bT_len, if_pos (Nat.le_of_lt (Nat.lt_of_le_of_lt h (by decide))), show L2.atI (bT l).cps.toList (i : Int) = some (bN l[i]) from e]
  rfl
theorem src_bT (l : List Bool) (S : Store) (i : Nat) : (Src.str (bT l)).at S i = some ((l.map fun b => D.str (bT [b]))[i]?) := by
  have : (bT l).cps[i]? = (l.map bN)[i]? := by
    unfold bT
    simp
  show some (match (bT l).cps[i]? with
    | some c => some (D.str ⟨#[c]⟩)
    | none => none) = _
  rw [this]
  simp only [List.getElem?_map]
  cases l[i]? <;> rfl
theorem src_bT_len (l : List Bool) (S : Store) : (Src.str (bT l)).len S = l.length := by simp [Src.len]
/-! ### join -/
theorem fold_bits (r : List Bool) : ∀ acc : Array Nat, ((r.map fun b => bT [b]).foldl (fun acc p => acc ++ (bT []).cps ++ p.cps) acc).toList = acc.toList ++ r.map bN := by
  induction r with
  | nil => intro acc; simp
  | cons b r ih =>
    intro acc
    rw [List.map_cons, List.foldl_cons, ih]
    simp
theorem join_bits (l : List Bool) : Txt.join (bT []) (l.map fun b => bT [b]) = bT l := by
  apply str_ext
  unfold Txt.join Builtin.Str.glued
  cases l with
  | nil => rfl
  | cons b r =>
    show (((r.map fun b => bT [b]).foldl (fun acc p => acc ++ (bT []).cps ++ p.cps) (bT [b]).cps)).toList = _
    rw [fold_bits]
    simp
theorem strsOf_bits (l : List Bool) : strsOf (l.map fun b => D.str (bT [b])) = some (l.map fun b => bT [b]) := by
  induction l with
  | nil => rfl
  | cons b l ih =>
    show (strsOf (l.map fun b => D.str (bT [b]))).map (bT [b] :: ·) = _
    rw [ih]
    rfl
theorem sum_ones (l : List Bool) : ((l.map fun b => bT [b]).map (·.length)).sum = l.length := by
  induction l with
  | nil => rfl
  | cons b l ih =>
    simp only [List.map_cons, List.sum_cons, ih, bT_len, List.length_cons, List.length_nil]
    omega
theorem join_bT (l : List Bool) (S : Store) (h : l.length ≤ 1000000) : joinD (.str (bT [])) [.lst (l.map fun b => D.str (bT [b]))] S = .ok (.str (bT l)) S := by
  show (match (lookS S (.lst (l.map fun b => D.str (bT [b])))).bind strsOf with
    | some ys => if (ys.map (fun y : Str => y.length)).sum + ys.length * (bT []).length ≤ 16777216 then R.ok (D.str (Txt.join (bT []) ys)) S else .bad
    | none => .bad) = _
  have e : (lookS S (.lst (l.map fun b => D.str (bT [b])))).bind strsOf = some (l.map fun b => bT [b]) := by
    show strsOf (l.map fun b => D.str (bT [b])) = _
    exact strsOf_bits l
  rw [e]
  simp only
  rw [sum_ones, if_pos (by simp; omega)]
  rw [join_bits]
/-! ### find -/
theorem sub_bT (l : List Bool) (i : Nat) (hi : i < l.length) : Builtin.Str.subAt (bT l) (bT [true]) i = l[i] := by
  unfold Builtin.Str.subAt
  have : (bT l).cps.extract i (i + (bT [true]).length) = #[bN l[i]] := by
    apply Array.toList_inj.mp
    rw [Array.toList_extract, bT_cps, bT_len]
    have : (l.map bN).drop i = bN l[i] :: (l.map bN).drop (i + 1) := by
      rw [List.drop_eq_getElem_cons (by simpa using hi)]
      simp
    simp [List.extract, this]
  rw [this]
  cases l[i] <;> rfl
/-- noughts ahead -/
def zeros (l : List Bool) : Nat := (l.takeWhile (!·)).length
theorem zeros_cons (b : Bool) (l : List Bool) : zeros (b :: l) = if b then 0 else zeros l + 1 := by
  unfold zeros
  cases b <;> simp
theorem zeros_le (l : List Bool) : zeros l ≤ l.length := by
  induction l with
  | nil => simp [zeros]
  | cons b l ih =>
    rw [zeros_cons]
    cases b <;> simp <;> omega
theorem zeros_rep (k : Nat) (l : List Bool) : zeros (List.replicate k false ++ true :: l) = k := by
  induction k with
  | zero => simp [zeros_cons]
  | succ k ih => simp [List.replicate_succ, zeros_cons, ih]
theorem occ_bits (l : List Bool) : ∀ (n lo : Nat), lo + n = l.length + 1 → (forIn (m := Id) (List.range' lo n) ((#[] : Array Nat), lo) (StrLaws.occBody (bT l) (bT [true]) l.length 1)).run.fst.toList = if lo + zeros (l.drop lo) < l.length then [lo + zeros (l.drop lo)] else [] := by
  have done : ∀ (m : List Nat) (a b : Nat), (forIn (m := Id) m ((#[a] : Array Nat), b) (StrLaws.occBody (bT l) (bT [true]) l.length 1)).run.fst.toList = [a] := by
    intro m
    induction m with
    | nil => intro a b; rfl
    | cons x m ih =>
      intro a b
      simp only [List.forIn_cons, StrLaws.occBody]
      rw [if_neg (by simp)]
      exact ih a b
  suffices ∀ (n lo f : Nat), lo + n = l.length + 1 → f ≤ lo → (forIn (m := Id) (List.range' lo n) ((#[] : Array Nat), f) (StrLaws.occBody (bT l) (bT [true]) l.length 1)).run.fst.toList = if lo + zeros (l.drop lo) < l.length then [lo + zeros (l.drop lo)] else [] from fun n lo h => this n lo lo h (Nat.le_refl _)
  intro n
  induction n with
  | zero =>
    intro lo f h hf
    rw [if_neg (by omega)]
    rfl
  | succ n ih =>
    intro lo f h hf
    rw [List.range'_succ, List.forIn_cons]
    by_cases hl : lo < l.length
    · have hs := sub_bT l lo hl
      have hd : l.drop lo = l[lo] :: l.drop (lo + 1) := List.drop_eq_getElem_cons hl
      cases hb : l[lo] with
      | true =>
        rw [hb] at hs
        have e : StrLaws.occBody (bT l) (bT [true]) l.length 1 lo (#[], f) = pure (ForInStep.yield (#[lo], lo + 1)) := by
          unfold StrLaws.occBody
          rw [if_pos ⟨⟨⟨by simp, hf⟩, by simp; omega⟩, hs⟩]
          rfl
        rw [e, hd, hb, zeros_cons, if_pos (rfl : true = true), Nat.add_zero]
        refine Eq.trans ?_ (if_pos hl).symm
        exact done _ lo _
      | false =>
        rw [hb] at hs
        have e : StrLaws.occBody (bT l) (bT [true]) l.length 1 lo (#[], f) = pure (ForInStep.yield (#[], f)) := by
          unfold StrLaws.occBody
          rw [if_neg (fun z => by rw [hs] at z; cases z.2)]
        rw [e, hd, hb, zeros_cons, if_neg (show ¬ (false = true) by simp), show lo + (zeros (l.drop (lo + 1)) + 1) = (lo + 1) + zeros (l.drop (lo + 1)) by omega]
        exact ih (lo + 1) f (by omega) (by omega)
    · have hn : n = 0 := by omega
      subst hn
      have e : StrLaws.occBody (bT l) (bT [true]) l.length 1 lo (#[], f) = pure (ForInStep.yield (#[], f)) := by
        unfold StrLaws.occBody
        rw [if_neg (fun z => by have := z.1.2; simp at this; omega)]
      rw [e, if_neg (by omega)]
      rfl
theorem find_bT (l : List Bool) (i : Nat) (hi : i ≤ l.length) (S : Store) : findD (.str (bT l)) [.str (bT [true]), .int (i : Int), .int (l.length : Int)] S = .ok (.int (if i + zeros (l.drop i) < l.length then ((i + zeros (l.drop i) : Nat) : Int) else -1)) S := by
  show R.ok (D.int (Txt.findIn (bT l) (bT [true]) (i : Int) (l.length : Int))) S = _
  unfold Txt.findIn
  have e1 : fromIndex (bT l).length (i : Int) = i := by
    unfold fromIndex
    rw [if_neg (by omega)]
    omega
  have e2 : toIndexW (bT l).length (l.length : Int) = l.length := by
    unfold toIndexW
    simp
    omega
  rw [e1, e2, StrLaws.occ_eq, occ_bits l _ i (by omega)]
  by_cases h : i + zeros (l.drop i) < l.length
  · rw [if_pos h, if_pos h]
  · rw [if_neg h, if_neg h]
/-! ### a sign among signs -/
theorem in_01 (b : Bool) (S : Store) : inA (.str (bT [b])) (.str (bT [false, true])) S = .ok (.bl true) S := by
  cases b <;> rfl
/-! ### figures -/
/-- so many figures, the lowest one first -/
def lds (n m : Nat) : List Bool := (List.range m).map fun i => n.testBit i
/-- the highest one first -/
def digs (n m : Nat) : List Bool := (lds n m).reverse
@[simp] theorem lds_len (n m : Nat) : (lds n m).length = m := by simp [lds]
@[simp] theorem digs_len (n m : Nat) : (digs n m).length = m := by simp [digs]
theorem lds_succ (n m : Nat) : lds n (m + 1) = lds n m ++ [n.testBit m] := by simp [lds, List.range_succ]
theorem digs_succ (n m : Nat) : digs n (m + 1) = n.testBit m :: digs n m := by simp [digs, lds_succ]
theorem bit_at (n i : Nat) : n.testBit i = decide (n / 2 ^ i % 2 = 1) := Nat.testBit_eq_decide_div_mod_eq
/-- the number of figures -/
def val (l : List Bool) : Nat := l.foldl (fun a b => 2 * a + (if b then 1 else 0)) 0
theorem val_snoc (l : List Bool) (b : Bool) : val (l ++ [b]) = 2 * val l + (if b then 1 else 0) := by simp [val]
theorem val_from (l : List Bool) (a : Nat) : l.foldl (fun a b => 2 * a + (if b then 1 else 0)) a = a * 2 ^ l.length + val l := by
  induction l generalizing a with
  | nil => simp [val]
  | cons b l ih =>
    have h0 : val (b :: l) = (2 * 0 + (if b then 1 else 0)) * 2 ^ l.length + val l := ih _
    rw [List.foldl_cons, ih, h0]
    simp only [List.length_cons, Nat.pow_succ]
    generalize 2 ^ l.length = p
    rw [Nat.add_mul, Nat.add_mul]
    have : 2 * a * p = a * (p * 2) := by rw [Nat.mul_comm p 2, ← Nat.mul_assoc, Nat.mul_comm a 2]
    omega
theorem val_cons (b : Bool) (l : List Bool) : val (b :: l) = (if b then 2 ^ l.length else 0) + val l := by
  show (l.foldl _ (2 * 0 + _)) = _
  rw [val_from]
  cases b <;> simp
theorem val_digs (n m : Nat) : val (digs n m) = n % 2 ^ m := by
  induction m with
  | zero => simp [digs, lds, val, Nat.mod_one]
  | succ m ih =>
    rw [digs_succ, val_cons, ih, digs_len, bit_at, Nat.pow_succ, Nat.mod_mul]
    by_cases h : n / 2 ^ m % 2 = 1
    · simp [h]
      omega
    · have : n / 2 ^ m % 2 = 0 := by omega
      simp [this]
/-- how many figures -/
def sz (n : Nat) : Nat := if n = 0 then 0 else sz (n / 2) + 1
termination_by n
decreasing_by omega
theorem sz_0 : sz 0 = 0 := by rw [sz]; simp
theorem sz_pos {n : Nat} (h : n ≠ 0) : sz n = sz (n / 2) + 1 := by rw [sz, if_neg h]
theorem sz_lt : ∀ n : Nat, n < 2 ^ sz n := by
  intro n
  induction n using Nat.strongRecOn with
  | _ n ih =>
    by_cases h : n = 0
    · subst h; rw [sz_0]; decide
    · have := ih (n / 2) (by omega)
      rw [sz_pos h, Nat.pow_succ]
      omega
theorem sz_le : ∀ n : Nat, n ≠ 0 → 2 ^ (sz n - 1) ≤ n := by
  intro n
  induction n using Nat.strongRecOn with
  | _ n ih =>
    intro h
    rw [sz_pos h, Nat.add_sub_cancel]
    by_cases h2 : n / 2 = 0
    · rw [h2, sz_0]; show 1 ≤ n; omega
    · have := ih (n / 2) (by omega) h2
      have e : sz (n / 2) = sz (n / 2) - 1 + 1 := by rw [sz_pos h2]; omega
      rw [e, Nat.pow_succ]
      omega
theorem sz_one {n : Nat} (h : n ≠ 0) : 1 ≤ sz n := by rw [sz_pos h]; omega
theorem sz_top {n : Nat} (h : n ≠ 0) : n.testBit (sz n - 1) = true := by
  rw [bit_at]
  have h1 := sz_lt n
  have h2 := sz_le n h
  have h3 := sz_one h
  rw [show sz n = (sz n - 1) + 1 by omega, Nat.pow_succ] at h1
  have : n / 2 ^ (sz n - 1) = 1 := by
    apply Nat.div_eq_of_lt_le <;> omega
  rw [this]
  rfl
theorem sz_bound {n k : Nat} (h : n < 2 ^ k) : sz n ≤ k := by
  by_cases h0 : n = 0
  · subst h0; rw [sz_0]; omega
  · have := sz_le n h0
    have h3 := sz_one h0
    have : 2 ^ (sz n - 1) < 2 ^ k := Nat.lt_of_le_of_lt this h
    have := (Nat.pow_lt_pow_iff_right (by decide : 1 < 2)).mp this
    omega
end VS
end
section
set_option Elab.async false
set_option linter.all false
set_option maxRecDepth 100000
set_option maxHeartbeats 4000000
/-! VS: numbers in base two: shifts, xor, int(text, 2), formats, zfill -/
namespace VS
open PySem PySem.Spec PyProof.Rows L2
section
variable {X : Cx} {cm : CM} {W : WX}
def xorD (a b : D) (S : Store) : R D := match a, b with
  | .int i, .int j => .ok (.int (Builtin.bitXor i j)) S
  | _, _ => .bad
theorem xorD_ok : OpD X cm (rI0 fun i j => .int (Builtin.bitXor i j)) xorD := by
  intro W g H x y a b Q rl da db q
  unfold xorD at q
  split at q
  · cases da
    cases db
    exact ⟨_, _, rfl, rfl, RP.ret q rl (.int _)⟩
  · exact q.elim
def shrD (a b : D) (S : Store) : R D := match a, b with
  | .int i, .int j => if 0 ≤ j then .ok (.int (i / 2 ^ j.toNat)) S else .bad
  | _, _ => .bad
theorem shrD_ok : OpD X cm (rI (fun _ j => 0 ≤ j) fun i j => .int (i / 2 ^ j.toNat)) shrD := by
  intro W g H x y a b Q rl da db q
  unfold shrD at q
  split at q
  · cases da
    cases db
    split at q
    · rename_i h
      exact ⟨_, _, rfl, rfl, h, RP.ret q rl (.int _)⟩
    · exact q.elim
  · exact q.elim
/-! ### zfill -/
def zfillD (o : D) (ds : List D) (S : Store) : R D := match o, ds with
  | .str a, [.int i] => if PadOk i = true then .ok (.str (Txt.zfill a i)) S else .bad
  | _, _ => .bad
theorem zfillD_ok : MethD X cm (fun x xs H Q => ∃ (a : Str) (i : Int), x = .str a ∧ xs = [.int i] ∧ PadOk i = true ∧ Q (.str (Txt.zfill a i)) H) zfillD := by
  intro W g H x d xs ds Q rl dn dl q
  unfold zfillD at q
  split at q
  · rename_i a i
    cases dn
    obtain ⟨x, rfl, h1⟩ := one_of (α := Unit) dl
    cases h1
    split at q
    · rename_i h
      exact ⟨a, i, rfl, rfl, h, RP.ret q rl (.str _)⟩
    · exact q.elim
  · exact q.elim
theorem ve_zfill {apos cpos : Pos} {fo : SE} {fa : SA} {o e : Expr} (ho : VE X cm W o fo) (ha : VA X cm W [e] fa) (hbase : attributeBase o "zfill" X.env (eval o X.env) = eval o X.env := by rfl) (hline : (apos.endLine == cpos.line) = true := by rfl)
    (hfew : ((backTo cpos (starEach [e] X.env)).all (fun x => !x.1) && (backToKw cpos (keywordEach [] X.env)).all (fun x => x.1.isSome) && decide ([e].length + ([] : List Keyword).length + (if ([] : List Keyword).isEmpty then 0 else 1) < 30)) = true := by rfl)
    (hs : starEach [e] X.env = (false, eval e X.env) :: starEach [] X.env := by rfl) (hplain : (backTo cpos (starEach [] X.env)).any (·.1) = false := by rfl) : VE X cm W (.Call (.Attribute o "zfill" apos) [e] [] cpos) (mStr zfillD fo fa) :=
  ve_strM PySem.F.plainAttrs_str PySem.F.slot_str_zfill PySem.F.type_str_zfill mt_zfill zfillD_ok ho ha hbase hfew hline hs hplain
end
/-! ### int(text, 2) -/
namespace B2
open PySem.NumText PySem.Calls
def IsBit (c : Nat) : Prop := c = 48 ∨ c = 49
theorem step_bit {ds : Array Nat} {b : Bool} {c : Nat} (h : IsBit c) : PySem.NumText.step 2 (ds, b) c = some (ds.push (c - 48), true) := by
  rcases h with rfl | rfl <;> rfl
theorem fold_bit : ∀ (cs : List Nat) (ds : Array Nat), (∀ c ∈ cs, IsBit c) → cs.foldlM (PySem.NumText.step 2) (ds, true) = some (cs.foldl (fun acc c => acc.push (c - 48)) ds, true)
  | [], _, _ => rfl
  | c :: cs, ds, h => by
    rw [List.foldlM_cons, step_bit (h c (List.mem_cons_self ..))]
    exact fold_bit cs _ fun d hd => h d (List.mem_cons_of_mem _ hd)
theorem digits_bit {cs : List Nat} (h : ∀ c ∈ cs, IsBit c) (hne : cs ≠ []) : digits? 2 cs = some (cs.foldl (fun acc c => acc.push (c - 48)) #[]) := by
  cases cs with
  | nil => exact absurd rfl hne
  | cons c cs =>
    unfold digits?
    rw [List.foldlM_cons, step_bit (h c (List.mem_cons_self ..))]
    show (cs.foldlM (PySem.NumText.step 2) ((#[] : Array Nat).push (c - 48), true)).bind _ = _
    rw [fold_bit cs _ fun d hd => h d (List.mem_cons_of_mem _ hd)]
    rfl
theorem push_bit : ∀ (l : List Bool) (ds : Array Nat), ((l.map bN).foldl (fun acc c => acc.push (c - 48)) ds).foldl (fun acc d => acc * 2 + d) 0 = l.foldl (fun a b => 2 * a + (if b then 1 else 0)) (ds.foldl (fun acc d => acc * 2 + d) 0)
  | [], _ => rfl
  | b :: l, ds => by
    rw [List.map_cons, List.foldl_cons, push_bit l, List.foldl_cons]
    congr 1
    rw [Array.foldl_push]
    cases b <;> simp [bN, Nat.mul_comm]
theorem drop_bit {cs : List Nat} (h : ∀ c ∈ cs, IsBit c) : cs.dropWhile blank = cs := by
  cases cs with
  | nil => rfl
  | cons c cs => exact dropWhile_of (by rcases h c (List.mem_cons_self ..) with rfl | rfl <;> decide)
theorem sign_bit {cs : List Nat} (h : ∀ c ∈ cs, IsBit c) : sign cs = (false, cs) := by
  cases cs with
  | nil => rfl
  | cons c cs => rcases h c (List.mem_cons_self ..) with rfl | rfl <;> exact sign_of (by decide) (by decide)
theorem based_bit {cs : List Nat} (h : ∀ c ∈ cs, IsBit c) : based 2 cs = (2, false, cs) := by
  match cs, h with
  | [], _ => rfl
  | [a], h =>
    rcases h a (by simp) with rfl | rfl <;> rfl
  | a :: c :: r, h =>
    rcases h a (by simp) with rfl | rfl <;> rcases h c (by simp) with rfl | rfl <;> rfl
theorem map_bit (l : List Bool) : ∀ c ∈ l.map bN, IsBit c := by
  intro c hc
  obtain ⟨b, _, rfl⟩ := List.mem_map.mp hc
  cases b
  · exact .inl rfl
  · exact .inr rfl
theorem read_bit {l : List Bool} (hne : l ≠ []) : (int_private% "readNumeral") 0 2 (l.map bN) = (int_private% "Numeral.value") ((val l : Nat) : Int) := by
  have h := map_bit l
  have hr : ∀ c ∈ (l.map bN).reverse, IsBit c := fun c hc => h c (List.mem_reverse.mp hc)
  refine (readNumeral_eq 0 2 (l.map bN)).trans ?_
  rw [drop_bit h, sign_bit h]
  show judge 0 false (based 2 (l.map bN)).1 (based 2 (l.map bN)).2.1 (digits? (based 2 (l.map bN)).1 (((based 2 (l.map bN)).2.2.reverse.dropWhile blank).reverse)) = _
  rw [based_bit h]
  show judge 0 false 2 false (digits? 2 (((l.map bN).reverse.dropWhile blank).reverse)) = _
  rw [drop_bit hr, List.reverse_reverse, digits_bit h (by simpa using hne)]
  show (int_private% "Numeral.value") ((((l.map bN).foldl (fun acc c => acc.push (c - 48)) (#[] : Array Nat)).foldl (fun acc d => acc * 2 + d) 0 : Nat) : Int) = _
  have z : (#[] : Array Nat).foldl (fun acc d => acc * 2 + d) 0 = 0 := by first | rfl | simp
  rw [push_bit, z]
  rfl
theorem seen_bit (l : List Bool) : numTextOf (bT l) = l.map bN ∧ numSeenOf (bT l) = l.map bN := by
  have h := map_bit l
  have e1 : numTextOf (bT l) = l.map bN := by
    have : numTextOf (bT l) = (bT l).cps.toList := by
      refine if_pos ?_
      rw [← Array.all_toList, List.all_eq_true, bT_cps]
      intro c hc
      rcases h c hc with rfl | rfl <;> decide
    rw [this, bT_cps]
  refine ⟨e1, ?_⟩
  show (numTextOf (bT l)).takeWhile _ = _
  rw [e1]
  refine takeWhile_all fun c hc => ?_
  rcases h c hc with rfl | rfl <;> decide
set_option maxHeartbeats 4000000 in
theorem gives_bit {l : List Bool} {u t : Tok} (hl : l.length ≤ 640) (hne : l ≠ []) :
    Gives (Builtin.«int.__new__» ⟨[.type "int", .str (bT l) u, .int 2 t], []⟩) (.int ((val l : Nat) : Int)) :=
  .of_wp fun M A E s Q hQ => by
    obtain ⟨hp, g, d, tk, os⟩ := s
    have f1 := F.conv_sub_int
    have f2 := F.madeHere_int
    have f6 : typeOf (.str (bT l) u) = pure (.type "str") := rfl
    obtain ⟨e1, e2⟩ := seen_bit l
    have hs : (numSeenOf (bT l)).length ≤ 640 := by
      rw [e2, List.length_map]
      exact hl
    have hr : (int_private% "readNumeral") 0 2 (numSeenOf (bT l)) = (int_private% "Numeral.value") ((val l : Nat) : Int) := by
      rw [e2]
      exact read_bit hne
    have ha : ((numSeenOf (bT l)).length == (numTextOf (bT l)).length) = true := by
      rw [e1, e2]
      exact beq_self_eq_true _
    have hk := Hx.Hid.mk (And.intro hs (And.intro hr ha))
    clear hs hr ha e1 e2 hl hne
    repeat (any_goals (first
      | assumption
      | ((with_reducible show wpAny _ _ ((int_private% "intFromText") _ _ _) _ _ _); refine Hx.wp_textB hk.out.1 hk.out.2.1 hk.out.2.2 ?_)
      | wp_step))
    all_goals first | exact ⟨_, rfl, hQ⟩ | skip
theorem call_bit {prog : Program} {w : World} {A : Around} {E : Value → Shared → Prop} {s : Shared} {Q : Value → Shared → Prop} {l : List Bool} {u t : Tok} (hl : l.length ≤ 640) (hne : l ≠ [])
    (hQ : Q (.int ((val l : Nat) : Int) s.toks) { s with toks := s.toks + 1 }) : wpAny (model prog w) A (call (.type "int") [.str (bT l) u, .int 2 t]) Q E s :=
  callType_new F.called_int F.newNe_int (Hx.typeCall_int_2 _ _) (Hx.newCall_int_2 _ _) (fun obj => F.initArgs_range_2 obj _ _) F.entry_int_new (gives_bit hl hne).meets (show (Made.int ((val l : Nat) : Int)).post _ s from ⟨rfl, hQ⟩)
end B2
def rIntB : List V → Hp → VK → Prop := fun xs H Q => ∃ l : List Bool, xs = [.str (bT l), .int 2] ∧ l ≠ [] ∧ l.length ≤ 640 ∧ Q (.int ((val l : Nat) : Int)) H
theorem call_int_bit {X : Cx} : CallR X (.type "int") rIntB := by
  intro pins s σ H xs us Q I r h
  obtain ⟨l, rfl, hne, hl, q⟩ := h
  obtain ⟨u, w', rfl, r1, r2⟩ := vals2 r
  obtain ⟨t1, rfl⟩ := r1
  obtain ⟨t2, rfl⟩ := r2
  exact B2.call_bit hl hne ⟨.int ((val l : Nat) : Int), H, I.tok _, ⟨_, rfl⟩, q⟩
def bitsIn : List Nat → Option (List Bool)
  | [] => some []
  | c :: cs => if c = 48 then (bitsIn cs).map (false :: ·) else if c = 49 then (bitsIn cs).map (true :: ·) else none
theorem bitsIn_map (l : List Bool) : bitsIn (l.map bN) = some l := by
  induction l with
  | nil => rfl
  | cons b l ih => cases b <;> simp [bitsIn, bN, ih]
theorem bitsIn_some : ∀ {cs : List Nat} {l : List Bool}, bitsIn cs = some l → cs = l.map bN
  | [], l, h => by cases h; rfl
  | c :: cs, l, h => by
    unfold bitsIn at h
    split at h
    · rename_i e
      obtain ⟨l', h1, rfl⟩ := Option.map_eq_some_iff.mp h
      rw [bitsIn_some h1, e]
      rfl
    · split at h
      · rename_i e
        obtain ⟨l', h1, rfl⟩ := Option.map_eq_some_iff.mp h
        rw [bitsIn_some h1, e]
        rfl
      · cases h
def intB (ds : List D) (S : Store) : R D := match ds with
  | [.str x, .int 2] => match bitsIn x.cps.toList with
    | some l => if l ≠ [] ∧ l.length ≤ 640 then .ok (.int (val l : Nat)) S else .bad
    | none => .bad
  | _ => .bad
theorem intB_ok {X : Cx} {cm : CM} : CallD X cm rIntB intB := by
  intro W g H xs ds Q rl dl q
  unfold intB at q
  split at q
  · rename_i x
    obtain ⟨y, z, rfl, h1, h2⟩ := two_of dl
    cases h1
    cases h2
    split at q
    · rename_i l hl
      split at q
      · rename_i h
        have e : x = bT l := str_ext (by rw [bitsIn_some hl, bT_cps])
        subst e
        exact ⟨l, rfl, h.1, h.2, RP.ret q rl (.int _)⟩
      · exact q.elim
    · exact q.elim
  · exact q.elim
theorem intB_e (l : List Bool) (hne : l ≠ []) (hl : l.length ≤ 640) (S : Store) : intB [.str (bT l), .int 2] S = .ok (.int (val l : Nat)) S := by
  unfold intB
  simp only [bT_cps, bitsIn_map]
  rw [if_pos ⟨hne, hl⟩]
end VS
end
section
set_option Elab.async false
set_option linter.all false
set_option maxRecDepth 100000
set_option maxHeartbeats 400000
/-! VS: a whole number written in base two -/
namespace VS
open PySem PySem.Spec PyProof.Rows L2
def binT (n : Nat) : Str := ⟨((Nat.toDigits 2 n).map Char.toNat).toArray⟩
end VS
namespace PySem.W
open PySem PySem.Calls PyProof.Rows VS
open Builtin Builtin.Str Builtin.Int Builtin.Float
theorem fmtB_ends (f : FormatSpec) (hw : f.width = none) (hg : f.grouping = none) (hs : f.sign = none) (ds : List Nat) : intField' f false [] ds [] 4 = ⟨ds.toArray⟩ := by
  have hz : ∀ m : Nat, (if f.fill = 48 ∧ f.align = 61 then (-1 : Int) else 0).toNat - m = 0 := fun m => by
    split
    · show 0 - m = 0
      omega
    · show 0 - m = 0
      omega
  unfold intField'
  simp [hw, hg, hs]
  cases ds <;> simp [hz]
theorem specB : ∃ f : FormatSpec, parseFormatSpec (PySem.Str.ofString "b").cps.toList "int" 62 = .ok f ∧ f.width = none ∧ f.grouping = none ∧ f.sign = none ∧ f.alt = false ∧ f.precision = none ∧ f.noNeg0 = false ∧ f.type = some 98 := by
  refine ⟨_, rfl, rfl, rfl, rfl, rfl, rfl, rfl, rfl⟩
theorem meets_fmtB {s : Shared} {a : Int} {t : Tok} (h0 : 0 ≤ a) (hn : (binT a.natAbs).length ≤ sizeLine) : ∀ u, Meets (Builtin.«int.__format__» ⟨[.int a t, .str (PySem.Str.ofString "b") u], []⟩) (fun _ R s => ∀ t' k, R (.ok (.ret (.str (binT a.natAbs) t'))) { s with toks := k }) := by
  intro u
  apply KPc.meets_of
  intro prog w A s Q E hQ
  obtain ⟨f, hp, hw, hg, hs, hal, hpr, hz, hty⟩ := specB
  have hne : ((PySem.Str.ofString "b").length == 0) = false := by decide
  have hasc : (((PySem.Str.ofString "b").cps.toList.drop 1).any (· ≥ 128) || ((PySem.Str.ofString "b").cps.getD 0 0 ≥ 128 && !([60, 62, 61, 94] : List Nat).contains ((PySem.Str.ofString "b").cps.getD 1 0))) = false := by decide
  generalize PySem.Str.ofString "b" = spec at *
  unfold Builtin.«int.__format__»
  simp only [selfAndOne, noKeywords, Int.intOfSelf, asInt?, asStr?, List.isEmpty_nil, if_true, pure_bind, bind_pure, bind_assoc, hne, hasc, Bool.false_eq_true, if_false,
    show (Value.str spec u == Value.none) = false from rfl]
  refine wpAny_bind (wpAny_typeNameOf (T := "str") (typeIs_str _ _ _) (by decide) fun _ => ?_)
  refine wpAny_bind (wpAny_typeNameOfCut_int ?_)
  simp only [hp, hty, Option.getD_some]
  rw [if_pos (by decide)]
  show wpAny _ _ (if _ then _ else _) _ _ _
  rw [if_neg (by simp [hpr])]
  show wpAny _ _ (if _ then _ else _) _ _ _
  rw [if_neg (by simp [hz])]
  show wpAny _ _ (if _ then _ else _) _ _ _
  rw [if_neg (by decide)]
  show wpAny _ _ (if _ then _ else _) _ _ _
  rw [if_neg (by decide)]
  show wpAny _ _ (if _ then _ else _) _ _ _
  rw [if_neg (by simp [hw])]
  show wpAny _ _ (retStr _) _ _ _
  refine (fun e => KXf.ret_text (T := binT a.natAbs) e (by rw [e]; exact hn) hQ) ?_
  simp only [hal, Bool.false_eq_true, if_false, show ((98 : Nat) == 88) = false by decide, show ((2 : Nat) == 10) = false by decide, decide_eq_false (show ¬ a < 0 by omega)]
  have hz : ∀ m : Nat, (if f.fill = 48 ∧ f.align = 61 then (-1 : Int) else 0).toNat - m = 0 := fun m => by
    split
    · show 0 - m = 0
      omega
    · show 0 - m = 0
      omega
  unfold binT
  clear hn hQ
  generalize (Nat.toDigits 2 a.natAbs).map Char.toNat = ds
  conv => lhs; whnf
  simp [hw, hg, hs]
  generalize (f.align == 60) = b60
  cases ds with
  | nil =>
    simp [hz]
    cases b60 <;> exact ⟨⟨rfl, rfl⟩, rfl⟩
  | cons d ds =>
    simp [hz]
    cases b60
    · show List.replicate (0 + 0) f.fill ++ d :: (ds ++ List.replicate 0 f.fill) = d :: ds
      simp
    · show List.replicate (0 + 0) f.fill ++ d :: (ds ++ List.replicate 0 f.fill) = d :: ds
      simp
theorem formatB {prog : Program} {w : World} {A : Around} {E : Value → Shared → Prop} {s : Shared} {a : Int} {t : Tok} {Q : Value → Shared → Prop} (h0 : 0 ≤ a) (hn : (binT a.natAbs).length ≤ sizeLine) (h : ∀ t' k, Q (.str (binT a.natAbs) t') { s with toks := k }) :
    wpAny (model prog w) A (formatField (.int a t) (PySem.Str.ofString "b")) Q E s := KXf.field_int rfl (by decide) (by decide) (meets_fmtB (s := s) h0 hn) h
end PySem.W
namespace VS
open PySem PySem.Spec PyProof.Rows L2
section
variable {X : Cx} {cm : CM} {W : WX} {e : Expr} {fe : SE} {p p1 p2 p3 : Pos} {k : Nat}
def sFmtB (fe : SE) : SE := fun ρ S => (fe ρ S).bind fun d S1 => match d with
  | .int i => if 0 ≤ i ∧ (binT i.natAbs).length ≤ 1000000 then .ok (.str (binT i.natAbs)) S1 else .bad
  | _ => .bad
@[simp] theorem fmtB_e (f : SE) (ρ : VS.Env) (S : Store) : sFmtB f ρ S = (f ρ S).bind fun d S1 => match d with | .int i => if 0 ≤ i ∧ (binT i.natAbs).length ≤ 1000000 then .ok (.str (binT i.natAbs)) S1 else .bad | _ => .bad := rfl
def tFmtB (t : TE) : TE := fun σ H Q => t σ H fun v H1 => ∃ i : Int, v = .int i ∧ 0 ≤ i ∧ (binT i.natAbs).length ≤ sizeLine ∧ Q (.str (binT i.natAbs)) H1
theorem pe_fmtB {t : TE} (he : PE X e t) : PE X (.JoinedStr [.FormattedValue e (-1) (some (.JoinedStr [.Constant (.str "b") k p1] p2)) p3] p) (tFmtB t) := by
  refine ⟨fun pins s σ H Q I h => wpAny_JoinedStr_one (wpAny_FormattedValue_spec (thn (he.run pins s σ H _ I h) fun v s1 hv => ?_))⟩
  obtain ⟨x, H1, I1, r1, i, rfl, h0, hz, q⟩ := hv
  obtain ⟨t, rfl⟩ := r1
  refine wpAny_JoinedStr_one (wpAny_Constant_str ?_)
  refine ⟨_, _, rfl, PySem.W.formatB h0 hz fun t' k' => ⟨.str (binT i.natAbs), H1, I1.tok _, ⟨_, rfl⟩, q⟩⟩
theorem ve_fmtB (he : VE X cm W e fe) : VE X cm W (.JoinedStr [.FormattedValue e (-1) (some (.JoinedStr [.Constant (.str "b") k p1] p2)) p3] p) (sFmtB fe) := by
  refine PE.imp (pe_fmtB he) fun σ H Q ⟨g, ρ, rl, de, q⟩ => ⟨g, ρ, rl, de, RP.mono (RP.step q) fun v H1 ⟨d, g1, e1, rl1, dn, q1⟩ => ?_⟩
  have hd : ∃ i, d = .int i := by cases d <;> first | exact q1.elim | exact ⟨_, rfl⟩
  obtain ⟨i, rfl⟩ := hd
  cases dn
  simp only at q1
  split at q1
  · rename_i h
    exact ⟨i, rfl, h.1, Nat.le_of_lt (Nat.lt_of_le_of_lt h.2 (by decide)), RP.ret q1 rl1 (.str _)⟩
  · exact q1.elim
end
end VS
end
section
set_option Elab.async false
set_option linter.all false
set_option maxRecDepth 100000
set_option maxHeartbeats 4000000
/-! VS: isinstance(error, ValueError) -/
namespace VS
open PySem PySem.Spec PyProof.Rows L2
def veB (K : PySem.W.Frag) (cl : List (Nat × Addr)) : Bool := cl.all fun p => decide (PySem.W.kitOne K (.ref p.2) (.type "ValueError") = some true)
structure VeF (K : PySem.W.Frag) (cm : CM) : Prop where
  at' : ∀ c C, cm c = some C → PySem.W.kitOne K (.ref C) (.type "ValueError") = some true
theorem ve_of {K : PySem.W.Frag} {cl : List (Nat × Addr)} {T : List (Addr × Str)} (h : veB K cl = true) : VeF K (cmOf cl T) := ⟨fun c C hc => by
  have := List.all_eq_true.mp h _ (look_mem hc)
  simpa using this⟩
section
variable {X : Cx} {cm : CM} {W : WX} {e : Expr} {fe : SE} {p p2 pos : Pos} {sub : Nat → Nat → Bool}
def sIsVE (fe : SE) : SE := fun ρ S => (fe ρ S).bind fun d S1 => match d with
  | .exc _ _ => .ok (.bl true) S1
  | _ => .bad
@[simp] theorem isVE_e (f : SE) (ρ : VS.Env) (S : Store) : sIsVE f ρ S = (f ρ S).bind fun d S1 => match d with | .exc _ _ => .ok (.bl true) S1 | _ => .bad := rfl
def rIsVE (cm : CM) (K : PySem.W.Frag) : List V → Hp → VK → Prop := fun xs H Q => ∃ (g : G) (v : V) (c : Nat) (fs : List (Str × D)), xs = [v, .ty "ValueError"] ∧ Rel K cm g H ∧ Den K cm g v (.exc c fs) ∧ Q (.bl true) H
theorem call_isVE (cf : CFacts X.K cm sub) (ve : VeF X.K cm) : CallR X (.builtin "isinstance") (rIsVE cm X.K) := by
  intro pins s σ H xs us Q I r h
  obtain ⟨g, v, c, fs, rfl, rl, dn, q⟩ := h
  obtain ⟨u1, u2, rfl, r1, r2⟩ := vals2 r
  obtain ⟨tv, P, T, Z, pz, hx⟩ := kit_D cf I rl r1 dn (t := .cls c) rfl
  cases (show u2 = Value.type "ValueError" from r2)
  cases T with
  | cls hc => exact PySem.W.kia_one Z I.kIn pz (ve.at' _ _ hc) hx fun tk => ⟨.bl true, H, I.tok tk, rfl, q⟩
theorem isVE_step {σ : L2.St} {H : Hp} {Q : VK} (q : tE X.K cm W (sIsVE fe) σ H Q) : tE X.K cm W fe σ H fun v H1 => rIsVE cm X.K [v, .ty "ValueError"] H1 Q := by
  obtain ⟨g, ρ, rl, de, q⟩ := q
  refine ⟨g, ρ, rl, de, RP.mono (RP.step q) fun v H1 ⟨d, g1, e1, rl1, dn, q1⟩ => ?_⟩
  have hd : ∃ c fs, d = .exc c fs := by cases d <;> first | exact q1.elim | exact ⟨_, _, rfl⟩
  obtain ⟨c, fs, rfl⟩ := hd
  exact ⟨g1, v, c, fs, rfl, rl1, dn, RP.ret q1 rl1 (.bl true)⟩
theorem ve_isVE (cf : CFacts X.K cm sub) (ve : VeF X.K cm) (he : VE X cm W e fe) (hg : Gl X "isinstance") (hm : X.mg "isinstance" = none) (hv : bootBuiltins "isinstance" = some (.builtin "isinstance")) (hg2 : Gl X "ValueError") (hm2 : X.mg "ValueError" = none) (hv2 : bootBuiltins "ValueError" = some (.type "ValueError"))
    (hs : starEach [e, .Name "ValueError" p2] X.env = (false, eval e X.env) :: starEach [.Name "ValueError" p2] X.env := by rfl) (hpl : (backTo pos (starEach [.Name "ValueError" p2] X.env)).any (·.1) = false := by rfl) :
    VE X cm W (.Call (.Name "isinstance" p) [e, .Name "ValueError" p2] [] pos) (sIsVE fe) :=
  PE.imp (pe_callB (call_isVE cf ve) hg hm hv (pa_cons he (pa_cons (pe_bltn (v := .ty "ValueError") hg2 hm2 hv2 rfl) pa_nil) hs) (by decide) (by decide) hs hpl) fun σ H Q q => isVE_step q
end
end VS
end
section
set_option Elab.async false
set_option linter.all false
set_option maxRecDepth 100000
set_option maxHeartbeats 4000000
/-! VS: list(text), a sign not in a text -/
namespace VS
open PySem PySem.Spec PyProof.Rows L2
section
variable {X : Cx} {cm : CM}
def rListS : List V → Hp → VK → Prop := fun xs H Q => ∃ x : Str, xs = [.str x] ∧ x.cps.size ≤ sizeLine ∧ ∀ l, H l = none → Q (.ref l) (upd H l (.lst (x.cps.toList.map fun c => V.str ⟨#[c]⟩)))
theorem call_listS (hc : X.calm = true) : CallR X (.type "list") rListS := by
  intro pins s σ H xs us Q I r h
  obtain ⟨x, rfl, hz, q⟩ := h
  obtain ⟨u, rfl, r1⟩ := vals1 r
  obtain ⟨t, rfl⟩ := r1
  refine PySem.call_list_str (I.ok.hd hc) x t (fun h' tk acc c' hk e' hi => ?_) hz
  refine ⟨.ref s.heap.objs.size, upd H s.heap.objs.size (.lst (x.cps.toList.map fun c => V.str ⟨#[c]⟩)), I.laid hk (Nat.le_refl _) (show ObjOk X.prog X.w _ _ _ (.lst (x.cps.toList.map fun c => V.str ⟨#[c]⟩)) from ⟨by simpa using hz, acc.toList, c', ?_, by rw [Array.toArray_toList]; exact e'⟩), rfl, q _ (I.hok.fresh (Nat.le_refl _))⟩
  refine L2.vals_of_at ?_ fun j y u h1 h2 => ?_
  · rw [List.length_map, Array.length_toList, Array.length_toList]
    exact hi.1.symm
  · rw [Array.getElem?_toList] at h2
    obtain ⟨c, tk, e1, e2⟩ := hi.2 j u h2
    rw [List.getElem?_map, Array.getElem?_toList, e1] at h1
    cases h1
    subst e2
    exact ⟨tk, rfl⟩
theorem denL_signs {K : PySem.W.Frag} {g : G} : ∀ l : List Nat, DenL K cm g (l.map fun c => V.str ⟨#[c]⟩) (l.map fun c => D.str ⟨#[c]⟩)
  | [] => .nil
  | c :: l => .cons (.str _) (denL_signs l)
def listFS (ds : List D) (S : Store) : R (List D) := match ds with
  | [.str x] => if x.cps.size ≤ 1000000 then .ok (x.cps.toList.map fun c => D.str ⟨#[c]⟩) S else .bad
  | ds => listF ds S
theorem listFS_gen {r : List V → Hp → VK → Prop} (h : CallF X cm r listF) : CallF X cm (fun xs H Q => rListS xs H Q ∨ r xs H Q) listFS := by
  intro W g H xs ds Q rl dl q
  unfold listFS at q
  split at q
  · rename_i x
    obtain ⟨y, rfl, h1⟩ := one_of (α := Unit) dl
    cases h1
    split at q
    · rename_i hz
      exact .inl ⟨x, rfl, Nat.le_of_lt (Nat.lt_of_le_of_lt hz (by decide)), fun l hl => FP.new q rl (denL_signs _) hl⟩
    · exact q.elim
  · exact .inr (h W g H xs ds Q rl dl q)
theorem listFS_ok : CallF X cm (fun xs H Q => rListS xs H Q ∨ ∃ p ys, xs = [.ref p] ∧ (SqL X.K H p ys ∨ SqT X.K H p ys) ∧ ∀ l, H l = none → Q (.ref l) (upd H l (.lst ys))) listFS := listFS_gen listF_ok
theorem call_list_any (hc : X.calm = true) : CallR X (.type "list") (fun xs H Q => rListS xs H Q ∨ ∃ p ys, xs = [.ref p] ∧ (SqL X.K H p ys ∨ SqT X.K H p ys) ∧ ∀ l, H l = none → Q (.ref l) (upd H l (.lst ys))) := CallR.or (call_listS hc) call_list_of
/-! ### not in a text -/
def ninS (a b : D) (S : Store) : R D := match a, b with
  | .str i, .str j => .ok (.bl (!(!(Builtin.Str.occurrences j i 0 j.length 1).isEmpty))) S
  | _, _ => .bad
theorem ninS_ok : OpD X cm (fun x y H Q => ∃ i j, x = .str i ∧ y = .str j ∧ Q (.bl (!(!(Builtin.Str.occurrences j i 0 j.length 1).isEmpty))) H) ninS := by
  intro W g H x y a b Q rl da db q
  unfold ninS at q
  split at q
  · cases da
    cases db
    exact ⟨_, _, rfl, rfl, RP.ret q rl (.bl _)⟩
  · exact q.elim
def ninA (a b : D) (S : Store) : R D := if isStrD b = true then ninS a b S else ninD a b S
theorem ninA_ok : OpD X cm (fun x y H Q => (∃ i j, x = .str i ∧ y = .str j ∧ Q (.bl (!(!(Builtin.Str.occurrences j i 0 j.length 1).isEmpty))) H) ∨ rIn X.K true x y H Q) ninA := OpD.or (p := fun _ b _ => isStrD b) ninS_ok ninD_ok
theorem op_ninA : OpR X (compareOp .NotIn) (fun x y H Q => (∃ i j, x = .str i ∧ y = .str j ∧ Q (.bl (!(!(Builtin.Str.occurrences j i 0 j.length 1).isEmpty))) H) ∨ rIn X.K true x y H Q) := op_notin_str.or op_notIn_seq
theorem ninA_bl : BlD ninA := fun a b S d S' h => by
  unfold ninA at h
  split at h
  · unfold ninS at h
    split at h
    · cases h
      exact ⟨_, rfl⟩
    · cases h
  · exact ninD_bl a b S d S' h
def inAS (a b : D) (S : Store) : R D := match a, b with
  | .str i, .str j => .ok (.bl (!(Builtin.Str.occurrences j i 0 j.length 1).isEmpty)) S
  | _, _ => .bad
theorem inAS_ok : OpD X cm (fun x y H Q => ∃ i j, x = .str i ∧ y = .str j ∧ Q (.bl (!(Builtin.Str.occurrences j i 0 j.length 1).isEmpty)) H) inAS := by
  intro W g H x y a b Q rl da db q
  unfold inAS at q
  split at q
  · cases da
    cases db
    exact ⟨_, _, rfl, rfl, RP.ret q rl (.bl _)⟩
  · exact q.elim
end
end VS
end
section
set_option Elab.async false
set_option linter.all false
set_option maxRecDepth 100000
set_option maxHeartbeats 4000000
/-! VS: for plain laws: a third kind of draw -/
namespace VS
open PySem PySem.Spec PyProof.Rows L2
section
variable {sc : List Int} {at' c : Int} {T : Store} {v : D}
abbrev drawGreatB : SS := (sIte (tAndF (tTru (sBin ltD (sVar 3) (sCall lenD (aCons (sBin ixGet (sVar 0) (sC (.int 0))) aNil)))) (tTru (sBin geD (sCall absD (aCons (sVar 4) aNil)) (sBin powD (sC (.int 10)) (sC (.int 18)))))) (sSeq (sAsg (sBin addD (sBin mulA (sC (.int 2)) (sBin subD (sCall absD (aCons (sCall intD (aCons (sVar 4) aNil)) aNil)) (sBin powD (sC (.int 10)) (sC (.int 18))))) (sCall intD (aCons (sBin ltD (sVar 4) (sC (.int 0))) aNil))) (gVar 2)) (sSeq (sAsg (sBin fdivD (sVar 2) (sVar 1)) (gSubD (sVar 0) (sC (.int 2)))) (sRet (sBin modD (sCall intD (aCons (sVar 2) aNil)) (sVar 1))))) sSkip)
abbrev drawBB (C : DrawC) : SS := (sSeq (sIte (tTru (sBin gtD (sBin ixGet (sVar 0) (sC (.int 2))) (sC (.int 0)))) (sSeq (sAsg (sCall intD (aCons (sBin ixGet (sVar 0) (sC (.int 2))) aNil)) (gVar 2)) (sSeq (sAsg (sBin fdivD (sVar 2) (sVar 1)) (gSubD (sVar 0) (sC (.int 2)))) (sRet (sBin modD (sCall intD (aCons (sVar 2) aNil)) (sVar 1))))) sSkip) (sSeq (sAsg (sBin ixGet (sVar 0) (sC (.int 1))) (gVar 3)) (sSeq (sAsg (sBin addD (sVar 3) (sC (.int 1))) (gSubD (sVar 0) (sC (.int 1)))) (sSeq (sAsg (sBin addD (sBin mulA (sC (.int C.a)) (sVar 3)) (sC (.int C.b))) (gVar 4)) (sSeq (drawMid C) (sSeq drawGreatB (sSeq (sAsg (sBin modD (sCall intD (aCons (sBin powD (sBin addD (sBin addD (sBin modD (sCall intD (aCons (sVar 4) aNil)) (sC (.int C.m1))) (sBin mulA (sC (.int C.c)) (sVar 3))) (sC (.int C.d))) (sC (.int C.x))) aNil)) (sC (.int C.m2))) (gVar 5)) (sSeq (sAsg (sBin modD (sCall intD (aCons (sBin powD (sBin addD (sBin addD (sBin mulA (sVar 5) (sBin addD (sBin mulA (sC (.int 2)) (sVar 3)) (sC (.int C.e)))) (sBin mulA (sBin mulA (sC (.int C.f)) (sVar 3)) (sVar 3))) (sC (.int C.g))) (sC (.int C.y))) aNil)) (sC (.int C.m3))) (gVar 5)) (sRet (sBin modD (sCall intD (aCons (sBin fdivD (sVar 5) (sC (.int C.dv))) aNil)) (sVar 1)))))))))))
theorem drawBB_digit {C : DrawC} {many : Int} (h : 0 < many) (h2 : many.natAbs.log2 < 8000) (hc : 0 < c) : fin (T.length + 1) (drawBB C [some (.cel 0), some (.int many), none, none, none, none] (Pn sc at' c :: T)) = .ok (.int (c % many)) (Pn sc at' (c / many) :: T) := by
  unfold drawBB
  simp only [seqS_e, ite_e (t := tTru (sBin gtD (sBin ixGet (sVar 0) (sC (.int 2))) (sC (.int 0))))]
  simp [-seqS_e, -ite_e, pn2, hc]
  simp [-ite_e, pn2, mod_e h, fdiv_w h h2, setI_e, pst2]
theorem drawBB_e {C : DrawC} (O : C.Ok) {many : Int} (hm : 0 < many) (h2 : many.natAbs.log2 < 8000) (hc : ¬ 0 < c) (h0 : 0 ≤ at') (h1 : at' ≤ 1000000) : ∃ r c', 0 ≤ r ∧ r < many ∧ fin (T.length + 1) (drawBB C [some (.cel 0), some (.int many), none, none, none, none] (Pn sc at' c :: T)) = .ok (.int r) (Pn sc (at' + 1) c' :: T) := by
  obtain ⟨a1, a2⟩ := O.a
  obtain ⟨b1, b2⟩ := O.b
  obtain ⟨m11, m12⟩ := O.m1
  obtain ⟨c1, c2⟩ := O.c
  obtain ⟨d1, d2⟩ := O.d
  have x1 := O.x
  obtain ⟨m21, m22⟩ := O.m2
  obtain ⟨e1, e2⟩ := O.e
  obtain ⟨f1, f2⟩ := O.f
  obtain ⟨g1, g2⟩ := O.g
  have y1 := O.y
  obtain ⟨m31, m32⟩ := O.m3
  obtain ⟨v1, v2⟩ := O.dv
  obtain ⟨a, b, m1, cc, d, x, m2, e, f, g, y, m3, dv⟩ := C
  simp only at *
  unfold drawBB
  simp only [seqS_e, ite_e (t := tTru (sBin gtD (sBin ixGet (sVar 0) (sC (.int 2))) (sC (.int 0))))]
  simp [-seqS_e, -ite_e, pn2, hc]
  simp only [seqS_e, asg_e]
  simp [-seqS_e, -ite_e, pn1]
  simp only [seqS_e, setI_e]
  simp [-seqS_e, -ite_e, pst1]
  simp only [seqS_e, asg_e]
  simp [-seqS_e, -ite_e, mul_l (i := a) (by omega)]
  unfold drawMid
  simp only [seqS_e, ite_e (t := tTru (sBin neD (sBin ixGet (sVar 0) (sC (.int 0))) (immF (fLst aNil))))]
  simp [-seqS_e, -ite_e, pn0, ne_row]
  have hce : ∃ cell : Int, (if sc = [] then RS.nx [some (D.cel 0), some (D.int many), none, some (D.int at'), some (D.int (a * at' + b)), none] (Pn sc (at' + 1) c :: T)
      else RS.of [some (D.cel 0), some (D.int many), none, some (D.int at'), some (D.int (a * at' + b)), none]
        ((modD (D.int at') (D.int ((row sc).length : Int)) (Pn sc (at' + 1) c :: T)).bind fun b S2 => ixGet (D.lst (row sc)) b S2) fun d S1 => RS.nx [some (D.cel 0), some (D.int many), none, some (D.int at'), some d, none] S1) =
      RS.nx [some (D.cel 0), some (D.int many), none, some (D.int at'), some (D.int cell), none] (Pn sc (at' + 1) c :: T) := by
    by_cases hs : sc = []
    · exact ⟨a * at' + b, by simp [hs]⟩
    · have hl : (0 : Int) < (row sc).length := by
        rw [row_len]
        have := List.length_pos_iff.mpr hs
        omega
      refine ⟨sc.getD (at' % (row sc).length).toNat 0, ?_⟩
      rw [if_neg hs, mod_e hl, bind_ok, ix_lst, ixLI _ _ (Int.emod_nonneg _ (by omega)) (by rw [← row_len]; exact Int.emod_lt_of_pos _ hl)]
      rfl
  obtain ⟨cell, hce⟩ := hce
  rw [hce, seq_nx]
  unfold drawGreatB
  simp only [seqS_e]
  simp only [ite_e (t := tAndF (tTru (sBin ltD (sVar 3) (sCall lenD (aCons (sBin ixGet (sVar 0) (sC (.int 0))) aNil)))) (tTru (sBin geD (sCall absD (aCons (sVar 4) aNil)) (sBin powD (sC (.int 10)) (sC (.int 18))))))]
  have e18 : ∀ S : Store, powD (.int 10) (.int 18) S = .ok (.int (10 ^ 18)) S := fun S => pow_e (i := 10) (j := 18) (by decide) (by decide) S
  by_cases hg : at' < ((row sc).length : Int) ∧ (10 : Int) ^ 18 ≤ (if cell < 0 then -cell else cell)
  · have hg1 := hg.1
    have hg2 := hg.2
    simp at hg2
    simp [-seqS_e, -ite_e, pn0, e18, abs_e, hg1, hg2]
    simp [-ite_e, mul_l, e18, abs_e, fdiv_w hm h2, mod_e hm, setI_e, pst2]
    refine ⟨_, ?_, ?_, rfl, _, rfl⟩
    · exact Int.emod_nonneg _ (by omega)
    · exact Int.emod_lt_of_pos _ hm
  · have hno : (tAndF (tTru (sBin ltD (sVar 3) (sCall lenD (aCons (sBin ixGet (sVar 0) (sC (.int 0))) aNil)))) (tTru (sBin geD (sCall absD (aCons (sVar 4) aNil)) (sBin powD (sC (.int 10)) (sC (.int 18)))))) [some (D.cel 0), some (D.int many), none, some (D.int at'), some (D.int cell), none] (Pn sc (at' + 1) c :: T) = .ok false (Pn sc (at' + 1) c :: T) := by
      by_cases hg1 : at' < ((row sc).length : Int)
      · have hg2 : ¬ (10 : Int) ^ 18 ≤ (if cell < 0 then -cell else cell) := fun h => hg ⟨hg1, h⟩
        simp at hg2
        simp [pn0, e18, abs_e, hg1, hg2]
      · simp [pn0, hg1]
    rw [hno]
    simp only [of_ok, Bool.false_eq_true, if_false, skip_e, seq_nx]
    have n0 : 0 ≤ cell % m1 := Int.emod_nonneg _ (by omega)
    have n1 : cell % m1 < m1 := Int.emod_lt_of_pos _ (by omega)
    have k1 : cc * at' ≤ 1000000 * 1000000 := Int.mul_le_mul c2 h1 h0 (by omega)
    have k0 : 0 ≤ cc * at' := Int.mul_nonneg c1 h0
    have p3' := fun S => pow_e (i := cell % m1 + cc * at' + d) (j := x) (by omega) (by omega) S
    simp only [seqS_e]
    rw [asg_e]
    simp [-seqS_e, -ite_e, mod_e m11, mod_e m21, mul_l (i := cc) (by omega), p3']
    obtain ⟨m, hm0⟩ : ∃ m, m = (cell % m1 + cc * at' + d) ^ x % m2 := ⟨_, rfl⟩
    have m0 : 0 ≤ m := hm0 ▸ Int.emod_nonneg _ (by omega)
    have m1' : m < m2 := hm0 ▸ Int.emod_lt_of_pos _ (by omega)
    rw [← hm0]
    simp only [seqS_e]
    rw [asg_e]
    have t1 : m * (2 * at' + e) ≤ 2147483648 * (2 * 1000000 + 1000000) := Int.mul_le_mul (by omega) (by omega) (by omega) (by omega)
    have t2 : 0 ≤ m * (2 * at' + e) := Int.mul_nonneg m0 (by omega)
    have t3 : f * at' ≤ 1000000 * 1000000 := Int.mul_le_mul f2 h1 h0 (by omega)
    have t4 : 0 ≤ f * at' := Int.mul_nonneg f1 h0
    have t5 : f * at' * at' ≤ 1000000 * 1000000 * 1000000 := Int.mul_le_mul t3 h1 h0 (by omega)
    have t6 : 0 ≤ f * at' * at' := Int.mul_nonneg t4 h0
    have q1 : ∀ S : Store, mulD (.int m) (.int (2 * at' + e)) S = .ok (.int (m * (2 * at' + e))) S := fun S => mul_l (by omega) S
    have q2 : ∀ S : Store, mulD (.int (f * at')) (.int at') S = .ok (.int (f * at' * at')) S := fun S => mul_l (by omega) S
    have p5' := fun S => pow_e (i := m * (2 * at' + e) + f * at' * at' + g) (j := y) (by omega) (by omega) S
    simp [-seqS_e, -ite_e, mod_e m31, mul_l (i := f) (by omega), mul_l (i := 2) (by omega), q1, q2, p5']
    refine ⟨((m * (2 * at' + e) + f * at' * at' + g) ^ y % m3) / dv % many, Int.emod_nonneg _ (by omega), Int.emod_lt_of_pos _ hm, c, ?_⟩
    simp [fdiv_e v1 (by omega), mod_e hm]
end

theorem drawB_of2 {C : DrawC} (O : C.Ok) {F : Fn} (hF : F = runB 6 (drawBB C)) : Draws F := by
  intro N many p T hp hN h1 h2'
  have h2 := log_small h2'
  subst hF
  obtain ⟨sc, a, c, rfl, ha, hb⟩ := hp
  rw [runB_e]
  by_cases hc : 0 < c
  · exact ⟨c % many, _, Int.emod_nonneg _ (by omega), Int.emod_lt_of_pos _ h1, ⟨sc, a, c / many, rfl, ha, by omega⟩, drawBB_digit h1 h2 hc⟩
  · obtain ⟨r, c', r0, r1, e⟩ := drawBB_e (sc := sc) (at' := a) (c := c) (T := T) O h1 h2 hc ha (by omega)
    exact ⟨r, _, r0, r1, ⟨sc, a + 1, c', rfl, by omega, by omega⟩, e⟩
end VS
end
section
set_option Elab.async false
set_option linter.all false
set_option maxRecDepth 100000
set_option maxHeartbeats 4000000
/-! VS: what is heard is told in a list: one if of it -/
namespace VS
open PySem PySem.Spec PyProof.Rows L2
theorem try_exc {sub : Nat → Nat → Bool} {c i : Nat} {fb fs : SS} {ρ ρ1 ρ2 : VS.Env} {S S1 S2 : Store} {x : Ex} (h : fb ρ S = .exc x ρ1 S1) (hs : sub x.c c = true) (h2 : fs (ρ1.set i (some (.exc x.c x.fs))) S1 = .nx ρ2 S2) : sTry sub c i fb fs ρ S = .nx (ρ2.set i none) S2 := by
  unfold sTry
  rw [h]
  simp only [hs, h2]
theorem tell_no {sub : Nat → Nat → Bool} {c k : Nat} {fs : List (Str × D)} {B : SS} {ρ : VS.Env} {S : Store} (h : ρ[1]? = some (some (.exc c fs))) (hs : sub c k = false) :
    (sIte (tTru (sCall (isiD sub) (aCons (sVar 1) (aCons (sC (.cls k)) aNil)))) B sSkip) ρ S = .nx ρ S := by
  simp -implicitDefEqProofs [h, isiD, lookT, tyD, isOne, hs]
theorem tell_yes {sub : Nat → Nat → Bool} {isX : Nat → Bool} {c k : Nat} {fs : List (Str × D)} {ρ : VS.Env} {S : Store} {f : Str} {nm : Str} {d : D} {xs : List D} (h : ρ[1]? = some (some (.exc c fs))) (h4 : ρ[4]? = some (some (.cel S.length))) (hs : sub c k = true) (hx : isX c = true) (hf : fs.lookup f = some d) (hl : xs.length < sizeLine) :
    (sIte (tTru (sCall (isiD sub) (aCons (sVar 1) (aCons (sC (.cls k)) aNil)))) (sExpr (mList appendD (sVar 4) (aCons (sTup (aCons (sC (.str nm)) (aCons (sXf isX f (sVar 1)) aNil))) aNil))) sSkip) ρ (S ++ [.lst xs]) = .nx ρ (S ++ [.lst (xs ++ [.tup [.str nm, d]])]) := by
  have e1 := isL_last S xs
  have e2 := app_last S xs (.tup [.str nm, d]) hl
  have e3 : sXf isX f (sVar 1) ρ (S ++ [.lst xs]) = .ok d (S ++ [.lst xs]) := by
    unfold sXf
    simp [h, hx, hf]
  generalize sXf isX f (sVar 1) = u at *
  simp -implicitDefEqProofs [h, h4, isiD, lookT, tyD, isOne, hs, e1, e2, e3]
end VS
end
section
set_option Elab.async false
set_option pp.maxSteps 100
set_option linter.all false
set_option maxRecDepth 100000
set_option maxHeartbeats 4000000
/-! printed by gen.py: the defs of k05 as plain functions, and that they are so -/
namespace K05
open PySem PySem.Spec PyProof.Rows L2 VS
def top (i : Nat) : Stmt := PySem.Challenge.pw_everrang_k05_rests_and_changes.main.body.getD i (.Pass ⟨0, 0, 0, 0⟩)
abbrev st__law_pen : Stmt := top 35
abbrev st_degree_of : Stmt := top 21
abbrev st_rest_number : Stmt := top 22
abbrev st_bits_of_rest : Stmt := top 23
abbrev st_rest_of : Stmt := top 24
abbrev st_is_bits : Stmt := top 17
abbrev st_is_guard : Stmt := top 27
abbrev st_need_guard : Stmt := top 28
abbrev st_need_bits : Stmt := top 29
abbrev st_rest_by : Stmt := top 31
abbrev st_guarded : Stmt := top 25
abbrev st_with_guard : Stmt := top 32
abbrev st_with_changes : Stmt := top 26
abbrev st_is_integer : Stmt := top 14
abbrev st_is_within : Stmt := top 15
abbrev st_is_listed : Stmt := top 16
abbrev st_is_change : Stmt := top 30
abbrev st_changed : Stmt := top 33
abbrev st__law_draw : Stmt := top 36
abbrev st__law_pick : Stmt := top 37
abbrev st__law_rest : Stmt := top 39
abbrev st__law_with_guard : Stmt := top 40
abbrev st__law_guard : Stmt := top 41
abbrev st__law_bits : Stmt := top 42
abbrev st__law_change : Stmt := top 43
abbrev st__law_sum : Stmt := top 44
abbrev st__law_places : Stmt := top 45
abbrev st__law_heard : Stmt := top 38
abbrev st__law_refused : Stmt := top 47
abbrev st__law_right : Stmt := top 46
abbrev st_law : Stmt := top 48
abbrev cBellError : Nat := 0
abbrev cBadNumber : Nat := 1
abbrev cBadBits : Nat := 2
abbrev cBadTable : Nat := 3
abbrev cBadBook : Nat := 4
abbrev cBadRow : Nat := 5
abbrev cBadPattern : Nat := 6
abbrev cBadPaper : Nat := 7
abbrev cMisfit : Nat := 8
abbrev cBadText : Nat := 9
abbrev cBadWord : Nat := 10
abbrev cTooMany : Nat := 11
abbrev fsBadNumber : List Str := ["part"]
abbrev fsBadBits : List Str := ["part"]
abbrev fsBadTable : List Str := ["part"]
abbrev fsBadBook : List Str := ["part"]
abbrev fsBadRow : List Str := ["part"]
abbrev fsBadPattern : List Str := ["part"]
abbrev fsBadPaper : List Str := ["part"]
abbrev fsMisfit : List Str := ["part"]
abbrev fsBadText : List Str := ["line", "word"]
abbrev fsBadWord : List Str := ["word"]
abbrev fsTooMany : List Str := ["what", "most"]
def subT : List (List Nat) := [[0], [1, 0], [2, 0], [3, 0], [4, 0], [5, 0], [6, 0], [7, 0], [8, 0], [9, 0], [10, 0], [11, 0]]
def sub (a b : Nat) : Bool := (subT.getD a []).contains b
def isX (c : Nat) : Bool := ([0, 1, 2, 3, 4, 5, 6, 7, 8, 9, 10, 11] : List Nat).contains c
noncomputable def b__law_pen : SS := (sRet (mutF (fLst (aCons (immF (fLc (iOver (sSlice (sVar 0) oNone (oSome (sC (.int 62))))) (gVar 1) tAll (sCall intD (aCons (sVar 1) aNil)) [1])) (aCons (sC (.int 0)) (aCons (sC (.int 0)) aNil))))))
noncomputable def F__law_pen : Fn := runB 2 b__law_pen
noncomputable def b_degree_of : SS := (sRet (sBin subD (sCall lenD (aCons (sVar 0) aNil)) (sC (.int 1))))
noncomputable def F_degree_of : Fn := runB 1 b_degree_of
noncomputable def b_rest_number : SS := (sSeq (sPar 2 3 (aCons (sCall intB (aCons (sVar 1) (aCons (sC (.int 2)) aNil))) (aCons (sApp 1 F_degree_of (aCons (sVar 1) aNil)) aNil))) (sSeq (sAsg (sC (.int 0)) (gVar 4)) (sSeq (sFor (iStrO (sVar 0)) (gVar 5) (sSeq (sAsg (sBin addD (sBin mulA (sC (.int 2)) (sVar 4)) (sCall intD (aCons (sBin eqD (sVar 5) (sC (.str "1"))) aNil))) (gVar 4)) (sIte (tTru (sBin neD (sBin shrD (sVar 4) (sVar 3)) (sC (.int 0)))) (sAsg (sBin xorD (sVar 4) (sVar 2)) (gVar 4)) sSkip))) (sRet (sVar 4)))))
noncomputable def F_rest_number : Fn := runB 6 b_rest_number
noncomputable def b_bits_of_rest : SS := (sRet (mStr zfillD (sFmtB (sVar 0)) (aCons (sApp 1 F_degree_of (aCons (sVar 1) aNil)) aNil)))
noncomputable def F_bits_of_rest : Fn := runB 2 b_bits_of_rest
noncomputable def b_rest_of : SS := (sRet (sApp 2 F_bits_of_rest (aCons (sApp 2 F_rest_number (aCons (sVar 0) (aCons (sVar 1) aNil))) (aCons (sVar 1) aNil))))
noncomputable def F_rest_of : Fn := runB 2 b_rest_of
noncomputable def b_is_bits : SS := (sRet (sAnd (sCall (isiD sub) (aCons (sVar 0) (aCons (sC (.ty .str)) aNil))) (sCall allD (aCons (immF (fLc (iStrO (sVar 0)) (gVar 1) tAll (sBin inA (sVar 1) (sC (.str "01"))) [1])) aNil))))
noncomputable def F_is_bits : Fn := runB 2 b_is_bits
noncomputable def b_is_guard : SS := (sRet (sAnd (sApp 1 F_is_bits (aCons (sVar 0) aNil)) (sAnd (sChain leD leD (sC (.int 2)) (sCall lenD (aCons (sVar 0) aNil)) (sBin addD (sC (.int 16)) (sC (.int 1)))) (sAnd (sBin eqD (sBin ixGet (sVar 0) (sC (.int 0))) (sC (.str "1"))) (sBin eqD (sBin ixGet (sVar 0) (sNeg (sC (.int 1)))) (sC (.str "1")))))))
noncomputable def F_is_guard : Fn := runB 1 b_is_guard
noncomputable def b_need_guard : SS := (sIte (tNotF (tTru (sApp 1 F_is_guard (aCons (sVar 0) aNil)))) (sRaise cBadBits fsBadBits (aCons (sC (.str "guard")) aNil)) sSkip)
noncomputable def F_need_guard : Fn := runB 1 b_need_guard
noncomputable def b_need_bits : SS := (sIte (tNotF (tTru (sApp 1 F_is_bits (aCons (sVar 0) aNil)))) (sRaise cBadBits fsBadBits (aCons (sVar 1) aNil)) sSkip)
noncomputable def F_need_bits : Fn := runB 2 b_need_bits
noncomputable def b_rest_by : SS := (sSeq (sExpr (sApp 1 F_need_guard (aCons (sVar 0) aNil))) (sSeq (sExpr (sApp 2 F_need_bits (aCons (sVar 1) (aCons (sC (.str "bits")) aNil)))) (sRet (sApp 2 F_rest_of (aCons (sVar 1) (aCons (sVar 0) aNil))))))
noncomputable def F_rest_by : Fn := runB 2 b_rest_by
noncomputable def b_guarded : SS := (sRet (sBin addD (sVar 0) (sApp 2 F_rest_of (aCons (sBin addD (sVar 0) (sBin mulA (sC (.str "0")) (sApp 1 F_degree_of (aCons (sVar 1) aNil)))) (aCons (sVar 1) aNil)))))
noncomputable def F_guarded : Fn := runB 2 b_guarded
noncomputable def b_with_guard : SS := (sSeq (sExpr (sApp 1 F_need_guard (aCons (sVar 0) aNil))) (sSeq (sExpr (sApp 2 F_need_bits (aCons (sVar 1) (aCons (sC (.str "bits")) aNil)))) (sRet (sApp 2 F_guarded (aCons (sVar 1) (aCons (sVar 0) aNil))))))
noncomputable def F_with_guard : Fn := runB 2 b_with_guard
noncomputable def b_with_changes : SS := (sSeq (sAsg (mutF (fCall listFS (aCons (sVar 0) aNil))) (gVar 2)) (sSeq (sFor (iOver (sVar 1)) (gVar 3) (sAsg (sIf (tTru (sBin eqD (sBin ixGet (sVar 2) (sVar 3)) (sC (.str "1")))) (sC (.str "0")) (sC (.str "1"))) (gSubD (sVar 2) (sVar 3)))) (sRet (mStr joinD (sC (.str "")) (aCons (sVar 2) aNil)))))
noncomputable def F_with_changes : Fn := runB 4 b_with_changes
noncomputable def b_is_integer : SS := (sRet (sAnd (sCall (isiD sub) (aCons (sVar 0) (aCons (sC (.ty .int)) aNil))) (sNot (sCall (isiD sub) (aCons (sVar 0) (aCons (sC (.ty .bl)) aNil))))))
noncomputable def F_is_integer : Fn := runB 1 b_is_integer
noncomputable def b_is_within : SS := (sRet (sAnd (sApp 1 F_is_integer (aCons (sVar 0) aNil)) (sAnd (sOr (sBin isD (sVar 1) (sC .non)) (sBin geD (sVar 0) (sVar 1))) (sOr (sBin isD (sVar 2) (sC .non)) (sBin leD (sVar 0) (sVar 2))))))
noncomputable def F_is_within : Fn := runB 3 b_is_within
noncomputable def b_is_listed : SS := (sRet (sCall (isiD sub) (aCons (sVar 0) (aCons (sTup (aCons (sC (.ty .lst)) (aCons (sC (.ty .tup)) aNil))) aNil))))
noncomputable def F_is_listed : Fn := runB 1 b_is_listed
noncomputable def b_is_change : SS := (sSeq (sIte (tOrF (tNotF (tTru (sApp 1 F_is_listed (aCons (sVar 0) aNil)))) (tNotF (tTru (sCall allD (aCons (immF (fLc (iOver (sVar 0)) (gVar 2) tAll (sApp 3 F_is_within (aCons (sVar 2) (aCons (sC (.int 0)) (aCons (sBin subD (sVar 1) (sC (.int 1))) aNil)))) [2])) aNil))))) (sRet (sC (.bl false))) sSkip) (sRet (sCall allD (aCons (immF (fLc (iRange1 (aCons (sBin subD (sCall lenD (aCons (sVar 0) aNil)) (sC (.int 1))) aNil)) (gVar 3) tAll (sBin ltD (sBin ixGet (sVar 0) (sVar 3)) (sBin ixGet (sVar 0) (sBin addD (sVar 3) (sC (.int 1))))) [3])) aNil))))
noncomputable def F_is_change : Fn := runB 4 b_is_change
noncomputable def b_changed : SS := (sSeq (sExpr (sApp 2 F_need_bits (aCons (sVar 0) (aCons (sC (.str "bits")) aNil)))) (sSeq (sIte (tNotF (tTru (sApp 2 F_is_change (aCons (sVar 1) (aCons (sCall lenD (aCons (sVar 0) aNil)) aNil))))) (sRaise cBadRow fsBadRow (aCons (sC (.str "places")) aNil)) sSkip) (sRet (sApp 2 F_with_changes (aCons (sVar 0) (aCons (sVar 1) aNil))))))
noncomputable def F_changed : Fn := runB 2 b_changed
noncomputable def b__law_draw : SS := (sSeq (sIte (tTru (sBin gtD (sBin ixGet (sVar 0) (sC (.int 2))) (sC (.int 0)))) (sSeq (sAsg (sCall intD (aCons (sBin ixGet (sVar 0) (sC (.int 2))) aNil)) (gVar 2)) (sSeq (sAsg (sBin fdivD (sVar 2) (sVar 1)) (gSubD (sVar 0) (sC (.int 2)))) (sRet (sBin modD (sCall intD (aCons (sVar 2) aNil)) (sVar 1))))) sSkip) (sSeq (sAsg (sBin ixGet (sVar 0) (sC (.int 1))) (gVar 3)) (sSeq (sAsg (sBin addD (sVar 3) (sC (.int 1))) (gSubD (sVar 0) (sC (.int 1)))) (sSeq (sAsg (sBin addD (sBin mulA (sC (.int 224477)) (sVar 3)) (sC (.int 9173))) (gVar 4)) (sSeq (sIte (tTru (sBin neD (sBin ixGet (sVar 0) (sC (.int 0))) (immF (fLst aNil)))) (sAsg (sBin ixGet (sBin ixGet (sVar 0) (sC (.int 0))) (sBin modD (sCall intD (aCons (sVar 3) aNil)) (sCall lenD (aCons (sBin ixGet (sVar 0) (sC (.int 0))) aNil)))) (gVar 4)) sSkip) (sSeq (sIte (tAndF (tTru (sBin ltD (sVar 3) (sCall lenD (aCons (sBin ixGet (sVar 0) (sC (.int 0))) aNil)))) (tTru (sBin geD (sCall absD (aCons (sVar 4) aNil)) (sBin powD (sC (.int 10)) (sC (.int 18)))))) (sSeq (sAsg (sBin addD (sBin mulA (sC (.int 2)) (sBin subD (sCall absD (aCons (sCall intD (aCons (sVar 4) aNil)) aNil)) (sBin powD (sC (.int 10)) (sC (.int 18))))) (sCall intD (aCons (sBin ltD (sVar 4) (sC (.int 0))) aNil))) (gVar 2)) (sSeq (sAsg (sBin fdivD (sVar 2) (sVar 1)) (gSubD (sVar 0) (sC (.int 2)))) (sRet (sBin modD (sCall intD (aCons (sVar 2) aNil)) (sVar 1))))) sSkip) (sSeq (sAsg (sBin modD (sCall intD (aCons (sBin powD (sBin addD (sBin addD (sBin modD (sCall intD (aCons (sVar 4) aNil)) (sC (.int 2147483563))) (sBin mulA (sC (.int 224477)) (sVar 3))) (sC (.int 9173))) (sC (.int 5))) aNil)) (sC (.int 2147483399))) (gVar 5)) (sSeq (sAsg (sBin modD (sCall intD (aCons (sBin powD (sBin addD (sBin addD (sBin mulA (sVar 5) (sBin addD (sBin mulA (sC (.int 2)) (sVar 3)) (sC (.int 7717)))) (sBin mulA (sBin mulA (sC (.int 9173)) (sVar 3)) (sVar 3))) (sC (.int 224477))) (sC (.int 3))) aNil)) (sC (.int 2147483477))) (gVar 5)) (sRet (sBin modD (sCall intD (aCons (sBin fdivD (sVar 5) (sC (.int 64))) aNil)) (sVar 1)))))))))))
noncomputable def F__law_draw : Fn := runB 6 b__law_draw
noncomputable def b__law_pick : SS := (sRet (sBin ixGet (sVar 1) (sApp 2 F__law_draw (aCons (sVar 0) (aCons (sCall lenD (aCons (sVar 1) aNil)) aNil)))))
noncomputable def F__law_pick : Fn := runB 2 b__law_pick
noncomputable def b__law_rest : SS := (sSeq (sAsg (mutF (fLc (iStrO (sVar 0)) (gVar 2) tAll (sCall intD (aCons (sBin eqD (sVar 2) (sC (.str "1"))) aNil)) [2])) (gVar 3)) (sSeq (sFor (iRange1 (aCons (sBin addD (sBin subD (sCall lenD (aCons (sVar 3) aNil)) (sCall lenD (aCons (sVar 1) aNil))) (sC (.int 1))) aNil)) (gVar 4) (sIte (tTru (sBin eqD (sBin ixGet (sVar 3) (sVar 4)) (sC (.int 1)))) (sFor (iRange1 (aCons (sCall lenD (aCons (sVar 1) aNil)) aNil)) (gVar 5) (sAsg (sBin modD (sBin addD (sBin ixGet (sVar 3) (sBin addD (sVar 4) (sVar 5))) (sCall intD (aCons (sBin eqD (sBin ixGet (sVar 1) (sVar 5)) (sC (.str "1"))) aNil))) (sC (.int 2))) (gSubD (sVar 3) (sBin addD (sVar 4) (sVar 5))))) sSkip)) (sSeq (sAsg (mStr joinD (sC (.str "")) (aCons (immF (fLc (iOver (sVar 3)) (gVar 6) tAll (sCall strI (aCons (sVar 6) aNil)) [6])) aNil)) (gVar 7)) (sRet (sSlice (sBin addD (sBin mulA (sC (.str "0")) (sCall lenD (aCons (sVar 1) aNil))) (sVar 7)) (oSome (sBin addD (sCall lenD (aCons (sVar 7) aNil)) (sC (.int 1)))) oNone)))))
noncomputable def F__law_rest : Fn := runB 8 b__law_rest
noncomputable def b__law_with_guard : SS := (sRet (sBin addD (sVar 0) (sApp 2 F__law_rest (aCons (sBin addD (sVar 0) (sBin mulA (sC (.str "0")) (sBin subD (sCall lenD (aCons (sVar 1) aNil)) (sC (.int 1))))) (aCons (sVar 1) aNil)))))
noncomputable def F__law_with_guard : Fn := runB 2 b__law_with_guard
noncomputable def b__law_guard : SS := (sRet (sBin addD (sBin addD (sC (.str "1")) (mStr joinD (sC (.str "")) (aCons (immF (fLc (iRange1 (aCons (sApp 2 F__law_draw (aCons (sVar 0) (aCons (sC (.int 16)) aNil))) aNil)) (gVar 1) tAll (sApp 2 F__law_pick (aCons (sVar 0) (aCons (sC (.str "01")) aNil))) [1])) aNil))) (sC (.str "1"))))
noncomputable def F__law_guard : Fn := runB 2 b__law_guard
noncomputable def b__law_bits : SS := (sRet (mStr joinD (sC (.str "")) (aCons (immF (fLc (iRange1 (aCons (sVar 1) aNil)) (gVar 2) tAll (sApp 2 F__law_pick (aCons (sVar 0) (aCons (sC (.str "01")) aNil))) [2])) aNil)))
noncomputable def F__law_bits : Fn := runB 3 b__law_bits
noncomputable def b__law_change : SS := (sRet (mStr joinD (sC (.str "")) (aCons (immF (fLc (iRange1 (aCons (sCall lenD (aCons (sVar 0) aNil)) aNil)) (gVar 2) tAll (sIf (tTru (sBin inA (sVar 2) (sVar 1))) (sIf (tTru (sBin eqD (sBin ixGet (sVar 0) (sVar 2)) (sC (.str "0")))) (sC (.str "1")) (sC (.str "0"))) (sBin ixGet (sVar 0) (sVar 2))) [2])) aNil)))
noncomputable def F__law_change : Fn := runB 3 b__law_change
noncomputable def b__law_sum : SS := (sRet (mStr joinD (sC (.str "")) (aCons (immF (fLc (iRange1 (aCons (sCall lenD (aCons (sVar 0) aNil)) aNil)) (gVar 2) tAll (sBin ixGet (sC (.str "01")) (sCall intD (aCons (sBin neD (sBin ixGet (sVar 0) (sVar 2)) (sBin ixGet (sVar 1) (sVar 2))) aNil))) [2])) aNil)))
noncomputable def F__law_sum : Fn := runB 3 b__law_sum
noncomputable def b__law_places : SS := (sSeq (sAsg (sApp 2 F__law_draw (aCons (sVar 0) (aCons (sVar 1) aNil))) (gVar 3)) (sSeq (sAsg (sCall minD (aCons (sVar 2) (aCons (sBin subD (sVar 1) (sVar 3)) aNil))) (gVar 4)) (sRet (sBin addD (immF (fLst (aCons (sVar 3) aNil))) (immF (fLc (iRange2 (aCons (sC (.int 1)) (aCons (sVar 4) aNil))) (gVar 5) (tTru (sBin eqD (sApp 2 F__law_draw (aCons (sVar 0) (aCons (sC (.int 2)) aNil))) (sC (.int 0)))) (sBin addD (sVar 3) (sVar 5)) [5]))))))
noncomputable def F__law_places : Fn := runB 6 b__law_places
def s__law_heard (ak : SE) : SS := (sSeq (sAsg (sTup (aCons (sC .non) (aCons (sC .non) aNil))) (gSeq 2 (gsCons (gVar 1) (gsCons (gVar 2) gsNil)))) (sSeq (sTry sub cBellError 3 (sAsg ak (gVar 2)) (sAsg (sVar 3) (gVar 1))) (sSeq (sIte (tTru (sBin isD (sVar 1) (sC .non))) (sRet (immF (fLst (aCons (sVar 2) aNil)))) sSkip) (sSeq (sAsg (mutF (fLst aNil)) (gVar 4)) (sSeq (sIte (tTru (sCall (isiD sub) (aCons (sVar 1) (aCons (sC (.cls cBadNumber)) aNil)))) (sExpr (mList appendD (sVar 4) (aCons (sTup (aCons (sC (.str "number")) (aCons (sXf isX "part" (sVar 1)) aNil))) aNil))) sSkip) (sSeq (sIte (tTru (sCall (isiD sub) (aCons (sVar 1) (aCons (sC (.cls cBadBits)) aNil)))) (sExpr (mList appendD (sVar 4) (aCons (sTup (aCons (sC (.str "bits")) (aCons (sXf isX "part" (sVar 1)) aNil))) aNil))) sSkip) (sSeq (sIte (tTru (sCall (isiD sub) (aCons (sVar 1) (aCons (sC (.cls cBadTable)) aNil)))) (sExpr (mList appendD (sVar 4) (aCons (sTup (aCons (sC (.str "table")) (aCons (sXf isX "part" (sVar 1)) aNil))) aNil))) sSkip) (sSeq (sIte (tTru (sCall (isiD sub) (aCons (sVar 1) (aCons (sC (.cls cBadBook)) aNil)))) (sExpr (mList appendD (sVar 4) (aCons (sTup (aCons (sC (.str "book")) (aCons (sXf isX "part" (sVar 1)) aNil))) aNil))) sSkip) (sSeq (sIte (tTru (sCall (isiD sub) (aCons (sVar 1) (aCons (sC (.cls cBadRow)) aNil)))) (sExpr (mList appendD (sVar 4) (aCons (sTup (aCons (sC (.str "row")) (aCons (sXf isX "part" (sVar 1)) aNil))) aNil))) sSkip) (sSeq (sIte (tTru (sCall (isiD sub) (aCons (sVar 1) (aCons (sC (.cls cBadPattern)) aNil)))) (sExpr (mList appendD (sVar 4) (aCons (sTup (aCons (sC (.str "question")) (aCons (sXf isX "part" (sVar 1)) aNil))) aNil))) sSkip) (sSeq (sIte (tTru (sCall (isiD sub) (aCons (sVar 1) (aCons (sC (.cls cBadPaper)) aNil)))) (sExpr (mList appendD (sVar 4) (aCons (sTup (aCons (sC (.str "paper")) (aCons (sXf isX "part" (sVar 1)) aNil))) aNil))) sSkip) (sSeq (sIte (tTru (sCall (isiD sub) (aCons (sVar 1) (aCons (sC (.cls cMisfit)) aNil)))) (sExpr (mList appendD (sVar 4) (aCons (sTup (aCons (sC (.str "misfit")) (aCons (sXf isX "part" (sVar 1)) aNil))) aNil))) sSkip) (sSeq (sIte (tTru (sCall (isiD sub) (aCons (sVar 1) (aCons (sC (.cls cBadText)) aNil)))) (sExpr (mList appendD (sVar 4) (aCons (sTup (aCons (sC (.str "text")) (aCons (sXf isX "line" (sVar 1)) (aCons (sXf isX "word" (sVar 1)) aNil)))) aNil))) sSkip) (sSeq (sIte (tTru (sCall (isiD sub) (aCons (sVar 1) (aCons (sC (.cls cBadWord)) aNil)))) (sExpr (mList appendD (sVar 4) (aCons (sTup (aCons (sC (.str "command")) (aCons (sXf isX "word" (sVar 1)) aNil))) aNil))) sSkip) (sSeq (sIte (tTru (sCall (isiD sub) (aCons (sVar 1) (aCons (sC (.cls cTooMany)) aNil)))) (sExpr (mList appendD (sVar 4) (aCons (sTup (aCons (sC (.str "many")) (aCons (sXf isX "what" (sVar 1)) (aCons (sXf isX "most" (sVar 1)) aNil)))) aNil))) sSkip) (sRet (sIf (tAndF (tTru (sBin eqD (sCall lenD (aCons (sVar 4) aNil)) (sC (.int 1)))) (tTru (sIsVE (sVar 1)))) (sBin ixGet (sVar 4) (sC (.int 0))) (sTup (aCons (sC (.str "odd")) (aCons (sCall lenD (aCons (sVar 4) aNil)) aNil))))))))))))))))))))
abbrev N__law_heard : List Str := ["ask", "caught", "found", "error", "told"]
noncomputable def H__law_heard : (Store → R D) → Store → R D := heardH 5 s__law_heard
theorem A__law_heard (f c : Addr) (q : Str) (σ : List (Option V)) (fe : SE) (ρ : VS.Env) (S : Store) : runB 5 (s__law_heard (sAsk f c q σ fe)) [.clo f c q σ ρ] S = runB 5 (s__law_heard fun _ T => fe ρ T) [.clo f c q σ ρ] S := by
  rw [runB_e, runB_e]
  exact pre_try (tr := fun ak => sTry sub cBellError 3 (sAsg ak (gVar 2)) (sAsg (sVar 3) (gVar 1))) rfl (try_c (by first | rw [asg_e, asg_e, sAsk_eq rfl] | rw [expr_e, expr_e, sAsk_eq rfl]))
noncomputable def b__law_refused : SS := (sSeq (sAsg (sApp 2 F__law_pick (aCons (sVar 0) (aCons (immF (fLst (aCons (sC (.str "")) (aCons (sC (.str "1")) (aCons (sC (.str "01")) (aCons (sC (.str "10")) (aCons (sBin mulA (sC (.str "1")) (sC (.int 18))) (aCons (sC .non) (aCons (sC (.int 11)) (aCons (immF (fLst (aCons (sC (.str "1")) (aCons (sC (.str "1")) aNil)))) (aCons (sC (.str "1 1")) aNil))))))))))) aNil))) (gVar 6)) (sSeq (sAsg (sApp 2 F__law_pick (aCons (sVar 0) (aCons (immF (fLst (aCons (sC .non) (aCons (sC (.int 0)) (aCons (sC (.str "012")) (aCons (sC (.str "1 ")) (aCons (immF (fLst (aCons (sC (.str "0")) aNil))) (aCons (sTup (aCons (sC (.str "1")) aNil)) (aCons (sC (.str "O")) aNil))))))))) aNil))) (gVar 4)) (sSeq (sAsg (sApp 2 F__law_pick (aCons (sVar 0) (aCons (immF (fLst (aCons (immF (fLst (aCons (sCall lenD (aCons (sVar 2) aNil)) aNil))) (aCons (immF (fLst (aCons (sNeg (sC (.int 1))) aNil))) (aCons (immF (fLst (aCons (sC (.int 1)) (aCons (sC (.int 0)) aNil)))) (aCons (immF (fLst (aCons (sC (.int 0)) (aCons (sC (.int 0)) aNil)))) (aCons (immF (fLst (aCons (sC (.bl true)) aNil))) (aCons (sC .non) (aCons (sC (.str "0")) (aCons (sC (.int 0)) (aCons (immF (fLst (aCons (sC .non) aNil))) (aCons (immF (fLst (aCons (sC (.int 0)) (aCons (sC (.str "1")) aNil)))) aNil)))))))))))) aNil))) (gVar 5)) (sSeq (sAsg (immF (fLst (aCons (sHeard H__law_heard (sApp 2 F_rest_by (aCons (sVar 6) (aCons (sVar 4) aNil)))) (aCons (sHeard H__law_heard (sApp 2 F_with_guard (aCons (sVar 6) (aCons (sVar 2) aNil)))) aNil)))) (gVar 3)) (sSeq (sAsg (sBin addD (sVar 3) (immF (fLst (aCons (sHeard H__law_heard (sApp 2 F_rest_by (aCons (sVar 1) (aCons (sVar 4) aNil)))) (aCons (sHeard H__law_heard (sApp 2 F_with_guard (aCons (sVar 1) (aCons (sVar 4) aNil)))) aNil))))) (gVar 3)) (sSeq (sAsg (sBin addD (sVar 3) (immF (fLst (aCons (sHeard H__law_heard (sApp 2 F_changed (aCons (sVar 4) (aCons (sVar 5) aNil)))) (aCons (sHeard H__law_heard (sApp 2 F_changed (aCons (sVar 2) (aCons (sVar 5) aNil)))) aNil))))) (gVar 3)) (sSeq (sIte (tTru (sBin neD (sVar 3) (sBin addD (sBin addD (sBin mulA (immF (fLst (aCons (sTup (aCons (sC (.str "bits")) (aCons (sC (.str "guard")) aNil))) aNil))) (sC (.int 2))) (sBin mulA (immF (fLst (aCons (sTup (aCons (sC (.str "bits")) (aCons (sC (.str "bits")) aNil))) aNil))) (sC (.int 3)))) (immF (fLst (aCons (sTup (aCons (sC (.str "row")) (aCons (sC (.str "places")) aNil))) aNil)))))) (sRet (sC (.bl false))) sSkip) (sRet (sBin eqD (immF (fLst (aCons (sApp 2 F_changed (aCons (sVar 2) (aCons (immF (fLst aNil)) aNil))) (aCons (sApp 2 F_changed (aCons (sC (.str "")) (aCons (sTup aNil) aNil))) (aCons (sApp 2 F_rest_by (aCons (sVar 1) (aCons (sC (.str "")) aNil))) aNil))))) (immF (fLst (aCons (sVar 2) (aCons (sC (.str "")) (aCons (sBin mulA (sC (.str "0")) (sBin subD (sCall lenD (aCons (sVar 1) aNil)) (sC (.int 1)))) aNil))))))))))))))
noncomputable def F__law_refused : Fn := runB 7 b__law_refused
noncomputable def b__law_right : SS := (sSeq (sAsg (sApp 1 F__law_guard (aCons (sVar 0) aNil)) (gVar 1)) (sSeq (sAsg (sBin subD (sCall lenD (aCons (sVar 1) aNil)) (sC (.int 1))) (gVar 2)) (sSeq (sAsg (sApp 2 F__law_bits (aCons (sVar 0) (aCons (sApp 2 F__law_pick (aCons (sVar 0) (aCons (immF (fLst (aCons (sC (.int 0)) (aCons (sC (.int 1)) (aCons (sVar 2) (aCons (sBin addD (sVar 2) (sC (.int 1))) (aCons (sC (.int 40)) (aCons (sApp 2 F__law_draw (aCons (sVar 0) (aCons (sC (.int 90)) aNil))) aNil)))))))) aNil))) aNil))) (gVar 3)) (sSeq (sIte (tOrF (tTru (sBin neD (sApp 2 F_rest_by (aCons (sVar 1) (aCons (sVar 3) aNil))) (sApp 2 F__law_rest (aCons (sVar 3) (aCons (sVar 1) aNil))))) (tOrF (tTru (sBin neD (sAppK 2 0 2 [1, 0] F_rest_by aNil (aCons (sVar 3) (aCons (sVar 1) aNil))) (sApp 2 F__law_rest (aCons (sVar 3) (aCons (sVar 1) aNil))))) (tTru (sBin neD (sAppK 2 0 2 [1, 0] F_with_guard aNil (aCons (sVar 3) (aCons (sVar 1) aNil))) (sApp 2 F__law_with_guard (aCons (sVar 3) (aCons (sVar 1) aNil))))))) (sRet (sC (.bl false))) sSkip) (sSeq (sAsg (sApp 2 F_with_guard (aCons (sVar 1) (aCons (sBin addD (sVar 3) (sC (.str "1"))) aNil))) (gVar 4)) (sSeq (sIte (tOrF (tTru (sBin neD (sApp 2 F_rest_by (aCons (sVar 1) (aCons (sVar 4) aNil))) (sBin mulA (sC (.str "0")) (sVar 2)))) (tTru (sBin neD (sCall lenD (aCons (sVar 4) aNil)) (sBin addD (sBin addD (sCall lenD (aCons (sVar 3) aNil)) (sC (.int 1))) (sVar 2))))) (sRet (sC (.bl false))) sSkip) (sSeq (sAsg (immF (fCall sortedF (aCons (immF (fLc (iRange1 (aCons (sCall lenD (aCons (sVar 4) aNil)) aNil)) (gVar 5) (tTru (sBin eqD (sApp 2 F__law_draw (aCons (sVar 0) (aCons (sC (.int 4)) aNil))) (sC (.int 0)))) (sVar 5) [5])) aNil))) (gVar 6)) (sSeq (sAsg (sBin mulA (sC (.str "0")) (sCall lenD (aCons (sVar 4) aNil))) (gVar 7)) (sSeq (sAsg (sApp 2 F_changed (aCons (sVar 4) (aCons (sCall tupleD (aCons (sVar 6) aNil)) aNil))) (gVar 8)) (sSeq (sIte (tOrF (tTru (sBin neD (sVar 8) (sApp 2 F__law_change (aCons (sVar 4) (aCons (sVar 6) aNil))))) (tTru (sBin neD (sApp 2 F_rest_by (aCons (sVar 1) (aCons (sVar 8) aNil))) (sApp 2 F_rest_by (aCons (sVar 1) (aCons (sApp 2 F_changed (aCons (sVar 7) (aCons (sVar 6) aNil))) aNil)))))) (sRet (sC (.bl false))) sSkip) (sSeq (sIte (tTru (sBin neD (sApp 2 F_rest_by (aCons (sVar 1) (aCons (sApp 2 F__law_change (aCons (sBin addD (sVar 3) (sC (.str "1"))) (aCons (immF (fLst (aCons (sC (.int 0)) aNil))) aNil))) aNil))) (sApp 2 F__law_sum (aCons (sApp 2 F_rest_by (aCons (sVar 1) (aCons (sBin addD (sVar 3) (sC (.str "1"))) aNil))) (aCons (sApp 2 F_rest_by (aCons (sVar 1) (aCons (sBin addD (sC (.str "1")) (sBin mulA (sC (.str "0")) (sCall lenD (aCons (sVar 3) aNil)))) aNil))) aNil))))) (sRet (sC (.bl false))) sSkip) (sSeq (sAsg (sApp 3 F__law_places (aCons (sVar 0) (aCons (sCall lenD (aCons (sVar 4) aNil)) (aCons (sVar 2) aNil)))) (gVar 9)) (sSeq (sIte (tOrF (tTru (sBin neD (sAppK 2 0 2 [1, 0] F_changed aNil (aCons (sVar 9) (aCons (sVar 4) aNil))) (sApp 2 F__law_change (aCons (sVar 4) (aCons (sVar 9) aNil))))) (tTru (sBin ninA (sC (.str "1")) (sApp 2 F_rest_by (aCons (sVar 1) (aCons (sApp 2 F_changed (aCons (sVar 4) (aCons (sVar 9) aNil))) aNil)))))) (sRet (sC (.bl false))) sSkip) (sSeq (sAsg (sApp 2 F__law_draw (aCons (sVar 0) (aCons (sBin subD (sCall lenD (aCons (sVar 4) aNil)) (sVar 2)) aNil))) (gVar 5)) (sSeq (sAsg (immF (fLc (iRange1 (aCons (sBin addD (sVar 2) (sC (.int 1))) aNil)) (gVar 10) (tTru (sBin eqD (sBin ixGet (sVar 1) (sVar 10)) (sC (.str "1")))) (sBin addD (sVar 5) (sVar 10)) [10])) (gVar 11)) (sSeq (sAsg (sApp 3 F__law_places (aCons (sVar 0) (aCons (sCall lenD (aCons (sVar 4) aNil)) (aCons (sBin addD (sVar 2) (sC (.int 1))) aNil)))) (gVar 12)) (sSeq (sAsg (sBin eqD (sVar 12) (immF (fLc (iRange1 (aCons (sBin addD (sVar 2) (sC (.int 1))) aNil)) (gVar 10) (tTru (sBin eqD (sBin ixGet (sVar 1) (sVar 10)) (sC (.str "1")))) (sBin addD (sBin ixGet (sVar 12) (sC (.int 0))) (sVar 10)) [10]))) (gVar 13)) (sSeq (sAsg (immF (fLc (iOver (sTup (aCons (sVar 11) (aCons (sVar 12) aNil)))) (gVar 14) tAll (sBin inA (sC (.str "1")) (sApp 2 F_rest_by (aCons (sVar 1) (aCons (sApp 2 F_changed (aCons (sVar 4) (aCons (sVar 14) aNil))) aNil)))) [14])) (gVar 15)) (sRet (sAnd (sBin eqD (sVar 15) (immF (fLst (aCons (sC (.bl false)) (aCons (sNot (sVar 13)) aNil))))) (sApp 3 F__law_refused (aCons (sVar 0) (aCons (sVar 1) (aCons (sVar 4) aNil))))))))))))))))))))))))
noncomputable def F__law_right : Fn := runB 16 b__law_right
/-- what the top has written -/
structure Txt (P : Program) (w : World) (K : PySem.W.Frag) (mg : Str → Option Value) (base : Heap) (cm : CM) : Prop where
  n_ValueError : mg "ValueError" = none
  n_abs : mg "abs" = none
  n_all : mg "all" = none
  n_bool : mg "bool" = none
  n_int : mg "int" = none
  n_isinstance : mg "isinstance" = none
  n_len : mg "len" = none
  n_list : mg "list" = none
  n_min : mg "min" = none
  n_range : mg "range" = none
  n_sorted : mg "sorted" = none
  n_str : mg "str" = none
  n_tuple : mg "tuple" = none
  k_MOST_DEGREE : ∃ t, mg "MOST_DEGREE" = some (.int 16 t)
  k_ONE : ∃ t, mg "ONE" = some (.str "1" t)
  d__law_pen : ∃ f fd, Fun K "_law_pen" "_law_pen" st__law_pen f fd ∧ mg "_law_pen" = some (.ref f)
  d_degree_of : ∃ f fd, Fun K "degree_of" "degree_of" st_degree_of f fd ∧ mg "degree_of" = some (.ref f)
  d_rest_number : ∃ f fd, Fun K "rest_number" "rest_number" st_rest_number f fd ∧ mg "rest_number" = some (.ref f)
  d_bits_of_rest : ∃ f fd, Fun K "bits_of_rest" "bits_of_rest" st_bits_of_rest f fd ∧ mg "bits_of_rest" = some (.ref f)
  d_rest_of : ∃ f fd, Fun K "rest_of" "rest_of" st_rest_of f fd ∧ mg "rest_of" = some (.ref f)
  d_is_bits : ∃ f fd, Fun K "is_bits" "is_bits" st_is_bits f fd ∧ mg "is_bits" = some (.ref f)
  d_is_guard : ∃ f fd, Fun K "is_guard" "is_guard" st_is_guard f fd ∧ mg "is_guard" = some (.ref f)
  d_need_guard : ∃ f fd, Fun K "need_guard" "need_guard" st_need_guard f fd ∧ mg "need_guard" = some (.ref f)
  d_need_bits : ∃ f fd, Fun K "need_bits" "need_bits" st_need_bits f fd ∧ mg "need_bits" = some (.ref f)
  d_rest_by : ∃ f fd, Fun K "rest_by" "rest_by" st_rest_by f fd ∧ mg "rest_by" = some (.ref f)
  d_guarded : ∃ f fd, Fun K "guarded" "guarded" st_guarded f fd ∧ mg "guarded" = some (.ref f)
  d_with_guard : ∃ f fd, Fun K "with_guard" "with_guard" st_with_guard f fd ∧ mg "with_guard" = some (.ref f)
  d_with_changes : ∃ f fd, Fun K "with_changes" "with_changes" st_with_changes f fd ∧ mg "with_changes" = some (.ref f)
  d_is_integer : ∃ f fd, Fun K "is_integer" "is_integer" st_is_integer f fd ∧ mg "is_integer" = some (.ref f)
  d_is_within : ∃ f fd, Fun K "is_within" "is_within" st_is_within f fd ∧ mg "is_within" = some (.ref f)
  d_is_listed : ∃ f fd, Fun K "is_listed" "is_listed" st_is_listed f fd ∧ mg "is_listed" = some (.ref f)
  d_is_change : ∃ f fd, Fun K "is_change" "is_change" st_is_change f fd ∧ mg "is_change" = some (.ref f)
  d_changed : ∃ f fd, Fun K "changed" "changed" st_changed f fd ∧ mg "changed" = some (.ref f)
  d__law_draw : ∃ f fd, Fun K "_law_draw" "_law_draw" st__law_draw f fd ∧ mg "_law_draw" = some (.ref f)
  d__law_pick : ∃ f fd, Fun K "_law_pick" "_law_pick" st__law_pick f fd ∧ mg "_law_pick" = some (.ref f)
  d__law_rest : ∃ f fd, Fun K "_law_rest" "_law_rest" st__law_rest f fd ∧ mg "_law_rest" = some (.ref f)
  d__law_with_guard : ∃ f fd, Fun K "_law_with_guard" "_law_with_guard" st__law_with_guard f fd ∧ mg "_law_with_guard" = some (.ref f)
  d__law_guard : ∃ f fd, Fun K "_law_guard" "_law_guard" st__law_guard f fd ∧ mg "_law_guard" = some (.ref f)
  d__law_bits : ∃ f fd, Fun K "_law_bits" "_law_bits" st__law_bits f fd ∧ mg "_law_bits" = some (.ref f)
  d__law_change : ∃ f fd, Fun K "_law_change" "_law_change" st__law_change f fd ∧ mg "_law_change" = some (.ref f)
  d__law_sum : ∃ f fd, Fun K "_law_sum" "_law_sum" st__law_sum f fd ∧ mg "_law_sum" = some (.ref f)
  d__law_places : ∃ f fd, Fun K "_law_places" "_law_places" st__law_places f fd ∧ mg "_law_places" = some (.ref f)
  d__law_heard : ∃ f fd, Fun K "_law_heard" "_law_heard" st__law_heard f fd ∧ mg "_law_heard" = some (.ref f)
  d__law_refused : ∃ f fd c Pt, FunC K "_law_refused" "_law_refused" st__law_refused f fd c ∧ mg "_law_refused" = some (.ref f) ∧ LamT base mg cm "_law_refused.<locals>.<lambda>" c Pt
  d__law_right : ∃ f fd, Fun K "_law_right" "_law_right" st__law_right f fd ∧ mg "_law_right" = some (.ref f)
  m_BellError : ∃ C, cm cBellError = some C ∧ mg "BellError" = some (.ref C)
  m_BadNumber : ∃ C, cm cBadNumber = some C ∧ mg "BadNumber" = some (.ref C)
  m_BadBits : ∃ C, cm cBadBits = some C ∧ mg "BadBits" = some (.ref C)
  e_BadBits : EV P w K mg base cm "BadBits" cBadBits fsBadBits
  m_BadTable : ∃ C, cm cBadTable = some C ∧ mg "BadTable" = some (.ref C)
  m_BadBook : ∃ C, cm cBadBook = some C ∧ mg "BadBook" = some (.ref C)
  m_BadRow : ∃ C, cm cBadRow = some C ∧ mg "BadRow" = some (.ref C)
  e_BadRow : EV P w K mg base cm "BadRow" cBadRow fsBadRow
  m_BadPattern : ∃ C, cm cBadPattern = some C ∧ mg "BadPattern" = some (.ref C)
  m_BadPaper : ∃ C, cm cBadPaper = some C ∧ mg "BadPaper" = some (.ref C)
  m_Misfit : ∃ C, cm cMisfit = some C ∧ mg "Misfit" = some (.ref C)
  m_BadText : ∃ C, cm cBadText = some C ∧ mg "BadText" = some (.ref C)
  m_BadWord : ∃ C, cm cBadWord = some C ∧ mg "BadWord" = some (.ref C)
  m_TooMany : ∃ C, cm cTooMany = some C ∧ mg "TooMany" = some (.ref C)
  t_BellError : ∃ cv, XFacts K cm sub cBellError cv ∧ mg "BellError" = some cv
  cf : CFacts K cm sub
  ve : VeF K cm
  x_line : XFld K cm isX "line"
  x_most : XFld K cm isX "most"
  x_part : XFld K cm isX "part"
  x_what : XFld K cm isX "what"
  x_word : XFld K cm isX "word"
section
variable {P : Program} {w : World} {K : PySem.W.Frag} {mg : Str → Option Value} {base : Heap} {cm : CM}
theorem sc__law_pen : FnScope ["script", "cell"] ["script"] (defScope st__law_pen) := ⟨rfl, rfl, rfl, by decide +kernel, rfl, by decide +kernel, by decide +kernel⟩
theorem fo__law_pen (T : Txt P w K mg base cm) {f : Addr} {fd : FuncData} (Fu : Fun K "_law_pen" "_law_pen" st__law_pen f fd) : FnOk P w K mg base (L2.CX P w) 1 f fd ["script"] (spV K cm 1 F__law_pen) :=
  fn_vs Fu sc__law_pen fun cdv A outer s H E hr =>
    (vss_one (vs_ret (ve_mut (vf_lst (va_cons (ve_imm (vf_lc (own := [("cell", 1)]) rfl sc__law_pen.nd (vi_over (ve_slice (ve_var (pv 0)) vo_none (vo_some ve_int))) (by rfl) (fun s H C cl fp => (vgo_name (by decide) (pg_name (i := 1) sc__law_pen.nd rfl (Or.inl rfl)))) (fun s H C cl fp => vts_nil) (fun s H C cl fp => (ve_callT call_int1 intD_ok rfl T.n_int (by decide +kernel) (va_cons (ve_var (pv 1)) va_nil))))) (va_cons ve_int (va_cons ve_int va_nil)))))))
theorem fv__law_pen (T : Txt P w K mg base cm) : FV P w K mg base cm 1 "_law_pen" ["script"] F__law_pen := by
  obtain ⟨f, fd, Fu, hm⟩ := T.d__law_pen
  exact ⟨f, fd, fo__law_pen T Fu, hm, Fu.kp, Fu.binds (ps := ["script"]) fun _ _ _ _ _ _ us hl => match us, hl with | [_], _ => rfl⟩
theorem sc_degree_of : FnScope ["guard"] ["guard"] (defScope st_degree_of) := ⟨rfl, rfl, rfl, by decide +kernel, rfl, by decide +kernel, by decide +kernel⟩
theorem fo_degree_of (T : Txt P w K mg base cm) {f : Addr} {fd : FuncData} (Fu : Fun K "degree_of" "degree_of" st_degree_of f fd) : FnOk P w K mg base (L2.CX P w) 1 f fd ["guard"] (spV K cm 1 F_degree_of) :=
  fn_vs Fu sc_degree_of fun cdv A outer s H E hr =>
    (vss_one (vs_ret (ve_op op_sub subD_ok (ve_callB call_len lenD_ok rfl T.n_len (by decide +kernel) (va_cons (ve_var (pv 0)) va_nil)) ve_int)))
theorem fv_degree_of (T : Txt P w K mg base cm) : FV P w K mg base cm 1 "degree_of" ["guard"] F_degree_of := by
  obtain ⟨f, fd, Fu, hm⟩ := T.d_degree_of
  exact ⟨f, fd, fo_degree_of T Fu, hm, Fu.kp, Fu.binds (ps := ["guard"]) fun _ _ _ _ _ _ us hl => match us, hl with | [_], _ => rfl⟩
theorem sc_rest_number : FnScope ["bits", "guard", "by", "degree", "rest", "sign"] ["bits", "guard"] (defScope st_rest_number) := ⟨rfl, rfl, rfl, by decide +kernel, rfl, by decide +kernel, by decide +kernel⟩
theorem fo_rest_number (T : Txt P w K mg base cm) {f : Addr} {fd : FuncData} (Fu : Fun K "rest_number" "rest_number" st_rest_number f fd) : FnOk P w K mg base (L2.CX P w) 2 f fd ["bits", "guard"] (spV K cm 2 F_rest_number) :=
  fn_vs Fu sc_rest_number fun cdv A outer s H E hr =>
    (vss_cons (vs_par (i := 2) (j := 3) rfl sc_rest_number.nd rfl rfl (by decide) rfl rfl (va_cons (ve_callT call_int_bit intB_ok rfl T.n_int (by decide +kernel) (va_cons (ve_var (pv 1)) (va_cons ve_int va_nil))) (va_cons (ve_app (ps := ["guard"]) (fv_degree_of T) (hr.mono (by decide : 1 ≤ 1)) (takes_of rfl rfl rfl rfl) rfl (va_cons (ve_var (pv 1)) va_nil)) va_nil))) (vss_cons (vs_set (i := 4) sc_rest_number.nd rfl (Or.inl rfl) ve_int) (vss_cons (vs_for (passes_of rfl) rfl (vi_str (ve_var (pv 0))) (vg_name (pg_name (i := 5) sc_rest_number.nd rfl (Or.inl rfl))) (vss_cons (vs_set (i := 4) sc_rest_number.nd rfl (Or.inl rfl) (ve_op op_adds addD_ok (ve_op op_mulA mulA_ok ve_int (ve_var (pv 4))) (ve_callT call_int1 intD_ok rfl T.n_int (by decide +kernel) (va_cons (ve_cmp (op_eqD hr.units) eqD_ok (ve_var (pv 5)) (ve_gstrE rfl T.k_ONE)) va_nil)))) (vss_one (vs_if (vt_cmp (op_neD hr.units) neD_ok neD_bl (ve_op op_shr shrD_ok (ve_var (pv 4)) (ve_var (pv 3))) ve_int) (vss_one (vs_set (i := 4) sc_rest_number.nd rfl (Or.inl rfl) (ve_op op_xor xorD_ok (ve_var (pv 4)) (ve_var (pv 2))))) vss_nil)))) (vss_one (vs_ret (ve_var (pv 4)))))))
theorem fv_rest_number (T : Txt P w K mg base cm) : FV P w K mg base cm 2 "rest_number" ["bits", "guard"] F_rest_number := by
  obtain ⟨f, fd, Fu, hm⟩ := T.d_rest_number
  exact ⟨f, fd, fo_rest_number T Fu, hm, Fu.kp, Fu.binds (ps := ["bits", "guard"]) fun _ _ _ _ _ _ us hl => match us, hl with | [_, _], _ => rfl⟩
theorem sc_bits_of_rest : FnScope ["rest", "guard"] ["rest", "guard"] (defScope st_bits_of_rest) := ⟨rfl, rfl, rfl, by decide +kernel, rfl, by decide +kernel, by decide +kernel⟩
theorem fo_bits_of_rest (T : Txt P w K mg base cm) {f : Addr} {fd : FuncData} (Fu : Fun K "bits_of_rest" "bits_of_rest" st_bits_of_rest f fd) : FnOk P w K mg base (L2.CX P w) 2 f fd ["rest", "guard"] (spV K cm 2 F_bits_of_rest) :=
  fn_vs Fu sc_bits_of_rest fun cdv A outer s H E hr =>
    (vss_one (vs_ret (ve_zfill (ve_fmtB (ve_var (pv 0))) (va_cons (ve_app (ps := ["guard"]) (fv_degree_of T) (hr.mono (by decide : 1 ≤ 1)) (takes_of rfl rfl rfl rfl) rfl (va_cons (ve_var (pv 1)) va_nil)) va_nil))))
theorem fv_bits_of_rest (T : Txt P w K mg base cm) : FV P w K mg base cm 2 "bits_of_rest" ["rest", "guard"] F_bits_of_rest := by
  obtain ⟨f, fd, Fu, hm⟩ := T.d_bits_of_rest
  exact ⟨f, fd, fo_bits_of_rest T Fu, hm, Fu.kp, Fu.binds (ps := ["rest", "guard"]) fun _ _ _ _ _ _ us hl => match us, hl with | [_, _], _ => rfl⟩
theorem sc_rest_of : FnScope ["bits", "guard"] ["bits", "guard"] (defScope st_rest_of) := ⟨rfl, rfl, rfl, by decide +kernel, rfl, by decide +kernel, by decide +kernel⟩
theorem fo_rest_of (T : Txt P w K mg base cm) {f : Addr} {fd : FuncData} (Fu : Fun K "rest_of" "rest_of" st_rest_of f fd) : FnOk P w K mg base (L2.CX P w) 3 f fd ["bits", "guard"] (spV K cm 2 F_rest_of) :=
  fn_vs Fu sc_rest_of fun cdv A outer s H E hr =>
    (vss_one (vs_ret (ve_app (ps := ["rest", "guard"]) (fv_bits_of_rest T) (hr.mono (by decide : 2 ≤ 2)) (takes_of rfl rfl rfl rfl) rfl (va_cons (ve_app (ps := ["bits", "guard"]) (fv_rest_number T) (hr.mono (by decide : 2 ≤ 2)) (takes_of rfl rfl rfl rfl) rfl (va_cons (ve_var (pv 0)) (va_cons (ve_var (pv 1)) va_nil))) (va_cons (ve_var (pv 1)) va_nil)))))
theorem fv_rest_of (T : Txt P w K mg base cm) : FV P w K mg base cm 3 "rest_of" ["bits", "guard"] F_rest_of := by
  obtain ⟨f, fd, Fu, hm⟩ := T.d_rest_of
  exact ⟨f, fd, fo_rest_of T Fu, hm, Fu.kp, Fu.binds (ps := ["bits", "guard"]) fun _ _ _ _ _ _ us hl => match us, hl with | [_, _], _ => rfl⟩
theorem sc_is_bits : FnScope ["value", "sign"] ["value"] (defScope st_is_bits) := ⟨rfl, rfl, rfl, by decide +kernel, rfl, by decide +kernel, by decide +kernel⟩
theorem fo_is_bits (T : Txt P w K mg base cm) {f : Addr} {fd : FuncData} (Fu : Fun K "is_bits" "is_bits" st_is_bits f fd) : FnOk P w K mg base (L2.CX P w) 1 f fd ["value"] (spV K cm 1 F_is_bits) :=
  fn_vs Fu sc_is_bits fun cdv A outer s H E hr =>
    (vss_one (vs_ret (ve_and (ve_callB (call_isiS T.cf) isiD_ok rfl T.n_isinstance (by decide +kernel) (va_cons (ve_var (pv 0)) (va_cons (ve_ty .str rfl T.n_str (by decide +kernel)) va_nil))) (ve_one (ve_callB (cr_all rfl) allD_ok rfl T.n_all (by decide +kernel) (va_cons (ve_imm (vf_lc (own := [("sign", 1)]) rfl sc_is_bits.nd (vi_str (ve_var (pv 0))) (by rfl) (fun s H C cl fp => (vgo_name (by decide) (pg_name (i := 1) sc_is_bits.nd rfl (Or.inl rfl)))) (fun s H C cl fp => vts_nil) (fun s H C cl fp => (ve_cmp op_inA inA_ok (ve_var (pv 1)) ve_str)))) va_nil))))))
theorem fv_is_bits (T : Txt P w K mg base cm) : FV P w K mg base cm 1 "is_bits" ["value"] F_is_bits := by
  obtain ⟨f, fd, Fu, hm⟩ := T.d_is_bits
  exact ⟨f, fd, fo_is_bits T Fu, hm, Fu.kp, Fu.binds (ps := ["value"]) fun _ _ _ _ _ _ us hl => match us, hl with | [_], _ => rfl⟩
theorem sc_is_guard : FnScope ["value"] ["value"] (defScope st_is_guard) := ⟨rfl, rfl, rfl, by decide +kernel, rfl, by decide +kernel, by decide +kernel⟩
theorem fo_is_guard (T : Txt P w K mg base cm) {f : Addr} {fd : FuncData} (Fu : Fun K "is_guard" "is_guard" st_is_guard f fd) : FnOk P w K mg base (L2.CX P w) 2 f fd ["value"] (spV K cm 1 F_is_guard) :=
  fn_vs Fu sc_is_guard fun cdv A outer s H E hr =>
    (vss_one (vs_ret (ve_and (ve_app (ps := ["value"]) (fv_is_bits T) (hr.mono (by decide : 1 ≤ 1)) (takes_of rfl rfl rfl rfl) rfl (va_cons (ve_var (pv 0)) va_nil)) (ve_and (ve_chain op_le op_le leD_ok leD_ok ve_int (ve_callB call_len lenD_ok rfl T.n_len (by decide +kernel) (va_cons (ve_var (pv 0)) va_nil)) (ve_op op_adds addD_ok (ve_gintE rfl T.k_MOST_DEGREE) ve_int)) (ve_and (ve_cmp (op_eqD hr.units) eqD_ok (ve_ix (ve_var (pv 0)) ve_int) (ve_gstrE rfl T.k_ONE)) (ve_one (ve_cmp (op_eqD hr.units) eqD_ok (ve_ix (ve_var (pv 0)) (ve_neg ve_int)) (ve_gstrE rfl T.k_ONE))))))))
theorem fv_is_guard (T : Txt P w K mg base cm) : FV P w K mg base cm 2 "is_guard" ["value"] F_is_guard := by
  obtain ⟨f, fd, Fu, hm⟩ := T.d_is_guard
  exact ⟨f, fd, fo_is_guard T Fu, hm, Fu.kp, Fu.binds (ps := ["value"]) fun _ _ _ _ _ _ us hl => match us, hl with | [_], _ => rfl⟩
theorem sc_need_guard : FnScope ["value"] ["value"] (defScope st_need_guard) := ⟨rfl, rfl, rfl, by decide +kernel, rfl, by decide +kernel, by decide +kernel⟩
theorem fo_need_guard (T : Txt P w K mg base cm) {f : Addr} {fd : FuncData} (Fu : Fun K "need_guard" "need_guard" st_need_guard f fd) : FnOk P w K mg base (L2.CX P w) 3 f fd ["value"] (spV K cm 1 F_need_guard) :=
  fn_vs Fu sc_need_guard fun cdv A outer s H E hr =>
    (vss_one (vs_if (vt_not (vt_tru (ve_app (ps := ["value"]) (fv_is_guard T) (hr.mono (by decide : 2 ≤ 2)) (takes_of rfl rfl rfl rfl) rfl (va_cons (ve_var (pv 0)) va_nil)))) (vss_one (vs_raise T.e_BadBits rfl (takes_of rfl rfl rfl rfl) (hr.mono (by decide : 0 ≤ 2)) (va_cons ve_str va_nil) rfl)) vss_nil))
theorem fv_need_guard (T : Txt P w K mg base cm) : FV P w K mg base cm 3 "need_guard" ["value"] F_need_guard := by
  obtain ⟨f, fd, Fu, hm⟩ := T.d_need_guard
  exact ⟨f, fd, fo_need_guard T Fu, hm, Fu.kp, Fu.binds (ps := ["value"]) fun _ _ _ _ _ _ us hl => match us, hl with | [_], _ => rfl⟩
theorem sc_need_bits : FnScope ["value", "part"] ["value", "part"] (defScope st_need_bits) := ⟨rfl, rfl, rfl, by decide +kernel, rfl, by decide +kernel, by decide +kernel⟩
theorem fo_need_bits (T : Txt P w K mg base cm) {f : Addr} {fd : FuncData} (Fu : Fun K "need_bits" "need_bits" st_need_bits f fd) : FnOk P w K mg base (L2.CX P w) 2 f fd ["value", "part"] (spV K cm 2 F_need_bits) :=
  fn_vs Fu sc_need_bits fun cdv A outer s H E hr =>
    (vss_one (vs_if (vt_not (vt_tru (ve_app (ps := ["value"]) (fv_is_bits T) (hr.mono (by decide : 1 ≤ 1)) (takes_of rfl rfl rfl rfl) rfl (va_cons (ve_var (pv 0)) va_nil)))) (vss_one (vs_raise T.e_BadBits rfl (takes_of rfl rfl rfl rfl) (hr.mono (by decide : 0 ≤ 1)) (va_cons (ve_var (pv 1)) va_nil) rfl)) vss_nil))
theorem fv_need_bits (T : Txt P w K mg base cm) : FV P w K mg base cm 2 "need_bits" ["value", "part"] F_need_bits := by
  obtain ⟨f, fd, Fu, hm⟩ := T.d_need_bits
  exact ⟨f, fd, fo_need_bits T Fu, hm, Fu.kp, Fu.binds (ps := ["value", "part"]) fun _ _ _ _ _ _ us hl => match us, hl with | [_, _], _ => rfl⟩
theorem sc_rest_by : FnScope ["guard", "bits"] ["guard", "bits"] (defScope st_rest_by) := ⟨rfl, rfl, rfl, by decide +kernel, rfl, by decide +kernel, by decide +kernel⟩
theorem fo_rest_by (T : Txt P w K mg base cm) {f : Addr} {fd : FuncData} (Fu : Fun K "rest_by" "rest_by" st_rest_by f fd) : FnOk P w K mg base (L2.CX P w) 4 f fd ["guard", "bits"] (spV K cm 2 F_rest_by) :=
  fn_vs Fu sc_rest_by fun cdv A outer s H E hr =>
    (vss_cons (vs_expr (ve_app (ps := ["value"]) (fv_need_guard T) (hr.mono (by decide : 3 ≤ 3)) (takes_of rfl rfl rfl rfl) rfl (va_cons (ve_var (pv 0)) va_nil))) (vss_cons (vs_expr (ve_app (ps := ["value", "part"]) (fv_need_bits T) (hr.mono (by decide : 2 ≤ 3)) (takes_of rfl rfl rfl rfl) rfl (va_cons (ve_var (pv 1)) (va_cons ve_str va_nil)))) (vss_one (vs_ret (ve_app (ps := ["bits", "guard"]) (fv_rest_of T) (hr.mono (by decide : 3 ≤ 3)) (takes_of rfl rfl rfl rfl) rfl (va_cons (ve_var (pv 1)) (va_cons (ve_var (pv 0)) va_nil)))))))
theorem fv_rest_by (T : Txt P w K mg base cm) : FV P w K mg base cm 4 "rest_by" ["guard", "bits"] F_rest_by := by
  obtain ⟨f, fd, Fu, hm⟩ := T.d_rest_by
  exact ⟨f, fd, fo_rest_by T Fu, hm, Fu.kp, Fu.binds (ps := ["guard", "bits"]) fun _ _ _ _ _ _ us hl => match us, hl with | [_, _], _ => rfl⟩
theorem fk_rest_by_bits_guard (T : Txt P w K mg base cm) : FVK P w K mg base cm 4 "rest_by" ["guard", "bits"] F_rest_by ["bits", "guard"] 0 [1, 0] := by
  obtain ⟨f, fd, Fu, hm⟩ := T.d_rest_by
  exact ⟨f, fd, fo_rest_by T Fu, hm, Fu.kp, kbd_of Fu fun _ _ _ _ _ _ us ws h1 h2 => match us, ws, h1, h2 with | [], [_, _], _, _ => by first | rfl | with_unfolding_all rfl | kernel_rfl⟩
theorem sc_guarded : FnScope ["bits", "guard"] ["bits", "guard"] (defScope st_guarded) := ⟨rfl, rfl, rfl, by decide +kernel, rfl, by decide +kernel, by decide +kernel⟩
theorem fo_guarded (T : Txt P w K mg base cm) {f : Addr} {fd : FuncData} (Fu : Fun K "guarded" "guarded" st_guarded f fd) : FnOk P w K mg base (L2.CX P w) 4 f fd ["bits", "guard"] (spV K cm 2 F_guarded) :=
  fn_vs Fu sc_guarded fun cdv A outer s H E hr =>
    (vss_one (vs_ret (ve_op op_adds addD_ok (ve_var (pv 0)) (ve_app (ps := ["bits", "guard"]) (fv_rest_of T) (hr.mono (by decide : 3 ≤ 3)) (takes_of rfl rfl rfl rfl) rfl (va_cons (ve_op op_adds addD_ok (ve_var (pv 0)) (ve_op op_mulA mulA_ok ve_str (ve_app (ps := ["guard"]) (fv_degree_of T) (hr.mono (by decide : 1 ≤ 3)) (takes_of rfl rfl rfl rfl) rfl (va_cons (ve_var (pv 1)) va_nil)))) (va_cons (ve_var (pv 1)) va_nil))))))
theorem fv_guarded (T : Txt P w K mg base cm) : FV P w K mg base cm 4 "guarded" ["bits", "guard"] F_guarded := by
  obtain ⟨f, fd, Fu, hm⟩ := T.d_guarded
  exact ⟨f, fd, fo_guarded T Fu, hm, Fu.kp, Fu.binds (ps := ["bits", "guard"]) fun _ _ _ _ _ _ us hl => match us, hl with | [_, _], _ => rfl⟩
theorem sc_with_guard : FnScope ["guard", "bits"] ["guard", "bits"] (defScope st_with_guard) := ⟨rfl, rfl, rfl, by decide +kernel, rfl, by decide +kernel, by decide +kernel⟩
theorem fo_with_guard (T : Txt P w K mg base cm) {f : Addr} {fd : FuncData} (Fu : Fun K "with_guard" "with_guard" st_with_guard f fd) : FnOk P w K mg base (L2.CX P w) 5 f fd ["guard", "bits"] (spV K cm 2 F_with_guard) :=
  fn_vs Fu sc_with_guard fun cdv A outer s H E hr =>
    (vss_cons (vs_expr (ve_app (ps := ["value"]) (fv_need_guard T) (hr.mono (by decide : 3 ≤ 4)) (takes_of rfl rfl rfl rfl) rfl (va_cons (ve_var (pv 0)) va_nil))) (vss_cons (vs_expr (ve_app (ps := ["value", "part"]) (fv_need_bits T) (hr.mono (by decide : 2 ≤ 4)) (takes_of rfl rfl rfl rfl) rfl (va_cons (ve_var (pv 1)) (va_cons ve_str va_nil)))) (vss_one (vs_ret (ve_app (ps := ["bits", "guard"]) (fv_guarded T) (hr.mono (by decide : 4 ≤ 4)) (takes_of rfl rfl rfl rfl) rfl (va_cons (ve_var (pv 1)) (va_cons (ve_var (pv 0)) va_nil)))))))
theorem fv_with_guard (T : Txt P w K mg base cm) : FV P w K mg base cm 5 "with_guard" ["guard", "bits"] F_with_guard := by
  obtain ⟨f, fd, Fu, hm⟩ := T.d_with_guard
  exact ⟨f, fd, fo_with_guard T Fu, hm, Fu.kp, Fu.binds (ps := ["guard", "bits"]) fun _ _ _ _ _ _ us hl => match us, hl with | [_, _], _ => rfl⟩
theorem fk_with_guard_bits_guard (T : Txt P w K mg base cm) : FVK P w K mg base cm 5 "with_guard" ["guard", "bits"] F_with_guard ["bits", "guard"] 0 [1, 0] := by
  obtain ⟨f, fd, Fu, hm⟩ := T.d_with_guard
  exact ⟨f, fd, fo_with_guard T Fu, hm, Fu.kp, kbd_of Fu fun _ _ _ _ _ _ us ws h1 h2 => match us, ws, h1, h2 with | [], [_, _], _, _ => by first | rfl | with_unfolding_all rfl | kernel_rfl⟩
theorem sc_with_changes : FnScope ["bits", "places", "found", "place"] ["bits", "places"] (defScope st_with_changes) := ⟨rfl, rfl, rfl, by decide +kernel, rfl, by decide +kernel, by decide +kernel⟩
theorem fo_with_changes (T : Txt P w K mg base cm) {f : Addr} {fd : FuncData} (Fu : Fun K "with_changes" "with_changes" st_with_changes f fd) : FnOk P w K mg base (L2.CX P w) 1 f fd ["bits", "places"] (spV K cm 2 F_with_changes) :=
  fn_vs Fu sc_with_changes fun cdv A outer s H E hr =>
    (vss_cons (vs_set (i := 2) sc_with_changes.nd rfl (Or.inl rfl) (ve_mut (vf_callT (call_list_any rfl) listFS_ok rfl T.n_list (by decide +kernel) (va_cons (ve_var (pv 0)) va_nil)))) (vss_cons (vs_for (passes_of rfl) rfl (vi_over (ve_var (pv 1))) (vg_name (pg_name (i := 3) sc_with_changes.nd rfl (Or.inl rfl))) (vss_one (vs_asg (ve_if (vt_cmp (op_eqD hr.units) eqD_ok eqD_bl (ve_ix (ve_var (pv 2)) (ve_var (pv 3))) (ve_gstrE rfl T.k_ONE)) ve_str (ve_gstrE rfl T.k_ONE)) (vg_sub (ve_var (pv 2)) (ve_var (pv 3)))))) (vss_one (vs_ret (ve_join ve_str (va_cons (ve_var (pv 2)) va_nil))))))
theorem fv_with_changes (T : Txt P w K mg base cm) : FV P w K mg base cm 1 "with_changes" ["bits", "places"] F_with_changes := by
  obtain ⟨f, fd, Fu, hm⟩ := T.d_with_changes
  exact ⟨f, fd, fo_with_changes T Fu, hm, Fu.kp, Fu.binds (ps := ["bits", "places"]) fun _ _ _ _ _ _ us hl => match us, hl with | [_, _], _ => rfl⟩
theorem sc_is_integer : FnScope ["value"] ["value"] (defScope st_is_integer) := ⟨rfl, rfl, rfl, by decide +kernel, rfl, by decide +kernel, by decide +kernel⟩
theorem fo_is_integer (T : Txt P w K mg base cm) {f : Addr} {fd : FuncData} (Fu : Fun K "is_integer" "is_integer" st_is_integer f fd) : FnOk P w K mg base (L2.CX P w) 1 f fd ["value"] (spV K cm 1 F_is_integer) :=
  fn_vs Fu sc_is_integer fun cdv A outer s H E hr =>
    (vss_one (vs_ret (ve_and (ve_callB (call_isiS T.cf) isiD_ok rfl T.n_isinstance (by decide +kernel) (va_cons (ve_var (pv 0)) (va_cons (ve_ty .int rfl T.n_int (by decide +kernel)) va_nil))) (ve_one (ve_not (ve_callB (call_isiS T.cf) isiD_ok rfl T.n_isinstance (by decide +kernel) (va_cons (ve_var (pv 0)) (va_cons (ve_ty .bl rfl T.n_bool (by decide +kernel)) va_nil))))))))
theorem fv_is_integer (T : Txt P w K mg base cm) : FV P w K mg base cm 1 "is_integer" ["value"] F_is_integer := by
  obtain ⟨f, fd, Fu, hm⟩ := T.d_is_integer
  exact ⟨f, fd, fo_is_integer T Fu, hm, Fu.kp, Fu.binds (ps := ["value"]) fun _ _ _ _ _ _ us hl => match us, hl with | [_], _ => rfl⟩
theorem sc_is_within : FnScope ["value", "least", "most"] ["value", "least", "most"] (defScope st_is_within) := ⟨rfl, rfl, rfl, by decide +kernel, rfl, by decide +kernel, by decide +kernel⟩
theorem fo_is_within (T : Txt P w K mg base cm) {f : Addr} {fd : FuncData} (Fu : Fun K "is_within" "is_within" st_is_within f fd) : FnOk P w K mg base (L2.CX P w) 2 f fd ["value", "least", "most"] (spV K cm 3 F_is_within) :=
  fn_vs Fu sc_is_within fun cdv A outer s H E hr =>
    (vss_one (vs_ret (ve_and (ve_app (ps := ["value"]) (fv_is_integer T) (hr.mono (by decide : 1 ≤ 1)) (takes_of rfl rfl rfl rfl) rfl (va_cons (ve_var (pv 0)) va_nil)) (ve_and (ve_or (ve_cmp op_iss isD_ok (ve_var (pv 1)) ve_non) (ve_one (ve_cmp op_ge geD_ok (ve_var (pv 0)) (ve_var (pv 1))))) (ve_one (ve_or (ve_cmp op_iss isD_ok (ve_var (pv 2)) ve_non) (ve_one (ve_cmp op_le leD_ok (ve_var (pv 0)) (ve_var (pv 2))))))))))
theorem fv_is_within (T : Txt P w K mg base cm) : FV P w K mg base cm 2 "is_within" ["value", "least", "most"] F_is_within := by
  obtain ⟨f, fd, Fu, hm⟩ := T.d_is_within
  exact ⟨f, fd, fo_is_within T Fu, hm, Fu.kp, Fu.binds (ps := ["value", "least", "most"]) fun _ _ _ _ _ _ us hl => match us, hl with | [_, _, _], _ => rfl⟩
theorem sc_is_listed : FnScope ["value"] ["value"] (defScope st_is_listed) := ⟨rfl, rfl, rfl, by decide +kernel, rfl, by decide +kernel, by decide +kernel⟩
theorem fo_is_listed (T : Txt P w K mg base cm) {f : Addr} {fd : FuncData} (Fu : Fun K "is_listed" "is_listed" st_is_listed f fd) : FnOk P w K mg base (L2.CX P w) 1 f fd ["value"] (spV K cm 1 F_is_listed) :=
  fn_vs Fu sc_is_listed fun cdv A outer s H E hr =>
    (vss_one (vs_ret (ve_callB (call_isiS T.cf) isiD_ok rfl T.n_isinstance (by decide +kernel) (va_cons (ve_var (pv 0)) (va_cons (ve_tup (va_cons (ve_ty .lst rfl T.n_list (by decide +kernel)) (va_cons (ve_ty .tup rfl T.n_tuple (by decide +kernel)) va_nil))) va_nil)))))
theorem fv_is_listed (T : Txt P w K mg base cm) : FV P w K mg base cm 1 "is_listed" ["value"] F_is_listed := by
  obtain ⟨f, fd, Fu, hm⟩ := T.d_is_listed
  exact ⟨f, fd, fo_is_listed T Fu, hm, Fu.kp, Fu.binds (ps := ["value"]) fun _ _ _ _ _ _ us hl => match us, hl with | [_], _ => rfl⟩
theorem sc_is_change : FnScope ["value", "many", "place", "k"] ["value", "many"] (defScope st_is_change) := ⟨rfl, rfl, rfl, by decide +kernel, rfl, by decide +kernel, by decide +kernel⟩
theorem fo_is_change (T : Txt P w K mg base cm) {f : Addr} {fd : FuncData} (Fu : Fun K "is_change" "is_change" st_is_change f fd) : FnOk P w K mg base (L2.CX P w) 3 f fd ["value", "many"] (spV K cm 2 F_is_change) :=
  fn_vs Fu sc_is_change fun cdv A outer s H E hr =>
    (vss_cons (vs_if (vt_w (vw_or (vt_not (vt_tru (ve_app (ps := ["value"]) (fv_is_listed T) (hr.mono (by decide : 1 ≤ 2)) (takes_of rfl rfl rfl rfl) rfl (va_cons (ve_var (pv 0)) va_nil)))) (vw_or1 (vt_not (vt_tru (ve_callB (cr_all rfl) allD_ok rfl T.n_all (by decide +kernel) (va_cons (ve_imm (vf_lc (own := [("place", 2)]) rfl sc_is_change.nd (vi_over (ve_var (pv 0))) (by rfl) (fun s H C cl fp => (vgo_name (by decide) (pg_name (i := 2) sc_is_change.nd rfl (Or.inl rfl)))) (fun s H C cl fp => vts_nil) (fun s H C cl fp => (ve_app (ps := ["value", "least", "most"]) (fv_is_within T) (hr.mono (by decide : 2 ≤ 2)) (LamX.takes0) rfl (va_cons (ve_var (pv 2)) (va_cons ve_int (va_cons (ve_op op_sub subD_ok (ve_var (pv 1)) ve_int) va_nil))))))) va_nil))))))) (vss_one (vs_ret ve_bl)) vss_nil) (vss_one (vs_ret (ve_callB (cr_all rfl) allD_ok rfl T.n_all (by decide +kernel) (va_cons (ve_imm (vf_lc (own := [("k", 3)]) rfl sc_is_change.nd (vi_range1 rfl T.n_range (va_cons (ve_op op_sub subD_ok (ve_callB call_len lenD_ok rfl T.n_len (by decide +kernel) (va_cons (ve_var (pv 0)) va_nil)) ve_int) va_nil)) (by rfl) (fun s H C cl fp => (vgo_name (by decide) (pg_name (i := 3) sc_is_change.nd rfl (Or.inl rfl)))) (fun s H C cl fp => vts_nil) (fun s H C cl fp => (ve_cmp op_lt ltD_ok (ve_ix (ve_var (pv 0)) (ve_var (pv 3))) (ve_ix (ve_var (pv 0)) (ve_op op_adds addD_ok (ve_var (pv 3)) ve_int)))))) va_nil)))))
theorem fv_is_change (T : Txt P w K mg base cm) : FV P w K mg base cm 3 "is_change" ["value", "many"] F_is_change := by
  obtain ⟨f, fd, Fu, hm⟩ := T.d_is_change
  exact ⟨f, fd, fo_is_change T Fu, hm, Fu.kp, Fu.binds (ps := ["value", "many"]) fun _ _ _ _ _ _ us hl => match us, hl with | [_, _], _ => rfl⟩
theorem sc_changed : FnScope ["bits", "places"] ["bits", "places"] (defScope st_changed) := ⟨rfl, rfl, rfl, by decide +kernel, rfl, by decide +kernel, by decide +kernel⟩
theorem fo_changed (T : Txt P w K mg base cm) {f : Addr} {fd : FuncData} (Fu : Fun K "changed" "changed" st_changed f fd) : FnOk P w K mg base (L2.CX P w) 4 f fd ["bits", "places"] (spV K cm 2 F_changed) :=
  fn_vs Fu sc_changed fun cdv A outer s H E hr =>
    (vss_cons (vs_expr (ve_app (ps := ["value", "part"]) (fv_need_bits T) (hr.mono (by decide : 2 ≤ 3)) (takes_of rfl rfl rfl rfl) rfl (va_cons (ve_var (pv 0)) (va_cons ve_str va_nil)))) (vss_cons (vs_if (vt_not (vt_tru (ve_app (ps := ["value", "many"]) (fv_is_change T) (hr.mono (by decide : 3 ≤ 3)) (takes_of rfl rfl rfl rfl) rfl (va_cons (ve_var (pv 1)) (va_cons (ve_callB call_len lenD_ok rfl T.n_len (by decide +kernel) (va_cons (ve_var (pv 0)) va_nil)) va_nil))))) (vss_one (vs_raise T.e_BadRow rfl (takes_of rfl rfl rfl rfl) (hr.mono (by decide : 0 ≤ 3)) (va_cons ve_str va_nil) rfl)) vss_nil) (vss_one (vs_ret (ve_app (ps := ["bits", "places"]) (fv_with_changes T) (hr.mono (by decide : 1 ≤ 3)) (takes_of rfl rfl rfl rfl) rfl (va_cons (ve_var (pv 0)) (va_cons (ve_var (pv 1)) va_nil)))))))
theorem fv_changed (T : Txt P w K mg base cm) : FV P w K mg base cm 4 "changed" ["bits", "places"] F_changed := by
  obtain ⟨f, fd, Fu, hm⟩ := T.d_changed
  exact ⟨f, fd, fo_changed T Fu, hm, Fu.kp, Fu.binds (ps := ["bits", "places"]) fun _ _ _ _ _ _ us hl => match us, hl with | [_, _], _ => rfl⟩
theorem fk_changed_places_bits (T : Txt P w K mg base cm) : FVK P w K mg base cm 4 "changed" ["bits", "places"] F_changed ["places", "bits"] 0 [1, 0] := by
  obtain ⟨f, fd, Fu, hm⟩ := T.d_changed
  exact ⟨f, fd, fo_changed T Fu, hm, Fu.kp, kbd_of Fu fun _ _ _ _ _ _ us ws h1 h2 => match us, ws, h1, h2 with | [], [_, _], _, _ => by first | rfl | with_unfolding_all rfl | kernel_rfl⟩
theorem sc__law_draw : FnScope ["pen", "many", "left", "turn", "cell", "mixed"] ["pen", "many"] (defScope st__law_draw) := ⟨rfl, rfl, rfl, by decide +kernel, rfl, by decide +kernel, by decide +kernel⟩
theorem fo__law_draw (T : Txt P w K mg base cm) {f : Addr} {fd : FuncData} (Fu : Fun K "_law_draw" "_law_draw" st__law_draw f fd) : FnOk P w K mg base (L2.CX P w) 1 f fd ["pen", "many"] (spV K cm 2 F__law_draw) :=
  fn_vs Fu sc__law_draw fun cdv A outer s H E hr =>
    (vss_cons (vs_if (vt_cmp op_gt gtD_ok gtD_bl (ve_ix (ve_var (pv 0)) ve_int) ve_int) (vss_cons (vs_set (i := 2) sc__law_draw.nd rfl (Or.inl rfl) (ve_callT call_int1 intD_ok rfl T.n_int (by decide +kernel) (va_cons (ve_ix (ve_var (pv 0)) ve_int) va_nil))) (vss_cons (vs_asg (ve_op op_fdivW fdivD_ok (ve_var (pv 2)) (ve_var (pv 1))) (vg_sub (ve_var (pv 0)) ve_int)) (vss_one (vs_ret (ve_op op_mod modD_ok (ve_callT call_int1 intD_ok rfl T.n_int (by decide +kernel) (va_cons (ve_var (pv 2)) va_nil)) (ve_var (pv 1))))))) vss_nil) (vss_cons (vs_set (i := 3) sc__law_draw.nd rfl (Or.inl rfl) (ve_ix (ve_var (pv 0)) ve_int)) (vss_cons (vs_asg (ve_op op_adds addD_ok (ve_var (pv 3)) ve_int) (vg_sub (ve_var (pv 0)) ve_int)) (vss_cons (vs_set (i := 4) sc__law_draw.nd rfl (Or.inl rfl) (ve_op op_adds addD_ok (ve_op op_mulA mulA_ok ve_int (ve_var (pv 3))) ve_int)) (vss_cons (vs_if (vt_cmp (op_neD hr.units) neD_ok neD_bl (ve_ix (ve_var (pv 0)) ve_int) (ve_imm (vf_lst va_nil))) (vss_one (vs_set (i := 4) sc__law_draw.nd rfl (Or.inl rfl) (ve_ix (ve_ix (ve_var (pv 0)) ve_int) (ve_op op_mod modD_ok (ve_callT call_int1 intD_ok rfl T.n_int (by decide +kernel) (va_cons (ve_var (pv 3)) va_nil)) (ve_callB call_len lenD_ok rfl T.n_len (by decide +kernel) (va_cons (ve_ix (ve_var (pv 0)) ve_int) va_nil)))))) vss_nil) (vss_cons (vs_if (vt_w (vw_and (vt_cmp op_lt ltD_ok ltD_bl (ve_var (pv 3)) (ve_callB call_len lenD_ok rfl T.n_len (by decide +kernel) (va_cons (ve_ix (ve_var (pv 0)) ve_int) va_nil))) (vw_and1 (vt_cmp op_ge geD_ok geD_bl (ve_callB call_abs absD_ok rfl T.n_abs (by decide +kernel) (va_cons (ve_var (pv 4)) va_nil)) (ve_op op_pow powD_ok ve_int ve_int))))) (vss_cons (vs_set (i := 2) sc__law_draw.nd rfl (Or.inl rfl) (ve_op op_adds addD_ok (ve_op op_mulA mulA_ok ve_int (ve_op op_sub subD_ok (ve_callB call_abs absD_ok rfl T.n_abs (by decide +kernel) (va_cons (ve_callT call_int1 intD_ok rfl T.n_int (by decide +kernel) (va_cons (ve_var (pv 4)) va_nil)) va_nil)) (ve_op op_pow powD_ok ve_int ve_int))) (ve_callT call_int1 intD_ok rfl T.n_int (by decide +kernel) (va_cons (ve_cmp op_lt ltD_ok (ve_var (pv 4)) ve_int) va_nil)))) (vss_cons (vs_asg (ve_op op_fdivW fdivD_ok (ve_var (pv 2)) (ve_var (pv 1))) (vg_sub (ve_var (pv 0)) ve_int)) (vss_one (vs_ret (ve_op op_mod modD_ok (ve_callT call_int1 intD_ok rfl T.n_int (by decide +kernel) (va_cons (ve_var (pv 2)) va_nil)) (ve_var (pv 1))))))) vss_nil) (vss_cons (vs_set (i := 5) sc__law_draw.nd rfl (Or.inl rfl) (ve_op op_mod modD_ok (ve_callT call_int1 intD_ok rfl T.n_int (by decide +kernel) (va_cons (ve_op op_pow powD_ok (ve_op op_adds addD_ok (ve_op op_adds addD_ok (ve_op op_mod modD_ok (ve_callT call_int1 intD_ok rfl T.n_int (by decide +kernel) (va_cons (ve_var (pv 4)) va_nil)) ve_int) (ve_op op_mulA mulA_ok ve_int (ve_var (pv 3)))) ve_int) ve_int) va_nil)) ve_int)) (vss_cons (vs_set (i := 5) sc__law_draw.nd rfl (Or.inl rfl) (ve_op op_mod modD_ok (ve_callT call_int1 intD_ok rfl T.n_int (by decide +kernel) (va_cons (ve_op op_pow powD_ok (ve_op op_adds addD_ok (ve_op op_adds addD_ok (ve_op op_mulA mulA_ok (ve_var (pv 5)) (ve_op op_adds addD_ok (ve_op op_mulA mulA_ok ve_int (ve_var (pv 3))) ve_int)) (ve_op op_mulA mulA_ok (ve_op op_mulA mulA_ok ve_int (ve_var (pv 3))) (ve_var (pv 3)))) ve_int) ve_int) va_nil)) ve_int)) (vss_one (vs_ret (ve_op op_mod modD_ok (ve_callT call_int1 intD_ok rfl T.n_int (by decide +kernel) (va_cons (ve_op op_fdivW fdivD_ok (ve_var (pv 5)) ve_int) va_nil)) (ve_var (pv 1)))))))))))))
theorem fv__law_draw (T : Txt P w K mg base cm) : FV P w K mg base cm 1 "_law_draw" ["pen", "many"] F__law_draw := by
  obtain ⟨f, fd, Fu, hm⟩ := T.d__law_draw
  exact ⟨f, fd, fo__law_draw T Fu, hm, Fu.kp, Fu.binds (ps := ["pen", "many"]) fun _ _ _ _ _ _ us hl => match us, hl with | [_, _], _ => rfl⟩
theorem sc__law_pick : FnScope ["pen", "some"] ["pen", "some"] (defScope st__law_pick) := ⟨rfl, rfl, rfl, by decide +kernel, rfl, by decide +kernel, by decide +kernel⟩
theorem fo__law_pick (T : Txt P w K mg base cm) {f : Addr} {fd : FuncData} (Fu : Fun K "_law_pick" "_law_pick" st__law_pick f fd) : FnOk P w K mg base (L2.CX P w) 2 f fd ["pen", "some"] (spV K cm 2 F__law_pick) :=
  fn_vs Fu sc__law_pick fun cdv A outer s H E hr =>
    (vss_one (vs_ret (ve_ix (ve_var (pv 1)) (ve_app (ps := ["pen", "many"]) (fv__law_draw T) (hr.mono (by decide : 1 ≤ 1)) (takes_of rfl rfl rfl rfl) rfl (va_cons (ve_var (pv 0)) (va_cons (ve_callB call_len lenD_ok rfl T.n_len (by decide +kernel) (va_cons (ve_var (pv 1)) va_nil)) va_nil))))))
theorem fv__law_pick (T : Txt P w K mg base cm) : FV P w K mg base cm 2 "_law_pick" ["pen", "some"] F__law_pick := by
  obtain ⟨f, fd, Fu, hm⟩ := T.d__law_pick
  exact ⟨f, fd, fo__law_pick T Fu, hm, Fu.kp, Fu.binds (ps := ["pen", "some"]) fun _ _ _ _ _ _ us hl => match us, hl with | [_, _], _ => rfl⟩
theorem sc__law_rest : FnScope ["bits", "guard", "sign", "left", "at", "k", "bit", "found"] ["bits", "guard"] (defScope st__law_rest) := ⟨rfl, rfl, rfl, by decide +kernel, rfl, by decide +kernel, by decide +kernel⟩
theorem fo__law_rest (T : Txt P w K mg base cm) {f : Addr} {fd : FuncData} (Fu : Fun K "_law_rest" "_law_rest" st__law_rest f fd) : FnOk P w K mg base (L2.CX P w) 1 f fd ["bits", "guard"] (spV K cm 2 F__law_rest) :=
  fn_vs Fu sc__law_rest fun cdv A outer s H E hr =>
    (vss_cons (vs_setLcM (i := 3) (own := [("sign", 2)]) rfl sc__law_rest.nd rfl rfl rfl (vi_str (ve_var (pv 0))) (by rfl) (fun s H C cl fp => (vgo_name (by decide) (pg_name (i := 2) sc__law_rest.nd rfl (Or.inl rfl)))) (fun s H C cl fp => vts_nil) (fun s H C cl fp => (ve_callT call_int1 intD_ok rfl T.n_int (by decide +kernel) (va_cons (ve_cmp (op_eqD hr.units) eqD_ok (ve_var (pv 2)) ve_str) va_nil)))) (vss_cons (vs_for (passes_of rfl) rfl (vi_range1 rfl T.n_range (va_cons (ve_op op_adds addD_ok (ve_op op_sub subD_ok (ve_callB call_len lenD_ok rfl T.n_len (by decide +kernel) (va_cons (ve_var (pv 3)) va_nil)) (ve_callB call_len lenD_ok rfl T.n_len (by decide +kernel) (va_cons (ve_var (pv 1)) va_nil))) ve_int) va_nil)) (vg_name (pg_name (i := 4) sc__law_rest.nd rfl (Or.inl rfl))) (vss_one (vs_if (vt_cmp (op_eqD hr.units) eqD_ok eqD_bl (ve_ix (ve_var (pv 3)) (ve_var (pv 4))) ve_int) (vss_one (vs_for (passes_of rfl) rfl (vi_range1 rfl T.n_range (va_cons (ve_callB call_len lenD_ok rfl T.n_len (by decide +kernel) (va_cons (ve_var (pv 1)) va_nil)) va_nil)) (vg_name (pg_name (i := 5) sc__law_rest.nd rfl (Or.inl rfl))) (vss_one (vs_asg (ve_op op_mod modD_ok (ve_op op_adds addD_ok (ve_ix (ve_var (pv 3)) (ve_op op_adds addD_ok (ve_var (pv 4)) (ve_var (pv 5)))) (ve_callT call_int1 intD_ok rfl T.n_int (by decide +kernel) (va_cons (ve_cmp (op_eqD hr.units) eqD_ok (ve_ix (ve_var (pv 1)) (ve_var (pv 5))) ve_str) va_nil))) ve_int) (vg_sub (ve_var (pv 3)) (ve_op op_adds addD_ok (ve_var (pv 4)) (ve_var (pv 5)))))))) vss_nil))) (vss_cons (vs_set (i := 7) sc__law_rest.nd rfl (Or.inl rfl) (ve_join ve_str (va_cons (ve_imm (vf_lc (own := [("bit", 6)]) rfl sc__law_rest.nd (vi_over (ve_var (pv 3))) (by rfl) (fun s H C cl fp => (vgo_name (by decide) (pg_name (i := 6) sc__law_rest.nd rfl (Or.inl rfl)))) (fun s H C cl fp => vts_nil) (fun s H C cl fp => (ve_callT call_str_int strI_ok rfl T.n_str (by decide +kernel) (va_cons (ve_var (pv 6)) va_nil))))) va_nil))) (vss_one (vs_ret (ve_slice (ve_op op_adds addD_ok (ve_op op_mulA mulA_ok ve_str (ve_callB call_len lenD_ok rfl T.n_len (by decide +kernel) (va_cons (ve_var (pv 1)) va_nil))) (ve_var (pv 7))) (vo_some (ve_op op_adds addD_ok (ve_callB call_len lenD_ok rfl T.n_len (by decide +kernel) (va_cons (ve_var (pv 7)) va_nil)) ve_int)) vo_none))))))
theorem fv__law_rest (T : Txt P w K mg base cm) : FV P w K mg base cm 1 "_law_rest" ["bits", "guard"] F__law_rest := by
  obtain ⟨f, fd, Fu, hm⟩ := T.d__law_rest
  exact ⟨f, fd, fo__law_rest T Fu, hm, Fu.kp, Fu.binds (ps := ["bits", "guard"]) fun _ _ _ _ _ _ us hl => match us, hl with | [_, _], _ => rfl⟩
theorem sc__law_with_guard : FnScope ["bits", "guard"] ["bits", "guard"] (defScope st__law_with_guard) := ⟨rfl, rfl, rfl, by decide +kernel, rfl, by decide +kernel, by decide +kernel⟩
theorem fo__law_with_guard (T : Txt P w K mg base cm) {f : Addr} {fd : FuncData} (Fu : Fun K "_law_with_guard" "_law_with_guard" st__law_with_guard f fd) : FnOk P w K mg base (L2.CX P w) 2 f fd ["bits", "guard"] (spV K cm 2 F__law_with_guard) :=
  fn_vs Fu sc__law_with_guard fun cdv A outer s H E hr =>
    (vss_one (vs_ret (ve_op op_adds addD_ok (ve_var (pv 0)) (ve_app (ps := ["bits", "guard"]) (fv__law_rest T) (hr.mono (by decide : 1 ≤ 1)) (takes_of rfl rfl rfl rfl) rfl (va_cons (ve_op op_adds addD_ok (ve_var (pv 0)) (ve_op op_mulA mulA_ok ve_str (ve_op op_sub subD_ok (ve_callB call_len lenD_ok rfl T.n_len (by decide +kernel) (va_cons (ve_var (pv 1)) va_nil)) ve_int))) (va_cons (ve_var (pv 1)) va_nil))))))
theorem fv__law_with_guard (T : Txt P w K mg base cm) : FV P w K mg base cm 2 "_law_with_guard" ["bits", "guard"] F__law_with_guard := by
  obtain ⟨f, fd, Fu, hm⟩ := T.d__law_with_guard
  exact ⟨f, fd, fo__law_with_guard T Fu, hm, Fu.kp, Fu.binds (ps := ["bits", "guard"]) fun _ _ _ _ _ _ us hl => match us, hl with | [_, _], _ => rfl⟩
theorem sc__law_guard : FnScope ["pen", "k"] ["pen"] (defScope st__law_guard) := ⟨rfl, rfl, rfl, by decide +kernel, rfl, by decide +kernel, by decide +kernel⟩
theorem fo__law_guard (T : Txt P w K mg base cm) {f : Addr} {fd : FuncData} (Fu : Fun K "_law_guard" "_law_guard" st__law_guard f fd) : FnOk P w K mg base (L2.CX P w) 3 f fd ["pen"] (spV K cm 1 F__law_guard) :=
  fn_vs Fu sc__law_guard fun cdv A outer s H E hr =>
    (vss_one (vs_ret (ve_op op_adds addD_ok (ve_op op_adds addD_ok ve_str (ve_join ve_str (va_cons (ve_imm (vf_lc (own := [("k", 1)]) rfl sc__law_guard.nd (vi_range1 rfl T.n_range (va_cons (ve_app (ps := ["pen", "many"]) (fv__law_draw T) (hr.mono (by decide : 1 ≤ 2)) (takes_of rfl rfl rfl rfl) rfl (va_cons (ve_var (pv 0)) (va_cons ve_int va_nil))) va_nil)) (by rfl) (fun s H C cl fp => (vgo_name (by decide) (pg_name (i := 1) sc__law_guard.nd rfl (Or.inl rfl)))) (fun s H C cl fp => vts_nil) (fun s H C cl fp => (ve_app (ps := ["pen", "some"]) (fv__law_pick T) (hr.mono (by decide : 2 ≤ 2)) (LamX.takes0) rfl (va_cons (ve_var (pv 0)) (va_cons ve_str va_nil)))))) va_nil))) ve_str)))
theorem fv__law_guard (T : Txt P w K mg base cm) : FV P w K mg base cm 3 "_law_guard" ["pen"] F__law_guard := by
  obtain ⟨f, fd, Fu, hm⟩ := T.d__law_guard
  exact ⟨f, fd, fo__law_guard T Fu, hm, Fu.kp, Fu.binds (ps := ["pen"]) fun _ _ _ _ _ _ us hl => match us, hl with | [_], _ => rfl⟩
theorem sc__law_bits : FnScope ["pen", "many", "k"] ["pen", "many"] (defScope st__law_bits) := ⟨rfl, rfl, rfl, by decide +kernel, rfl, by decide +kernel, by decide +kernel⟩
theorem fo__law_bits (T : Txt P w K mg base cm) {f : Addr} {fd : FuncData} (Fu : Fun K "_law_bits" "_law_bits" st__law_bits f fd) : FnOk P w K mg base (L2.CX P w) 3 f fd ["pen", "many"] (spV K cm 2 F__law_bits) :=
  fn_vs Fu sc__law_bits fun cdv A outer s H E hr =>
    (vss_one (vs_ret (ve_join ve_str (va_cons (ve_imm (vf_lc (own := [("k", 2)]) rfl sc__law_bits.nd (vi_range1 rfl T.n_range (va_cons (ve_var (pv 1)) va_nil)) (by rfl) (fun s H C cl fp => (vgo_name (by decide) (pg_name (i := 2) sc__law_bits.nd rfl (Or.inl rfl)))) (fun s H C cl fp => vts_nil) (fun s H C cl fp => (ve_app (ps := ["pen", "some"]) (fv__law_pick T) (hr.mono (by decide : 2 ≤ 2)) (LamX.takes0) rfl (va_cons (ve_var (pv 0)) (va_cons ve_str va_nil)))))) va_nil))))
theorem fv__law_bits (T : Txt P w K mg base cm) : FV P w K mg base cm 3 "_law_bits" ["pen", "many"] F__law_bits := by
  obtain ⟨f, fd, Fu, hm⟩ := T.d__law_bits
  exact ⟨f, fd, fo__law_bits T Fu, hm, Fu.kp, Fu.binds (ps := ["pen", "many"]) fun _ _ _ _ _ _ us hl => match us, hl with | [_, _], _ => rfl⟩
theorem sc__law_change : FnScope ["bits", "places", "at"] ["bits", "places"] (defScope st__law_change) := ⟨rfl, rfl, rfl, by decide +kernel, rfl, by decide +kernel, by decide +kernel⟩
theorem fo__law_change (T : Txt P w K mg base cm) {f : Addr} {fd : FuncData} (Fu : Fun K "_law_change" "_law_change" st__law_change f fd) : FnOk P w K mg base (L2.CX P w) 1 f fd ["bits", "places"] (spV K cm 2 F__law_change) :=
  fn_vs Fu sc__law_change fun cdv A outer s H E hr =>
    (vss_one (vs_ret (ve_join ve_str (va_cons (ve_imm (vf_lc (own := [("at", 2)]) rfl sc__law_change.nd (vi_range1 rfl T.n_range (va_cons (ve_callB call_len lenD_ok rfl T.n_len (by decide +kernel) (va_cons (ve_var (pv 0)) va_nil)) va_nil)) (by rfl) (fun s H C cl fp => (vgo_name (by decide) (pg_name (i := 2) sc__law_change.nd rfl (Or.inl rfl)))) (fun s H C cl fp => vts_nil) (fun s H C cl fp => (ve_if (vt_cmp op_inA inA_ok inA_bl (ve_var (pv 2)) (ve_var (pv 1))) (ve_if (vt_cmp (op_eqD hr.units) eqD_ok eqD_bl (ve_ix (ve_var (pv 0)) (ve_var (pv 2))) ve_str) ve_str ve_str) (ve_ix (ve_var (pv 0)) (ve_var (pv 2))))))) va_nil))))
theorem fv__law_change (T : Txt P w K mg base cm) : FV P w K mg base cm 1 "_law_change" ["bits", "places"] F__law_change := by
  obtain ⟨f, fd, Fu, hm⟩ := T.d__law_change
  exact ⟨f, fd, fo__law_change T Fu, hm, Fu.kp, Fu.binds (ps := ["bits", "places"]) fun _ _ _ _ _ _ us hl => match us, hl with | [_, _], _ => rfl⟩
theorem sc__law_sum : FnScope ["one", "other", "at"] ["one", "other"] (defScope st__law_sum) := ⟨rfl, rfl, rfl, by decide +kernel, rfl, by decide +kernel, by decide +kernel⟩
theorem fo__law_sum (T : Txt P w K mg base cm) {f : Addr} {fd : FuncData} (Fu : Fun K "_law_sum" "_law_sum" st__law_sum f fd) : FnOk P w K mg base (L2.CX P w) 1 f fd ["one", "other"] (spV K cm 2 F__law_sum) :=
  fn_vs Fu sc__law_sum fun cdv A outer s H E hr =>
    (vss_one (vs_ret (ve_join ve_str (va_cons (ve_imm (vf_lc (own := [("at", 2)]) rfl sc__law_sum.nd (vi_range1 rfl T.n_range (va_cons (ve_callB call_len lenD_ok rfl T.n_len (by decide +kernel) (va_cons (ve_var (pv 0)) va_nil)) va_nil)) (by rfl) (fun s H C cl fp => (vgo_name (by decide) (pg_name (i := 2) sc__law_sum.nd rfl (Or.inl rfl)))) (fun s H C cl fp => vts_nil) (fun s H C cl fp => (ve_ix ve_str (ve_callT call_int1 intD_ok rfl T.n_int (by decide +kernel) (va_cons (ve_cmp (op_neD hr.units) neD_ok (ve_ix (ve_var (pv 0)) (ve_var (pv 2))) (ve_ix (ve_var (pv 1)) (ve_var (pv 2)))) va_nil)))))) va_nil))))
theorem fv__law_sum (T : Txt P w K mg base cm) : FV P w K mg base cm 1 "_law_sum" ["one", "other"] F__law_sum := by
  obtain ⟨f, fd, Fu, hm⟩ := T.d__law_sum
  exact ⟨f, fd, fo__law_sum T Fu, hm, Fu.kp, Fu.binds (ps := ["one", "other"]) fun _ _ _ _ _ _ us hl => match us, hl with | [_, _], _ => rfl⟩
theorem sc__law_places : FnScope ["pen", "many", "within", "first", "room", "at"] ["pen", "many", "within"] (defScope st__law_places) := ⟨rfl, rfl, rfl, by decide +kernel, rfl, by decide +kernel, by decide +kernel⟩
theorem fo__law_places (T : Txt P w K mg base cm) {f : Addr} {fd : FuncData} (Fu : Fun K "_law_places" "_law_places" st__law_places f fd) : FnOk P w K mg base (L2.CX P w) 2 f fd ["pen", "many", "within"] (spV K cm 3 F__law_places) :=
  fn_vs Fu sc__law_places fun cdv A outer s H E hr =>
    (vss_cons (vs_set (i := 3) sc__law_places.nd rfl (Or.inr rfl) (ve_app (ps := ["pen", "many"]) (fv__law_draw T) (hr.mono (by decide : 1 ≤ 1)) (takes_of rfl rfl rfl rfl) rfl (va_cons (ve_var (pv 0)) (va_cons (ve_var (pv 1)) va_nil)))) (vss_cons (vs_set (i := 4) sc__law_places.nd rfl (Or.inl rfl) (ve_callB (call_min2 rfl) minD_ok rfl T.n_min (by decide +kernel) (va_cons (ve_var (pv 2)) (va_cons (ve_op op_sub subD_ok (ve_var (pv 1)) (ve_var (pv 3))) va_nil)))) (vss_one (vs_ret (ve_op op_adds addD_ok (ve_imm (vf_lst (va_cons (ve_var (pv 3)) va_nil))) (ve_imm (vf_lc (own := [("at", 5)]) rfl sc__law_places.nd (vi_range2 rfl T.n_range (va_cons ve_int (va_cons (ve_var (pv 4)) va_nil))) (by rfl) (fun s H C cl fp => (vgo_name (by decide) (pg_name (i := 5) sc__law_places.nd rfl (Or.inl rfl)))) (fun s H C cl fp => (vts_one (vt_cmp (op_eqD hr.units) eqD_ok eqD_bl (ve_app (ps := ["pen", "many"]) (fv__law_draw T) (hr.mono (by decide : 1 ≤ 1)) (LamX.takes0) rfl (va_cons (ve_var (pv 0)) (va_cons ve_int va_nil))) ve_int))) (fun s H C cl fp => (ve_op op_adds addD_ok (ve_var (pv 3)) (ve_var (pv 5)))))))))))
theorem fv__law_places (T : Txt P w K mg base cm) : FV P w K mg base cm 2 "_law_places" ["pen", "many", "within"] F__law_places := by
  obtain ⟨f, fd, Fu, hm⟩ := T.d__law_places
  exact ⟨f, fd, fo__law_places T Fu, hm, Fu.kp, Fu.binds (ps := ["pen", "many", "within"]) fun _ _ _ _ _ _ us hl => match us, hl with | [_, _, _], _ => rfl⟩
theorem sc__law_heard : FnScope ["ask", "caught", "found", "error", "told"] ["ask"] (defScope st__law_heard) := ⟨rfl, rfl, rfl, by decide +kernel, rfl, by decide +kernel, by decide +kernel⟩
theorem bd__law_heard {f : Addr} {fd : FuncData} (Fu : Fun K "_law_heard" "_law_heard" st__law_heard f fd) : Binds K fd ["ask"] [] := Fu.binds (ps := ["ask"]) fun _ _ _ _ _ _ us hl => match us, hl with | [_], _ => rfl
theorem ok__law_heard (T : Txt P w K mg base cm) {A : Around} {stack : List PySem.Env} {s : Shared} {H : Hp} {g : Addr} {cdv : Value} {ak : SE} (hr : Room 0 (A.deeper (envOfC "_law_heard" (defScope st__law_heard) s.heap.objs.size g cdv)))
    (act : ∀ (W' : WX) (pn : List (Addr × Obj)) (xe : Value → Shared → Prop) (p1 p2 : Pos), Takes (((cxOf C8.CX0 P w K mg base ["ask", "caught", "found", "error", "told"] "_law_heard" (defScope st__law_heard) g cdv A stack s H C8.E0).nox).tr pn xe) W' → VE (((cxOf C8.CX0 P w K mg base ["ask", "caught", "found", "error", "told"] "_law_heard" (defScope st__law_heard) g cdv A stack s H C8.E0).nox).tr pn xe) cm W' (.Call (.Name "ask" p1) [] [] p2) ak) :
    VSs ((cxOf C8.CX0 P w K mg base ["ask", "caught", "found", "error", "told"] "_law_heard" (defScope st__law_heard) g cdv A stack s H C8.E0).nox) cm WF (defBody st__law_heard) (s__law_heard ak) :=
  (vss_cons (vs_asg (ve_tup (va_cons ve_non (va_cons ve_non va_nil))) (vg_seq rfl (vgs_cons (vg_name (pg_name (i := 1) sc__law_heard.nd rfl (Or.inl rfl))) (vgs_cons (vg_name (pg_name (i := 2) sc__law_heard.nd rfl (Or.inl rfl))) vgs_nil)))) (vss_cons (vs_tryE (i := 3) T.t_BellError rfl (by decide) rfl rfl rfl sc__law_heard.nd rfl rfl (LamX.takes0) (fun W' pn xe tk hp => (vss_one (vs_set (i := 2) sc__law_heard.nd rfl (Or.inl rfl) (act _ _ _ _ _ tk)))) (fun a pn => (vss_one (vs_set (i := 1) sc__law_heard.nd rfl (Or.inl rfl) (ve_var (pv 3)))))) (vss_cons (vs_if (vt_cmp op_iss isD_ok isD_bl (ve_var (pv 1)) ve_non) (vss_one (vs_ret (ve_imm (vf_lst (va_cons (ve_var (pv 2)) va_nil))))) vss_nil) (vss_cons (vs_set (i := 4) sc__law_heard.nd rfl (Or.inl rfl) (ve_mut (vf_lst va_nil))) (vss_cons (vs_if (vt_tru (ve_callB (call_isiS T.cf) isiD_ok rfl T.n_isinstance (by decide +kernel) (va_cons (ve_var (pv 1)) (va_cons (ve_clsE rfl T.m_BadNumber) va_nil)))) (vss_one (vs_expr (ve_append (ve_var (pv 4)) (va_cons (ve_tup (va_cons ve_str (va_cons (ve_xf T.x_part (ve_var (pv 1))) va_nil))) va_nil)))) vss_nil) (vss_cons (vs_if (vt_tru (ve_callB (call_isiS T.cf) isiD_ok rfl T.n_isinstance (by decide +kernel) (va_cons (ve_var (pv 1)) (va_cons (ve_clsE rfl T.m_BadBits) va_nil)))) (vss_one (vs_expr (ve_append (ve_var (pv 4)) (va_cons (ve_tup (va_cons ve_str (va_cons (ve_xf T.x_part (ve_var (pv 1))) va_nil))) va_nil)))) vss_nil) (vss_cons (vs_if (vt_tru (ve_callB (call_isiS T.cf) isiD_ok rfl T.n_isinstance (by decide +kernel) (va_cons (ve_var (pv 1)) (va_cons (ve_clsE rfl T.m_BadTable) va_nil)))) (vss_one (vs_expr (ve_append (ve_var (pv 4)) (va_cons (ve_tup (va_cons ve_str (va_cons (ve_xf T.x_part (ve_var (pv 1))) va_nil))) va_nil)))) vss_nil) (vss_cons (vs_if (vt_tru (ve_callB (call_isiS T.cf) isiD_ok rfl T.n_isinstance (by decide +kernel) (va_cons (ve_var (pv 1)) (va_cons (ve_clsE rfl T.m_BadBook) va_nil)))) (vss_one (vs_expr (ve_append (ve_var (pv 4)) (va_cons (ve_tup (va_cons ve_str (va_cons (ve_xf T.x_part (ve_var (pv 1))) va_nil))) va_nil)))) vss_nil) (vss_cons (vs_if (vt_tru (ve_callB (call_isiS T.cf) isiD_ok rfl T.n_isinstance (by decide +kernel) (va_cons (ve_var (pv 1)) (va_cons (ve_clsE rfl T.m_BadRow) va_nil)))) (vss_one (vs_expr (ve_append (ve_var (pv 4)) (va_cons (ve_tup (va_cons ve_str (va_cons (ve_xf T.x_part (ve_var (pv 1))) va_nil))) va_nil)))) vss_nil) (vss_cons (vs_if (vt_tru (ve_callB (call_isiS T.cf) isiD_ok rfl T.n_isinstance (by decide +kernel) (va_cons (ve_var (pv 1)) (va_cons (ve_clsE rfl T.m_BadPattern) va_nil)))) (vss_one (vs_expr (ve_append (ve_var (pv 4)) (va_cons (ve_tup (va_cons ve_str (va_cons (ve_xf T.x_part (ve_var (pv 1))) va_nil))) va_nil)))) vss_nil) (vss_cons (vs_if (vt_tru (ve_callB (call_isiS T.cf) isiD_ok rfl T.n_isinstance (by decide +kernel) (va_cons (ve_var (pv 1)) (va_cons (ve_clsE rfl T.m_BadPaper) va_nil)))) (vss_one (vs_expr (ve_append (ve_var (pv 4)) (va_cons (ve_tup (va_cons ve_str (va_cons (ve_xf T.x_part (ve_var (pv 1))) va_nil))) va_nil)))) vss_nil) (vss_cons (vs_if (vt_tru (ve_callB (call_isiS T.cf) isiD_ok rfl T.n_isinstance (by decide +kernel) (va_cons (ve_var (pv 1)) (va_cons (ve_clsE rfl T.m_Misfit) va_nil)))) (vss_one (vs_expr (ve_append (ve_var (pv 4)) (va_cons (ve_tup (va_cons ve_str (va_cons (ve_xf T.x_part (ve_var (pv 1))) va_nil))) va_nil)))) vss_nil) (vss_cons (vs_if (vt_tru (ve_callB (call_isiS T.cf) isiD_ok rfl T.n_isinstance (by decide +kernel) (va_cons (ve_var (pv 1)) (va_cons (ve_clsE rfl T.m_BadText) va_nil)))) (vss_one (vs_expr (ve_append (ve_var (pv 4)) (va_cons (ve_tup (va_cons ve_str (va_cons (ve_xf T.x_line (ve_var (pv 1))) (va_cons (ve_xf T.x_word (ve_var (pv 1))) va_nil)))) va_nil)))) vss_nil) (vss_cons (vs_if (vt_tru (ve_callB (call_isiS T.cf) isiD_ok rfl T.n_isinstance (by decide +kernel) (va_cons (ve_var (pv 1)) (va_cons (ve_clsE rfl T.m_BadWord) va_nil)))) (vss_one (vs_expr (ve_append (ve_var (pv 4)) (va_cons (ve_tup (va_cons ve_str (va_cons (ve_xf T.x_word (ve_var (pv 1))) va_nil))) va_nil)))) vss_nil) (vss_cons (vs_if (vt_tru (ve_callB (call_isiS T.cf) isiD_ok rfl T.n_isinstance (by decide +kernel) (va_cons (ve_var (pv 1)) (va_cons (ve_clsE rfl T.m_TooMany) va_nil)))) (vss_one (vs_expr (ve_append (ve_var (pv 4)) (va_cons (ve_tup (va_cons ve_str (va_cons (ve_xf T.x_what (ve_var (pv 1))) (va_cons (ve_xf T.x_most (ve_var (pv 1))) va_nil)))) va_nil)))) vss_nil) (vss_one (vs_ret (ve_if (vt_w (vw_and (vt_cmp (op_eqD hr.units) eqD_ok eqD_bl (ve_callB call_len lenD_ok rfl T.n_len (by decide +kernel) (va_cons (ve_var (pv 4)) va_nil)) ve_int) (vw_and1 (vt_tru (ve_isVE T.cf T.ve (ve_var (pv 1)) rfl T.n_isinstance (by decide +kernel) rfl T.n_ValueError (by decide +kernel)))))) (ve_ix (ve_var (pv 4)) ve_int) (ve_tup (va_cons ve_str (va_cons (ve_callB call_len lenD_ok rfl T.n_len (by decide +kernel) (va_cons (ve_var (pv 4)) va_nil)) va_nil)))))))))))))))))))))
theorem sc__law_refused : FnScope ["pen", "guard", "text", "heard", "bad", "few", "odd"] ["pen", "guard", "text"] (defScope st__law_refused) := ⟨rfl, rfl, rfl, by decide +kernel, rfl, by decide +kernel, by decide +kernel⟩
theorem fo__law_refused (T : Txt P w K mg base cm) {f c Pt : Addr} {fd : FuncData} (Fu : FunC K "_law_refused" "_law_refused" st__law_refused f fd c) (LT : LamT base mg cm "_law_refused.<locals>.<lambda>" c Pt) : FnG P w K mg base 8 f fd ["pen", "guard", "text"] (spV K cm 3 F__law_refused) := by
  obtain ⟨ga__law_heard, fd__law_heard, fu__law_heard, gm__law_heard⟩ := T.d__law_heard
  exact fn_vsL Fu sc__law_refused fun A outer s H E hg hr =>
    (vss_cons (vs_set (i := 6) sc__law_refused.nd rfl (Or.inr rfl) (ve_app (ps := ["pen", "some"]) (fv__law_pick T) (hr.mono (by decide : 2 ≤ 7)) (takes_of rfl rfl rfl rfl) rfl (va_cons (ve_var (pv 0)) (va_cons (ve_imm (vf_lst (va_cons ve_str (va_cons ve_str (va_cons ve_str (va_cons ve_str (va_cons (ve_op op_mulA mulA_ok ve_str ve_int) (va_cons ve_non (va_cons ve_int (va_cons (ve_imm (vf_lst (va_cons ve_str (va_cons ve_str va_nil)))) (va_cons ve_str va_nil))))))))))) va_nil)))) (vss_cons (vs_set (i := 4) sc__law_refused.nd rfl (Or.inr rfl) (ve_app (ps := ["pen", "some"]) (fv__law_pick T) (hr.mono (by decide : 2 ≤ 7)) (takes_of rfl rfl rfl rfl) rfl (va_cons (ve_var (pv 0)) (va_cons (ve_imm (vf_lst (va_cons ve_non (va_cons ve_int (va_cons ve_str (va_cons ve_str (va_cons (ve_imm (vf_lst (va_cons ve_str va_nil))) (va_cons (ve_tup (va_cons ve_str va_nil)) (va_cons ve_str va_nil))))))))) va_nil)))) (vss_cons (vs_set (i := 5) sc__law_refused.nd rfl (Or.inr rfl) (ve_app (ps := ["pen", "some"]) (fv__law_pick T) (hr.mono (by decide : 2 ≤ 7)) (takes_of rfl rfl rfl rfl) rfl (va_cons (ve_var (pv 0)) (va_cons (ve_imm (vf_lst (va_cons (ve_imm (vf_lst (va_cons (ve_callB call_len lenD_ok rfl T.n_len (by decide +kernel) (va_cons (ve_var (pv 2)) va_nil)) va_nil))) (va_cons (ve_imm (vf_lst (va_cons (ve_neg ve_int) va_nil))) (va_cons (ve_imm (vf_lst (va_cons ve_int (va_cons ve_int va_nil)))) (va_cons (ve_imm (vf_lst (va_cons ve_int (va_cons ve_int va_nil)))) (va_cons (ve_imm (vf_lst (va_cons ve_bl va_nil))) (va_cons ve_non (va_cons ve_str (va_cons ve_int (va_cons (ve_imm (vf_lst (va_cons ve_non va_nil))) (va_cons (ve_imm (vf_lst (va_cons ve_int (va_cons ve_str va_nil)))) va_nil)))))))))))) va_nil)))) (vss_cons (vs_set (i := 3) sc__law_refused.nd rfl (Or.inl rfl) (ve_imm (vf_lst (va_cons (ve_lam (k := 4) (st := st__law_heard) (Ng := N__law_heard) (a := "ask") (dfl := none) (fe := (sApp 2 F_rest_by (aCons (sVar 6) (aCons (sVar 4) aNil)))) (bodyS := bodyH 5 s__law_heard) (HF := H__law_heard) rfl gm__law_heard fu__law_heard (bd__law_heard fu__law_heard) sc__law_heard rfl (Or.inl rfl) (fun f c' σ cdv s H hr1 act => bodyH_ok (ok__law_heard T (hr1.mono (by decide)) act)) (fun f c' q σ ρ S => bodyH_eq A__law_heard f c' q σ ρ S) LT.tab rfl LT.mem LT.uniq (hr.mono (by decide : 6 ≤ 7)) (lamSD_by (by rfl)) ⟨rfl, rfl⟩ (fun _ _ _ _ _ _ => rfl) (fun A outer s H E f c' hr2 => (ve_app (ps := ["guard", "bits"]) (fv_rest_by T) (hr2.mono (by decide : 4 ≤ 4)) (takes_of rfl rfl rfl rfl) rfl (va_cons (ve_var (pv 6)) (va_cons (ve_var (pv 4)) va_nil))))) (va_cons (ve_lam (k := 5) (st := st__law_heard) (Ng := N__law_heard) (a := "ask") (dfl := (some ("a1", 0))) (fe := (sApp 2 F_with_guard (aCons (sVar 6) (aCons (sVar 2) aNil)))) (bodyS := bodyH 5 s__law_heard) (HF := H__law_heard) rfl gm__law_heard fu__law_heard (bd__law_heard fu__law_heard) sc__law_heard rfl (Or.inl rfl) (fun f c' σ cdv s H hr1 act => bodyH_ok (ok__law_heard T (hr1.mono (by decide)) act)) (fun f c' q σ ρ S => bodyH_eq A__law_heard f c' q σ ρ S) LT.tab rfl LT.mem LT.uniq (hr.mono (by decide : 7 ≤ 7)) (lamSD_by (by rfl)) ⟨rfl, _, _, rfl⟩ (fun _ _ _ _ _ _ _ => ⟨_, rfl, fun _ => rfl⟩) (fun A outer s H E f c' hr2 => (ve_app (ps := ["guard", "bits"]) (fv_with_guard T) (hr2.mono (by decide : 5 ≤ 5)) (takes_of rfl rfl rfl rfl) rfl (va_cons (ve_var (pv 6)) (va_cons (ve_var (pv 2)) va_nil))))) va_nil))))) (vss_cons (vs_set (i := 3) sc__law_refused.nd rfl (Or.inl rfl) (ve_op op_adds addD_ok (ve_var (pv 3)) (ve_imm (vf_lst (va_cons (ve_lam (k := 4) (st := st__law_heard) (Ng := N__law_heard) (a := "ask") (dfl := none) (fe := (sApp 2 F_rest_by (aCons (sVar 1) (aCons (sVar 4) aNil)))) (bodyS := bodyH 5 s__law_heard) (HF := H__law_heard) rfl gm__law_heard fu__law_heard (bd__law_heard fu__law_heard) sc__law_heard rfl (Or.inl rfl) (fun f c' σ cdv s H hr1 act => bodyH_ok (ok__law_heard T (hr1.mono (by decide)) act)) (fun f c' q σ ρ S => bodyH_eq A__law_heard f c' q σ ρ S) LT.tab rfl LT.mem LT.uniq (hr.mono (by decide : 6 ≤ 7)) (lamSD_by (by rfl)) ⟨rfl, rfl⟩ (fun _ _ _ _ _ _ => rfl) (fun A outer s H E f c' hr2 => (ve_app (ps := ["guard", "bits"]) (fv_rest_by T) (hr2.mono (by decide : 4 ≤ 4)) (takes_of rfl rfl rfl rfl) rfl (va_cons (ve_var (pv 1)) (va_cons (ve_var (pv 4)) va_nil))))) (va_cons (ve_lam (k := 5) (st := st__law_heard) (Ng := N__law_heard) (a := "ask") (dfl := (some ("a1", 0))) (fe := (sApp 2 F_with_guard (aCons (sVar 1) (aCons (sVar 4) aNil)))) (bodyS := bodyH 5 s__law_heard) (HF := H__law_heard) rfl gm__law_heard fu__law_heard (bd__law_heard fu__law_heard) sc__law_heard rfl (Or.inl rfl) (fun f c' σ cdv s H hr1 act => bodyH_ok (ok__law_heard T (hr1.mono (by decide)) act)) (fun f c' q σ ρ S => bodyH_eq A__law_heard f c' q σ ρ S) LT.tab rfl LT.mem LT.uniq (hr.mono (by decide : 7 ≤ 7)) (lamSD_by (by rfl)) ⟨rfl, _, _, rfl⟩ (fun _ _ _ _ _ _ _ => ⟨_, rfl, fun _ => rfl⟩) (fun A outer s H E f c' hr2 => (ve_app (ps := ["guard", "bits"]) (fv_with_guard T) (hr2.mono (by decide : 5 ≤ 5)) (takes_of rfl rfl rfl rfl) rfl (va_cons (ve_var (pv 1)) (va_cons (ve_var (pv 4)) va_nil))))) va_nil)))))) (vss_cons (vs_set (i := 3) sc__law_refused.nd rfl (Or.inl rfl) (ve_op op_adds addD_ok (ve_var (pv 3)) (ve_imm (vf_lst (va_cons (ve_lam (k := 4) (st := st__law_heard) (Ng := N__law_heard) (a := "ask") (dfl := none) (fe := (sApp 2 F_changed (aCons (sVar 4) (aCons (sVar 5) aNil)))) (bodyS := bodyH 5 s__law_heard) (HF := H__law_heard) rfl gm__law_heard fu__law_heard (bd__law_heard fu__law_heard) sc__law_heard rfl (Or.inl rfl) (fun f c' σ cdv s H hr1 act => bodyH_ok (ok__law_heard T (hr1.mono (by decide)) act)) (fun f c' q σ ρ S => bodyH_eq A__law_heard f c' q σ ρ S) LT.tab rfl LT.mem LT.uniq (hr.mono (by decide : 6 ≤ 7)) (lamSD_by (by rfl)) ⟨rfl, rfl⟩ (fun _ _ _ _ _ _ => rfl) (fun A outer s H E f c' hr2 => (ve_app (ps := ["bits", "places"]) (fv_changed T) (hr2.mono (by decide : 4 ≤ 4)) (takes_of rfl rfl rfl rfl) rfl (va_cons (ve_var (pv 4)) (va_cons (ve_var (pv 5)) va_nil))))) (va_cons (ve_lam (k := 4) (st := st__law_heard) (Ng := N__law_heard) (a := "ask") (dfl := (some ("a1", 0))) (fe := (sApp 2 F_changed (aCons (sVar 2) (aCons (sVar 5) aNil)))) (bodyS := bodyH 5 s__law_heard) (HF := H__law_heard) rfl gm__law_heard fu__law_heard (bd__law_heard fu__law_heard) sc__law_heard rfl (Or.inl rfl) (fun f c' σ cdv s H hr1 act => bodyH_ok (ok__law_heard T (hr1.mono (by decide)) act)) (fun f c' q σ ρ S => bodyH_eq A__law_heard f c' q σ ρ S) LT.tab rfl LT.mem LT.uniq (hr.mono (by decide : 6 ≤ 7)) (lamSD_by (by rfl)) ⟨rfl, _, _, rfl⟩ (fun _ _ _ _ _ _ _ => ⟨_, rfl, fun _ => rfl⟩) (fun A outer s H E f c' hr2 => (ve_app (ps := ["bits", "places"]) (fv_changed T) (hr2.mono (by decide : 4 ≤ 4)) (takes_of rfl rfl rfl rfl) rfl (va_cons (ve_var (pv 2)) (va_cons (ve_var (pv 5)) va_nil))))) va_nil)))))) (vss_cons (vs_if (vt_cmp (op_neD hr.units) neD_ok neD_bl (ve_var (pv 3)) (ve_op op_adds addD_ok (ve_op op_adds addD_ok (ve_op op_mulA mulA_ok (ve_imm (vf_lst (va_cons (ve_tup (va_cons ve_str (va_cons ve_str va_nil))) va_nil))) ve_int) (ve_op op_mulA mulA_ok (ve_imm (vf_lst (va_cons (ve_tup (va_cons ve_str (va_cons ve_str va_nil))) va_nil))) ve_int)) (ve_imm (vf_lst (va_cons (ve_tup (va_cons ve_str (va_cons ve_str va_nil))) va_nil))))) (vss_one (vs_ret ve_bl)) vss_nil) (vss_one (vs_ret (ve_cmp (op_eqD hr.units) eqD_ok (ve_imm (vf_lst (va_cons (ve_app (ps := ["bits", "places"]) (fv_changed T) (hr.mono (by decide : 4 ≤ 7)) (takes_of rfl rfl rfl rfl) rfl (va_cons (ve_var (pv 2)) (va_cons (ve_imm (vf_lst va_nil)) va_nil))) (va_cons (ve_app (ps := ["bits", "places"]) (fv_changed T) (hr.mono (by decide : 4 ≤ 7)) (takes_of rfl rfl rfl rfl) rfl (va_cons ve_str (va_cons (ve_tup va_nil) va_nil))) (va_cons (ve_app (ps := ["guard", "bits"]) (fv_rest_by T) (hr.mono (by decide : 4 ≤ 7)) (takes_of rfl rfl rfl rfl) rfl (va_cons (ve_var (pv 1)) (va_cons ve_str va_nil))) va_nil))))) (ve_imm (vf_lst (va_cons (ve_var (pv 2)) (va_cons ve_str (va_cons (ve_op op_mulA mulA_ok ve_str (ve_op op_sub subD_ok (ve_callB call_len lenD_ok rfl T.n_len (by decide +kernel) (va_cons (ve_var (pv 1)) va_nil)) ve_int)) va_nil)))))))))))))))
theorem fv__law_refused (T : Txt P w K mg base cm) : FVG P w K mg base cm 8 "_law_refused" ["pen", "guard", "text"] F__law_refused := by
  obtain ⟨f, fd, c, Pt, Fu, hm, LT⟩ := T.d__law_refused
  exact ⟨f, fd, fo__law_refused T Fu LT, hm, Fu.kp, Fu.fn.binds (ps := ["pen", "guard", "text"]) fun _ _ _ _ _ _ us hl => match us, hl with | [_, _, _], _ => rfl⟩
theorem sc__law_right : FnScope ["pen", "guard", "degree", "bits", "text", "at", "places", "zeros", "other", "near", "k", "laid", "wide", "is_laid", "some", "seen"] ["pen"] (defScope st__law_right) := ⟨rfl, rfl, rfl, by decide +kernel, rfl, by decide +kernel, by decide +kernel⟩
theorem fo__law_right (T : Txt P w K mg base cm) {f : Addr} {fd : FuncData} (Fu : Fun K "_law_right" "_law_right" st__law_right f fd) : FnG P w K mg base 9 f fd ["pen"] (spV K cm 1 F__law_right) :=
  fn_vsG Fu sc__law_right fun cdv A outer s H E hg hr =>
    (vss_cons (vs_set (i := 1) sc__law_right.nd rfl (Or.inr rfl) (ve_app (ps := ["pen"]) (fv__law_guard T) (hr.mono (by decide : 3 ≤ 8)) (takes_of rfl rfl rfl rfl) rfl (va_cons (ve_var (pv 0)) va_nil))) (vss_cons (vs_set (i := 2) sc__law_right.nd rfl (Or.inl rfl) (ve_op op_sub subD_ok (ve_callB call_len lenD_ok rfl T.n_len (by decide +kernel) (va_cons (ve_var (pv 1)) va_nil)) ve_int)) (vss_cons (vs_set (i := 3) sc__law_right.nd rfl (Or.inl rfl) (ve_app (ps := ["pen", "many"]) (fv__law_bits T) (hr.mono (by decide : 3 ≤ 8)) (takes_of rfl rfl rfl rfl) rfl (va_cons (ve_var (pv 0)) (va_cons (ve_app (ps := ["pen", "some"]) (fv__law_pick T) (hr.mono (by decide : 2 ≤ 8)) (takes_of rfl rfl rfl rfl) rfl (va_cons (ve_var (pv 0)) (va_cons (ve_imm (vf_lst (va_cons ve_int (va_cons ve_int (va_cons (ve_var (pv 2)) (va_cons (ve_op op_adds addD_ok (ve_var (pv 2)) ve_int) (va_cons ve_int (va_cons (ve_app (ps := ["pen", "many"]) (fv__law_draw T) (hr.mono (by decide : 1 ≤ 8)) (takes_of rfl rfl rfl rfl) rfl (va_cons (ve_var (pv 0)) (va_cons ve_int va_nil))) va_nil)))))))) va_nil))) va_nil)))) (vss_cons (vs_if (vt_w (vw_or (vt_cmp (op_neD hr.units) neD_ok neD_bl (ve_app (ps := ["guard", "bits"]) (fv_rest_by T) (hr.mono (by decide : 4 ≤ 8)) (takes_of rfl rfl rfl rfl) rfl (va_cons (ve_var (pv 1)) (va_cons (ve_var (pv 3)) va_nil))) (ve_app (ps := ["bits", "guard"]) (fv__law_rest T) (hr.mono (by decide : 1 ≤ 8)) (takes_of rfl rfl rfl rfl) rfl (va_cons (ve_var (pv 3)) (va_cons (ve_var (pv 1)) va_nil)))) (vw_or (vt_cmp (op_neD hr.units) neD_ok neD_bl (ve_appK0 (ps := ["guard", "bits"]) (fk_rest_by_bits_guard T) (hr.mono (by decide : 4 ≤ 8)) (takes_of rfl rfl rfl rfl) rfl (vk_cons (ve_var (pv 3)) (vk_cons (ve_var (pv 1)) vk_nil))) (ve_app (ps := ["bits", "guard"]) (fv__law_rest T) (hr.mono (by decide : 1 ≤ 8)) (takes_of rfl rfl rfl rfl) rfl (va_cons (ve_var (pv 3)) (va_cons (ve_var (pv 1)) va_nil)))) (vw_or1 (vt_cmp (op_neD hr.units) neD_ok neD_bl (ve_appK0 (ps := ["guard", "bits"]) (fk_with_guard_bits_guard T) (hr.mono (by decide : 5 ≤ 8)) (takes_of rfl rfl rfl rfl) rfl (vk_cons (ve_var (pv 3)) (vk_cons (ve_var (pv 1)) vk_nil))) (ve_app (ps := ["bits", "guard"]) (fv__law_with_guard T) (hr.mono (by decide : 2 ≤ 8)) (takes_of rfl rfl rfl rfl) rfl (va_cons (ve_var (pv 3)) (va_cons (ve_var (pv 1)) va_nil)))))))) (vss_one (vs_ret ve_bl)) vss_nil) (vss_cons (vs_set (i := 4) sc__law_right.nd rfl (Or.inr rfl) (ve_app (ps := ["guard", "bits"]) (fv_with_guard T) (hr.mono (by decide : 5 ≤ 8)) (takes_of rfl rfl rfl rfl) rfl (va_cons (ve_var (pv 1)) (va_cons (ve_op op_adds addD_ok (ve_var (pv 3)) ve_str) va_nil)))) (vss_cons (vs_if (vt_w (vw_or (vt_cmp (op_neD hr.units) neD_ok neD_bl (ve_app (ps := ["guard", "bits"]) (fv_rest_by T) (hr.mono (by decide : 4 ≤ 8)) (takes_of rfl rfl rfl rfl) rfl (va_cons (ve_var (pv 1)) (va_cons (ve_var (pv 4)) va_nil))) (ve_op op_mulA mulA_ok ve_str (ve_var (pv 2)))) (vw_or1 (vt_cmp (op_neD hr.units) neD_ok neD_bl (ve_callB call_len lenD_ok rfl T.n_len (by decide +kernel) (va_cons (ve_var (pv 4)) va_nil)) (ve_op op_adds addD_ok (ve_op op_adds addD_ok (ve_callB call_len lenD_ok rfl T.n_len (by decide +kernel) (va_cons (ve_var (pv 3)) va_nil)) ve_int) (ve_var (pv 2))))))) (vss_one (vs_ret ve_bl)) vss_nil) (vss_cons (vs_set (i := 6) sc__law_right.nd rfl (Or.inl rfl) (ve_imm (vf_callB cr_sortedI sortedF_ok rfl T.n_sorted (by decide +kernel) (va_cons (ve_imm (vf_lc (own := [("at", 5)]) rfl sc__law_right.nd (vi_range1 rfl T.n_range (va_cons (ve_callB call_len lenD_ok rfl T.n_len (by decide +kernel) (va_cons (ve_var (pv 4)) va_nil)) va_nil)) (by rfl) (fun s H C cl fp => (vgo_name (by decide) (pg_name (i := 5) sc__law_right.nd rfl (Or.inl rfl)))) (fun s H C cl fp => (vts_one (vt_cmp (op_eqD hr.units) eqD_ok eqD_bl (ve_app (ps := ["pen", "many"]) (fv__law_draw T) (hr.mono (by decide : 1 ≤ 8)) (LamX.takes0) rfl (va_cons (ve_var (pv 0)) (va_cons ve_int va_nil))) ve_int))) (fun s H C cl fp => (ve_var (pv 5))))) va_nil)))) (vss_cons (vs_set (i := 7) sc__law_right.nd rfl (Or.inl rfl) (ve_op op_mulA mulA_ok ve_str (ve_callB call_len lenD_ok rfl T.n_len (by decide +kernel) (va_cons (ve_var (pv 4)) va_nil)))) (vss_cons (vs_set (i := 8) sc__law_right.nd rfl (Or.inl rfl) (ve_app (ps := ["bits", "places"]) (fv_changed T) (hr.mono (by decide : 4 ≤ 8)) (takes_of rfl rfl rfl rfl) rfl (va_cons (ve_var (pv 4)) (va_cons (ve_callT call_tuple_of tupleD_ok rfl T.n_tuple (by decide +kernel) (va_cons (ve_var (pv 6)) va_nil)) va_nil)))) (vss_cons (vs_if (vt_w (vw_or (vt_cmp (op_neD hr.units) neD_ok neD_bl (ve_var (pv 8)) (ve_app (ps := ["bits", "places"]) (fv__law_change T) (hr.mono (by decide : 1 ≤ 8)) (takes_of rfl rfl rfl rfl) rfl (va_cons (ve_var (pv 4)) (va_cons (ve_var (pv 6)) va_nil)))) (vw_or1 (vt_cmp (op_neD hr.units) neD_ok neD_bl (ve_app (ps := ["guard", "bits"]) (fv_rest_by T) (hr.mono (by decide : 4 ≤ 8)) (takes_of rfl rfl rfl rfl) rfl (va_cons (ve_var (pv 1)) (va_cons (ve_var (pv 8)) va_nil))) (ve_app (ps := ["guard", "bits"]) (fv_rest_by T) (hr.mono (by decide : 4 ≤ 8)) (takes_of rfl rfl rfl rfl) rfl (va_cons (ve_var (pv 1)) (va_cons (ve_app (ps := ["bits", "places"]) (fv_changed T) (hr.mono (by decide : 4 ≤ 8)) (takes_of rfl rfl rfl rfl) rfl (va_cons (ve_var (pv 7)) (va_cons (ve_var (pv 6)) va_nil))) va_nil))))))) (vss_one (vs_ret ve_bl)) vss_nil) (vss_cons (vs_if (vt_cmp (op_neD hr.units) neD_ok neD_bl (ve_app (ps := ["guard", "bits"]) (fv_rest_by T) (hr.mono (by decide : 4 ≤ 8)) (takes_of rfl rfl rfl rfl) rfl (va_cons (ve_var (pv 1)) (va_cons (ve_app (ps := ["bits", "places"]) (fv__law_change T) (hr.mono (by decide : 1 ≤ 8)) (takes_of rfl rfl rfl rfl) rfl (va_cons (ve_op op_adds addD_ok (ve_var (pv 3)) ve_str) (va_cons (ve_imm (vf_lst (va_cons ve_int va_nil))) va_nil))) va_nil))) (ve_app (ps := ["one", "other"]) (fv__law_sum T) (hr.mono (by decide : 1 ≤ 8)) (takes_of rfl rfl rfl rfl) rfl (va_cons (ve_app (ps := ["guard", "bits"]) (fv_rest_by T) (hr.mono (by decide : 4 ≤ 8)) (takes_of rfl rfl rfl rfl) rfl (va_cons (ve_var (pv 1)) (va_cons (ve_op op_adds addD_ok (ve_var (pv 3)) ve_str) va_nil))) (va_cons (ve_app (ps := ["guard", "bits"]) (fv_rest_by T) (hr.mono (by decide : 4 ≤ 8)) (takes_of rfl rfl rfl rfl) rfl (va_cons (ve_var (pv 1)) (va_cons (ve_op op_adds addD_ok ve_str (ve_op op_mulA mulA_ok ve_str (ve_callB call_len lenD_ok rfl T.n_len (by decide +kernel) (va_cons (ve_var (pv 3)) va_nil)))) va_nil))) va_nil)))) (vss_one (vs_ret ve_bl)) vss_nil) (vss_cons (vs_set (i := 9) sc__law_right.nd rfl (Or.inl rfl) (ve_app (ps := ["pen", "many", "within"]) (fv__law_places T) (hr.mono (by decide : 2 ≤ 8)) (takes_of rfl rfl rfl rfl) rfl (va_cons (ve_var (pv 0)) (va_cons (ve_callB call_len lenD_ok rfl T.n_len (by decide +kernel) (va_cons (ve_var (pv 4)) va_nil)) (va_cons (ve_var (pv 2)) va_nil))))) (vss_cons (vs_if (vt_w (vw_or (vt_cmp (op_neD hr.units) neD_ok neD_bl (ve_appK0 (ps := ["bits", "places"]) (fk_changed_places_bits T) (hr.mono (by decide : 4 ≤ 8)) (takes_of rfl rfl rfl rfl) rfl (vk_cons (ve_var (pv 9)) (vk_cons (ve_var (pv 4)) vk_nil))) (ve_app (ps := ["bits", "places"]) (fv__law_change T) (hr.mono (by decide : 1 ≤ 8)) (takes_of rfl rfl rfl rfl) rfl (va_cons (ve_var (pv 4)) (va_cons (ve_var (pv 9)) va_nil)))) (vw_or1 (vt_cmp op_ninA ninA_ok ninA_bl ve_str (ve_app (ps := ["guard", "bits"]) (fv_rest_by T) (hr.mono (by decide : 4 ≤ 8)) (takes_of rfl rfl rfl rfl) rfl (va_cons (ve_var (pv 1)) (va_cons (ve_app (ps := ["bits", "places"]) (fv_changed T) (hr.mono (by decide : 4 ≤ 8)) (takes_of rfl rfl rfl rfl) rfl (va_cons (ve_var (pv 4)) (va_cons (ve_var (pv 9)) va_nil))) va_nil))))))) (vss_one (vs_ret ve_bl)) vss_nil) (vss_cons (vs_set (i := 5) sc__law_right.nd rfl (Or.inr rfl) (ve_app (ps := ["pen", "many"]) (fv__law_draw T) (hr.mono (by decide : 1 ≤ 8)) (takes_of rfl rfl rfl rfl) rfl (va_cons (ve_var (pv 0)) (va_cons (ve_op op_sub subD_ok (ve_callB call_len lenD_ok rfl T.n_len (by decide +kernel) (va_cons (ve_var (pv 4)) va_nil)) (ve_var (pv 2))) va_nil)))) (vss_cons (vs_setLc (i := 11) (own := [("k", 10)]) rfl sc__law_right.nd rfl rfl rfl (vi_range1 rfl T.n_range (va_cons (ve_op op_adds addD_ok (ve_var (pv 2)) ve_int) va_nil)) (by rfl) (fun s H C cl fp => (vgo_name (by decide) (pg_name (i := 10) sc__law_right.nd rfl (Or.inl rfl)))) (fun s H C cl fp => (vts_one (vt_cmp (op_eqD hr.units) eqD_ok eqD_bl (ve_ix (ve_var (pv 1)) (ve_var (pv 10))) ve_str))) (fun s H C cl fp => (ve_op op_adds addD_ok (ve_var (pv 5)) (ve_var (pv 10))))) (vss_cons (vs_set (i := 12) sc__law_right.nd rfl (Or.inr rfl) (ve_app (ps := ["pen", "many", "within"]) (fv__law_places T) (hr.mono (by decide : 2 ≤ 8)) (takes_of rfl rfl rfl rfl) rfl (va_cons (ve_var (pv 0)) (va_cons (ve_callB call_len lenD_ok rfl T.n_len (by decide +kernel) (va_cons (ve_var (pv 4)) va_nil)) (va_cons (ve_op op_adds addD_ok (ve_var (pv 2)) ve_int) va_nil))))) (vss_cons (vs_set (i := 13) sc__law_right.nd rfl (Or.inl rfl) (ve_cmp (op_eqD hr.units) eqD_ok (ve_var (pv 12)) (ve_imm (vf_lc (own := [("k", 10)]) rfl sc__law_right.nd (vi_range1 rfl T.n_range (va_cons (ve_op op_adds addD_ok (ve_var (pv 2)) ve_int) va_nil)) (by rfl) (fun s H C cl fp => (vgo_name (by decide) (pg_name (i := 10) sc__law_right.nd rfl (Or.inl rfl)))) (fun s H C cl fp => (vts_one (vt_cmp (op_eqD hr.units) eqD_ok eqD_bl (ve_ix (ve_var (pv 1)) (ve_var (pv 10))) ve_str))) (fun s H C cl fp => (ve_op op_adds addD_ok (ve_ix (ve_var (pv 12)) ve_int) (ve_var (pv 10)))))))) (vss_cons (vs_setLc (i := 15) (own := [("some", 14)]) rfl sc__law_right.nd rfl rfl rfl (vi_over (ve_tup (va_cons (ve_var (pv 11)) (va_cons (ve_var (pv 12)) va_nil)))) (by rfl) (fun s H C cl fp => (vgo_name (by decide) (pg_name (i := 14) sc__law_right.nd rfl (Or.inl rfl)))) (fun s H C cl fp => vts_nil) (fun s H C cl fp => (ve_cmp op_inA inA_ok ve_str (ve_app (ps := ["guard", "bits"]) (fv_rest_by T) (hr.mono (by decide : 4 ≤ 8)) (LamX.takes0) rfl (va_cons (ve_var (pv 1)) (va_cons (ve_app (ps := ["bits", "places"]) (fv_changed T) (hr.mono (by decide : 4 ≤ 8)) (LamX.takes0) rfl (va_cons (ve_var (pv 4)) (va_cons (ve_var (pv 14)) va_nil))) va_nil)))))) (vss_one (vs_ret (ve_and (ve_cmp (op_eqD hr.units) eqD_ok (ve_var (pv 15)) (ve_imm (vf_lst (va_cons ve_bl (va_cons (ve_not (ve_var (pv 13))) va_nil))))) (ve_one (ve_appG (ps := ["pen", "guard", "text"]) (fv__law_refused T) (deeper_guards hg) (hr.mono (by decide : 8 ≤ 8)) (takes_of rfl rfl rfl rfl) rfl (va_cons (ve_var (pv 0)) (va_cons (ve_var (pv 1)) (va_cons (ve_var (pv 4)) va_nil))))))))))))))))))))))))))
theorem fv__law_right (T : Txt P w K mg base cm) : FVG P w K mg base cm 9 "_law_right" ["pen"] F__law_right := by
  obtain ⟨f, fd, Fu, hm⟩ := T.d__law_right
  exact ⟨f, fd, fo__law_right T Fu, hm, Fu.kp, Fu.binds (ps := ["pen"]) fun _ _ _ _ _ _ us hl => match us, hl with | [_], _ => rfl⟩
end
end K05
end
section
open PySem PySem.W PyProof.Rows
set_option Elab.async false
set_option maxRecDepth 100000 in
set_option maxHeartbeats 8000000 in
open_top hd for PySem.Challenge.rw_everrang_k05_rests_and_changes
end
section
set_option Elab.async false
set_option pp.maxSteps 100
set_option linter.all false
set_option maxRecDepth 100000
set_option maxHeartbeats 8000000
/-! printed by gen.py: the law -/
namespace K05
open PySem PySem.Spec PyProof.Rows L2 VS
noncomputable def b_law : SS := (sSeq (sAsg (sApp 1 F__law_pen (aCons (sVar 0) aNil)) (gVar 1)) (sSeq (sFor (iRange1 (aCons (sC (.int 4)) aNil)) (gVar 2) (sIte (tNotF (tTru (sApp 1 F__law_right (aCons (sVar 1) aNil)))) (sRet (sC (.bl false))) sSkip)) (sRet (sC (.bl true)))))
abbrev N_law : List Str := ["script", "pen", "turn"]
theorem sc_law : FnScope ["script", "pen", "turn"] ["script"] (defScope st_law) := ⟨rfl, rfl, rfl, by decide +kernel, rfl, by decide +kernel, by decide +kernel⟩
section
variable {P : Program} {w : World} {K : PySem.W.Frag} {mg : Str → Option Value} {base : Heap} {cm : CM}
theorem vs_law (T : Txt P w K mg base cm) {c f : Addr} {s : Shared} {H : Hp} {E : XK} (hr : Room 9 (callerA.deeper (envOfC "law" (defScope st_law) s.heap.objs.size f (.ref c)))) :
    VSs (cxOf (L2.CX P w) P w K mg base N_law "law" (defScope st_law) f (.ref c) callerA [] s H E) cm (WO E) (defBody st_law) b_law := by
  exact (vss_cons (vs_set (i := 1) sc_law.nd rfl (Or.inl rfl) (ve_app (ps := ["script"]) (fv__law_pen T) (hr.mono (by decide : 1 ≤ 9)) (takes_of rfl rfl rfl rfl) rfl (va_cons (ve_var (pv 0)) va_nil))) (vss_cons (vs_for (passes_of rfl) rfl (vi_range1 rfl T.n_range (va_cons ve_int va_nil)) (vg_name (pg_name (i := 2) sc_law.nd rfl (Or.inl rfl))) (vss_one (vs_if (vt_not (vt_tru (ve_appG (ps := ["pen"]) (fv__law_right T) rfl (hr.mono (by decide : 9 ≤ 9)) (takes_of rfl rfl rfl rfl) rfl (va_cons (ve_var (pv 1)) va_nil)))) (vss_one (vs_ret ve_bl)) vss_nil))) (vss_one (vs_ret ve_bl))))
end
end K05
end
section
set_option Elab.async false
set_option linter.all false
set_option maxRecDepth 100000
set_option maxHeartbeats 4000000
/-! rests of bits by a guard: plain -/
namespace K05
open PySem PySem.Spec PyProof.Rows L2 VS
def bn (b : Bool) : Nat := if b then 1 else 0
theorem tb0 (r : Nat) (b : Bool) : (2 * r + bn b).testBit 0 = b := by
  rw [Nat.testBit_zero]
  cases b <;> simp [bn] <;> omega
theorem tbs (r : Nat) (b : Bool) (i : Nat) : (2 * r + bn b).testBit (i + 1) = r.testBit i := by
  rw [Nat.testBit_succ]
  congr 1
  cases b <;> simp [bn] <;> omega
theorem xor_two (r s : Nat) (a b : Bool) : (2 * r + bn a) ^^^ (2 * s + bn b) = 2 * (r ^^^ s) + bn (a ^^ b) := by
  apply Nat.eq_of_testBit_eq
  intro i
  rw [Nat.testBit_xor]
  cases i with
  | zero => rw [tb0, tb0, tb0]
  | succ i => rw [tbs, tbs, tbs, Nat.testBit_xor]
/-- one bit more -/
def stp (g d r : Nat) (b : Bool) : Nat := if (2 * r + bn b).testBit d then (2 * r + bn b) ^^^ g else 2 * r + bn b
def rst (g d : Nat) (l : List Bool) (r : Nat) : Nat := l.foldl (stp g d) r
theorem rst_nil (g d r : Nat) : rst g d [] r = r := rfl
theorem rst_cons (g d r : Nat) (b : Bool) (l : List Bool) : rst g d (b :: l) r = rst g d l (stp g d r b) := rfl
theorem rst_app (g d r : Nat) (l m : List Bool) : rst g d (l ++ m) r = rst g d m (rst g d l r) := by simp [rst]
theorem stp_lin (g d r s : Nat) (a b : Bool) : stp g d (r ^^^ s) (a ^^ b) = stp g d r a ^^^ stp g d s b := by
  unfold stp
  rw [← xor_two, Nat.testBit_xor]
  generalize 2 * r + bn a = x
  generalize 2 * s + bn b = y
  cases x.testBit d <;> cases y.testBit d <;> simp
  · exact Nat.xor_assoc _ _ _
  · rw [Nat.xor_assoc, Nat.xor_comm y g, ← Nat.xor_assoc]
  · rw [Nat.xor_comm y g, Nat.xor_assoc x g, ← Nat.xor_assoc g g, Nat.xor_self, Nat.zero_xor]
theorem rst_lin (g d : Nat) : ∀ (l m : List Bool) (r s : Nat), l.length = m.length → rst g d (List.zipWith Bool.xor l m) (r ^^^ s) = rst g d l r ^^^ rst g d m s
  | [], [], r, s, _ => rfl
  | a :: l, b :: m, r, s, h => by
    rw [List.zipWith_cons_cons, rst_cons, rst_cons, rst_cons, ← rst_lin g d l m _ _ (by simpa using h), ← stp_lin]
  | [], _ :: _, _, _, h => by simp at h
  | _ :: _, [], _, _, h => by simp at h
theorem stp_zero (g d : Nat) : stp g d 0 false = 0 := by simp [stp, bn]
theorem rst_zeros (g d n : Nat) : rst g d (List.replicate n false) 0 = 0 := by
  induction n with
  | zero => rfl
  | succ n ih => rw [List.replicate_succ, rst_cons, stp_zero, ih]
theorem stp_low {g d r : Nat} {b : Bool} (h : 2 * r + bn b < 2 ^ d) : stp g d r b = 2 * r + bn b := by
  unfold stp
  rw [Nat.testBit_lt_two_pow h]
  simp
/-- so few bits are their own rest -/
theorem rst_few (g d : Nat) : ∀ (l : List Bool) (r : Nat), r * 2 ^ l.length + val l < 2 ^ d → rst g d l r = r * 2 ^ l.length + val l
  | [], r, _ => by simp [rst, val]
  | b :: l, r, h => by
    rw [val_cons, List.length_cons, Nat.pow_succ] at h
    have e : (2 * r + bn b) * 2 ^ l.length + val l = r * (2 ^ l.length * 2) + ((if b then 2 ^ l.length else 0) + val l) := by
      rw [Nat.add_mul]
      have : 2 * r * 2 ^ l.length = r * (2 ^ l.length * 2) := by rw [Nat.mul_comm 2 r, Nat.mul_assoc, Nat.mul_comm 2]
      rw [this]
      cases b <;> simp [bn] <;> omega
    have h2 : 2 * r + bn b < 2 ^ d := by
      have h3 : (2 * r + bn b) * 1 ≤ (2 * r + bn b) * 2 ^ l.length := Nat.mul_le_mul_left _ (Nat.pow_pos (by decide))
      omega
    rw [rst_cons, stp_low h2, rst_few g d l _ (by omega), e, val_cons, List.length_cons, Nat.pow_succ]
theorem val_lt (l : List Bool) : val l < 2 ^ l.length := by
  induction l with
  | nil => simp [val]
  | cons b l ih =>
    rw [val_cons, List.length_cons, Nat.pow_succ]
    generalize 2 ^ l.length = q at *
    cases b <;> simp <;> omega
theorem rst_own (g d : Nat) (l : List Bool) (h : l.length ≤ d) : rst g d l 0 = val l := by
  have h1 := val_lt l
  have h2 : 2 ^ l.length ≤ 2 ^ d := Nat.pow_le_pow_right (by decide) h
  rw [rst_few g d l 0 (by omega)]
  omega
/-- a guard's number -/
structure Gd (g d : Nat) : Prop where
  lo : 2 ^ d ≤ g
  hi : g < 2 ^ (d + 1)
  odd : g % 2 = 1
  one : 1 ≤ d
theorem Gd.top {g d : Nat} (G : Gd g d) : g.testBit d = true := by
  rw [Nat.testBit_eq_decide_div_mod_eq]
  have h1 := G.lo
  have h2 := G.hi
  rw [Nat.pow_succ] at h2
  have : g / 2 ^ d = 1 := by apply Nat.div_eq_of_lt_le <;> omega
  rw [this]
  rfl
theorem stp_lt {g d r : Nat} (G : Gd g d) (b : Bool) (h : r < 2 ^ d) : stp g d r b < 2 ^ d := by
  have ht : 2 * r + bn b < 2 ^ (d + 1) := by
    rw [Nat.pow_succ]
    have : bn b ≤ 1 := by cases b <;> simp [bn]
    omega
  unfold stp
  split
  · rename_i c
    apply Nat.lt_pow_two_of_testBit
    intro i hi
    rw [Nat.testBit_xor]
    by_cases e : i = d
    · subst e
      rw [c, G.top]
      rfl
    · have hp : 2 ^ (d + 1) ≤ 2 ^ i := Nat.pow_le_pow_right (by decide) (by omega)
      rw [Nat.testBit_lt_two_pow (by omega), Nat.testBit_lt_two_pow (Nat.lt_of_lt_of_le G.hi hp)]
      rfl
  · rename_i c
    apply Nat.lt_pow_two_of_testBit
    intro i hi
    by_cases e : i = d
    · subst e
      simpa using c
    · have hp : 2 ^ (d + 1) ≤ 2 ^ i := Nat.pow_le_pow_right (by decide) (by omega)
      exact Nat.testBit_lt_two_pow (by omega)
theorem rst_lt {g d : Nat} (G : Gd g d) : ∀ (l : List Bool) (r : Nat), r < 2 ^ d → rst g d l r < 2 ^ d
  | [], r, h => h
  | b :: l, r, h => rst_lt G l _ (stp_lt G b h)
/-- noughts behind lose nothing -/
theorem stp_keep {g d r : Nat} (G : Gd g d) (h : r ≠ 0) : stp g d r false ≠ 0 := by
  unfold stp
  simp only [bn, Bool.false_eq_true, if_false, Nat.add_zero]
  split
  · intro e
    have : 2 * r = g := by
      have := congrArg (· ^^^ g) e
      simpa [Nat.xor_assoc] using this
    have := G.odd
    omega
  · omega
theorem rst_keep {g d : Nat} (G : Gd g d) : ∀ (n r : Nat), r ≠ 0 → rst g d (List.replicate n false) r ≠ 0
  | 0, r, h => h
  | n + 1, r, h => by
    rw [List.replicate_succ, rst_cons]
    exact rst_keep G n _ (stp_keep G h)
/-- a change within the degree is seen -/
theorem seen_near {g d : Nat} (G : Gd g d) (a c : Nat) (m : List Bool) (h : m.length < d) : rst g d (List.replicate a false ++ true :: m ++ List.replicate c false) 0 ≠ 0 := by
  rw [rst_app, rst_app, rst_zeros, rst_own g d (true :: m) (by simp; omega)]
  apply rst_keep G
  rw [val_cons]
  have : 0 < 2 ^ m.length := Nat.pow_pos (by decide)
  simp only [if_true]
  omega
/-- one of a bit more is seen just if it is not the guard -/
theorem seen_wide {g d : Nat} (G : Gd g d) (a c : Nat) (m : List Bool) (h : m.length = d) : rst g d (List.replicate a false ++ true :: m ++ List.replicate c false) 0 = 0 ↔ val (true :: m) = g := by
  have hm : m ≠ [] := fun z => by
    have := G.one
    rw [z] at h
    simp at h
    omega
  have e : true :: m = (true :: m.dropLast) ++ [m.getLast hm] := by
    rw [List.cons_append, List.dropLast_concat_getLast]
  have hl : (true :: m.dropLast).length = d := by
    simp
    have := G.one
    omega
  have e1 : rst g d (true :: m) 0 = val (true :: m) ^^^ g := by
    rw [e, rst_app, rst_own g d _ (by omega)]
    show stp g d (val (true :: m.dropLast)) (m.getLast hm) = _
    rw [val_snoc]
    show (if (2 * val (true :: m.dropLast) + bn (m.getLast hm)).testBit d then _ else _) = _
    have : (2 * val (true :: m.dropLast) + bn (m.getLast hm)).testBit d = true := by
      obtain ⟨k, rfl⟩ : ∃ k, d = k + 1 := ⟨d - 1, by have := G.one; omega⟩
      rw [tbs, val_cons, Nat.testBit_eq_decide_div_mod_eq]
      have h1 := val_lt m.dropLast
      have h2 : m.dropLast.length = k := by simp [h]
      rw [h2] at h1 ⊢
      simp only [if_true]
      have : (2 ^ k + val m.dropLast) / 2 ^ k = 1 := by apply Nat.div_eq_of_lt_le <;> omega
      rw [this]
      rfl
    rw [this]
    rfl
  rw [rst_app, rst_app, rst_zeros, e1]
  constructor
  · intro z
    have : val (true :: m) ^^^ g = 0 := Classical.byContradiction fun n => rst_keep G c _ n z
    have := congrArg (· ^^^ g) this
    simpa [Nat.xor_assoc] using this
  · intro z
    rw [z, Nat.xor_self, rst_zeros]
/-- bits with their own rest behind leave none -/
theorem rst_guarded {g d : Nat} (G : Gd g d) (l : List Bool) : rst g d (l ++ digs (rst g d (l ++ List.replicate d false) 0) d) 0 = 0 := by
  obtain ⟨R, hR⟩ : ∃ R, R = rst g d (l ++ List.replicate d false) 0 := ⟨_, rfl⟩
  have hlt : R < 2 ^ d := hR ▸ rst_lt G _ 0 (Nat.pow_pos (by decide))
  rw [← hR]
  have e : l ++ digs R d = List.zipWith Bool.xor (l ++ List.replicate d false) (List.replicate l.length false ++ digs R d) := by
    rw [List.zipWith_append (by simp)]
    congr 1
    · have : ∀ m : List Bool, m = List.zipWith Bool.xor m (List.replicate m.length false) := fun m => by
        induction m with
        | nil => rfl
        | cons b m ih => simp [List.replicate_succ, ← ih]
      exact this l
    · have : ∀ m : List Bool, m = List.zipWith Bool.xor (List.replicate m.length false) m := fun m => by
        induction m with
        | nil => rfl
        | cons b m ih => simp [List.replicate_succ, ← ih]
      have h2 := this (digs R d)
      rw [digs_len] at h2
      exact h2
  rw [e]
  have := rst_lin g d (l ++ List.replicate d false) (List.replicate l.length false ++ digs R d) 0 0 (by simp)
  rw [Nat.xor_self] at this
  rw [this, ← hR, rst_app, rst_zeros, rst_own g d (digs R d) (by simp), val_digs, Nat.mod_eq_of_lt hlt, Nat.xor_self]
end K05
end
section
set_option Elab.async false
set_option linter.all false
set_option maxRecDepth 100000
set_option maxHeartbeats 4000000
/-! the long division, step by step: plain -/
namespace K05
open PySem PySem.Spec PyProof.Rows L2 VS
/-- xor at a place -/
def xat (L : List Bool) (at' : Nat) (G : List Bool) : List Bool := L.take at' ++ List.zipWith Bool.xor ((L.drop at').take G.length) G ++ L.drop (at' + G.length)
/-- a turn of the long division -/
def dv (G : List Bool) (L : List Bool) (at' : Nat) : List Bool := if L[at']?.getD false then xat L at' G else L
def dvs (G L : List Bool) (n : Nat) : List Bool := (List.range n).foldl (dv G) L
theorem dvs_succ (G L : List Bool) (n : Nat) : dvs G L (n + 1) = dv G (dvs G L n) n := by simp [dvs, List.range_succ]
theorem xat_len (L : List Bool) (at' : Nat) (G : List Bool) (h : at' + G.length ≤ L.length) : (xat L at' G).length = L.length := by
  simp [xat]
  omega
theorem dv_len (G L : List Bool) (at' : Nat) (h : at' + G.length ≤ L.length) : (dv G L at').length = L.length := by
  unfold dv
  split
  · exact xat_len L at' G h
  · rfl
theorem val_xor : ∀ (a b : List Bool), a.length = b.length → val (List.zipWith Bool.xor a b) = val a ^^^ val b := by
  intro a b h
  have h1 := val_lt a
  have h2 := val_lt b
  have e : (List.zipWith Bool.xor a b).length = a.length := by simp [h]
  have := rst_lin 0 a.length a b 0 0 h
  rw [Nat.xor_self, rst_own 0 a.length _ (by omega), rst_own 0 a.length a (by omega), rst_own 0 a.length b (by omega)] at this
  exact this
/-- where the division stands: at noughts, then the register, then bits untouched -/
theorem dvs_at {G : List Bool} {d : Nat} (hG : G.length = d + 1) (GG : Gd (val G) d) (l : List Bool) : ∀ n, n + d ≤ l.length → ∃ w : List Bool, w.length = d ∧ dvs G l n = List.replicate n false ++ w ++ l.drop (n + d) ∧ val w = rst (val G) d (l.take (n + d)) 0 := by
  intro n
  induction n with
  | zero =>
    intro h
    refine ⟨l.take d, by simp; omega, by simp [dvs], ?_⟩
    rw [Nat.zero_add, rst_own _ _ _ (by simp; omega)]
  | succ n ih =>
    intro h
    obtain ⟨w, h1, h2, h3⟩ := ih (by omega)
    have hd : l.drop (n + d) = l[n + d] :: l.drop (n + d + 1) := List.drop_eq_getElem_cons (by omega)
    obtain ⟨b, hb⟩ : ∃ b, b = l[n + d] := ⟨_, rfl⟩
    rw [← hb] at hd
    have ht : l.take (n + 1 + d) = l.take (n + d) ++ [b] := by
      rw [show n + 1 + d = (n + d) + 1 by omega, List.take_succ_eq_append_getElem (by omega), hb]
    have hw : w ≠ [] := fun z => by
      have := GG.one
      rw [z] at h1
      simp at h1
      omega
    obtain ⟨c, w', rfl⟩ := List.exists_cons_of_ne_nil hw
    have h1' : w'.length + 1 = d := by simpa using h1
    have hst : rst (val G) d (l.take (n + 1 + d)) 0 = stp (val G) d (val (c :: w')) b := by
      rw [ht, rst_app, ← h3]
      rfl
    have hval : 2 * val (c :: w') + bn b = val (c :: (w' ++ [b])) := by
      rw [show c :: (w' ++ [b]) = (c :: w') ++ [b] from rfl, val_snoc]
      rfl
    have htop : (2 * val (c :: w') + bn b).testBit d = c := by
      rw [← h1', tbs, val_cons, Nat.testBit_eq_decide_div_mod_eq]
      have hv := val_lt w'
      cases c
      · simp
        rw [Nat.div_eq_of_lt hv]
      · simp only [if_true]
        have : (2 ^ w'.length + val w') / 2 ^ w'.length = 1 := by apply Nat.div_eq_of_lt_le <;> omega
        rw [this]
        rfl
    have hget : (dvs G l n)[n]?.getD false = c := by
      rw [h2]
      simp
    rw [dvs_succ]
    unfold dv
    rw [hget, hst]
    unfold stp
    rw [htop, h2, hd]
    cases c with
    | false =>
      refine ⟨w' ++ [b], by simp; omega, ?_, ?_⟩
      · simp [List.replicate_succ']
        omega
      · simp only [Bool.false_eq_true, if_false]
        rw [hval, val_cons]
        simp
    | true =>
      obtain ⟨gh, gt, rfl⟩ : ∃ gh gt, G = gh :: gt := by
        cases G with
        | nil => simp at hG
        | cons a b => exact ⟨a, b, rfl⟩
      have hgh : gh = true := by
        have h5 := GG.lo
        have h6 := val_lt gt
        have h7 : gt.length = d := by simpa using hG
        rw [val_cons, h7] at h5
        rw [h7] at h6
        cases gh
        · simp at h5
          omega
        · rfl
      subst hgh
      have h7 : gt.length = d := by simpa using hG
      have hz : List.zipWith Bool.xor (w' ++ [b]) gt = List.zipWith Bool.xor (w' ++ [b]) gt := rfl
      refine ⟨List.zipWith Bool.xor (w' ++ [b]) gt, by simp; omega, ?_, ?_⟩
      · simp only [if_true]
        unfold xat
        have e1 : (List.replicate n false ++ true :: w' ++ b :: l.drop (n + d + 1)) = List.replicate n false ++ ((true :: (w' ++ [b])) ++ l.drop (n + d + 1)) := by simp
        rw [e1]
        have t1 : (List.replicate n false ++ ((true :: (w' ++ [b])) ++ l.drop (n + d + 1))).take n = List.replicate n false := by
          rw [List.take_append_of_le_length (by simp), List.take_of_length_le (by simp)]
        have t2 : (List.replicate n false ++ ((true :: (w' ++ [b])) ++ l.drop (n + d + 1))).drop n = (true :: (w' ++ [b])) ++ l.drop (n + d + 1) := by
          have := List.drop_left (l₁ := List.replicate n false) (l₂ := (true :: (w' ++ [b])) ++ l.drop (n + d + 1))
          simpa using this
        have hlen : (true :: (w' ++ [b])).length = (true :: gt).length := by simp; omega
        have t3 : ((true :: (w' ++ [b])) ++ l.drop (n + d + 1)).take (true :: gt).length = true :: (w' ++ [b]) := by
          rw [← hlen, List.take_left]
        have t4 : (List.replicate n false ++ ((true :: (w' ++ [b])) ++ l.drop (n + d + 1))).drop (n + (true :: gt).length) = l.drop (n + d + 1) := by
          rw [← List.drop_drop, t2, ← hlen, List.drop_left]
        rw [t1, t2, t3, t4, List.zipWith_cons_cons]
        simp [List.replicate_succ']
        omega
      · simp only [if_true]
        rw [hval, val_xor _ _ (by simp; omega)]
        have e : val (true :: (w' ++ [b])) ^^^ val (true :: gt) = val (List.zipWith Bool.xor (true :: (w' ++ [b])) (true :: gt)) := (val_xor _ _ (by simp; omega)).symm
        rw [e, List.zipWith_cons_cons, val_cons, ← val_xor _ _ (by simp; omega)]
        simp
/-- the law's rest: all turns, then the last ones, noughts ahead -/
def lawRest (G l : List Bool) : List Bool := (List.replicate G.length false ++ dvs G l (l.length + 1 - G.length)).drop (l.length + 1)
theorem val_inj : ∀ (a b : List Bool), a.length = b.length → val a = val b → a = b
  | [], [], _, _ => rfl
  | x :: a, y :: b, h, e => by
    have h' : a.length = b.length := by simpa using h
    have h1 := val_lt a
    have h2 := val_lt b
    rw [val_cons, val_cons, h'] at e
    rw [h'] at h1
    have hxy : x = y := by
      cases x <;> cases y <;> first | rfl | (simp at e; omega)
    subst hxy
    rw [val_inj a b h' (by omega)]
  | [], _ :: _, h, _ => by simp at h
  | _ :: _, [], h, _ => by simp at h
theorem law_rest {G : List Bool} {d : Nat} (hG : G.length = d + 1) (GG : Gd (val G) d) (l : List Bool) : lawRest G l = digs (rst (val G) d l 0) d := by
  have hr := rst_lt GG l 0 (Nat.pow_pos (by decide))
  unfold lawRest
  rw [hG]
  by_cases h : d ≤ l.length
  · obtain ⟨w, h1, h2, h3⟩ := dvs_at hG GG l (l.length - d) (by omega)
    rw [show l.length + 1 - (d + 1) = l.length - d by omega, h2, show l.length - d + d = l.length by omega]
    rw [show l.length - d + d = l.length by omega, List.take_of_length_le (by omega)] at h3
    have e : (List.replicate (d + 1) false ++ (List.replicate (l.length - d) false ++ w ++ l.drop l.length)).drop (l.length + 1) = w := by
      rw [List.drop_length, List.append_nil, ← List.append_assoc, List.replicate_append_replicate]
      have := List.drop_left (l₁ := List.replicate (d + 1 + (l.length - d)) false) (l₂ := w)
      rw [List.length_replicate, show d + 1 + (l.length - d) = l.length + 1 by omega] at this
      rw [show d + 1 + (l.length - d) = l.length + 1 by omega]
      exact this
    rw [e]
    apply val_inj _ _ (by simp [h1])
    rw [h3, val_digs, Nat.mod_eq_of_lt hr]
  · rw [show l.length + 1 - (d + 1) = 0 by omega]
    have e : (List.replicate (d + 1) false ++ dvs G l 0).drop (l.length + 1) = List.replicate (d - l.length) false ++ l := by
      rw [List.drop_append_of_le_length (by simp; omega), List.drop_replicate, show d + 1 - (l.length + 1) = d - l.length by omega]
      rfl
    rw [e]
    apply val_inj _ _ (by simp; omega)
    rw [val_digs, Nat.mod_eq_of_lt hr, rst_own _ _ _ (by omega)]
    have : ∀ k, val (List.replicate k false ++ l) = val l := by
      intro k
      induction k with
      | zero => rfl
      | succ k ih => rw [List.replicate_succ, List.cons_append, val_cons, ih]; simp
    exact this _
end K05
end
section
set_option Elab.async false
set_option linter.all false
set_option maxRecDepth 100000
set_option maxHeartbeats 4000000
/-! xor of whole numbers, base two written, noughts ahead: plain -/
namespace K05
open PySem PySem.Spec PyProof.Rows L2 VS
theorem and_two (r s : Nat) (a b : Bool) : (2 * r + bn a) &&& (2 * s + bn b) = 2 * (r &&& s) + bn (a && b) := by
  apply Nat.eq_of_testBit_eq
  intro i
  rw [Nat.testBit_and]
  cases i with
  | zero => rw [tb0, tb0, tb0]
  | succ i => rw [tbs, tbs, tbs, Nat.testBit_and]
theorem half (n : Nat) : n = 2 * (n / 2) + bn (decide (n % 2 = 1)) := by
  by_cases h : n % 2 = 1
  · simp [h, bn]
    omega
  · simp [h, bn]
    omega
theorem xor_and : ∀ (a b : Nat), (a ^^^ b) + 2 * (a &&& b) = a + b := by
  intro a
  induction a using Nat.strongRecOn with
  | _ a ih =>
    intro b
    by_cases h : a = 0
    · subst h
      simp
    · have h1 := half a
      have h2 := half b
      have h3 := ih (a / 2) (by omega) (b / 2)
      generalize a / 2 = a' at *
      generalize b / 2 = b' at *
      generalize decide (a % 2 = 1) = x at *
      generalize decide (b % 2 = 1) = y at *
      rw [h1, h2, xor_two, and_two]
      have : bn (x ^^ y) + 2 * bn (x && y) = bn x + bn y := by cases x <;> cases y <;> rfl
      omega
theorem bit_xor (a b : Nat) : Builtin.bitXor (a : Int) (b : Int) = ((a ^^^ b : Nat) : Int) := by
  rw [PyProof.Rows.bitXor_and]
  have e : Builtin.bitAnd (a : Int) (b : Int) = ((a &&& b : Nat) : Int) := by
    unfold Builtin.bitAnd
    simp
  rw [e]
  have := xor_and a b
  omega
/-- in base two -/
def binL (n : Nat) : List Bool := if n = 0 then [false] else digs n (sz n)
theorem digs_half (n m : Nat) : digs n (m + 1) = digs (n / 2) m ++ [n.testBit 0] := by
  induction m with
  | zero => simp [digs, lds]
  | succ m ih =>
    rw [digs_succ, ih, digs_succ, List.cons_append, Nat.testBit_succ]
theorem binT_e : ∀ n : Nat, binT n = bT (binL n) := by
  intro n
  apply str_ext
  rw [bT_cps]
  show ((Nat.toDigits 2 n).map Char.toNat) = _
  induction n using Nat.strongRecOn with
  | _ n ih =>
    rw [Nat.toDigits_eq_if (by decide)]
    by_cases h : n < 2
    · rw [if_pos h]
      have : n = 0 ∨ n = 1 := by omega
      rcases this with rfl | rfl
      · rfl
      · unfold binL
        rw [if_neg (by decide), sz_pos (by decide), show (1 : Nat) / 2 = 0 by decide, sz_0]
        rfl
    · rw [if_neg h, List.map_append, ih (n / 2) (by omega)]
      unfold binL
      rw [if_neg (by omega), if_neg (by omega), sz_pos (n := n) (by omega), digs_half, List.map_append]
      congr 1
      have : n % 2 = 0 ∨ n % 2 = 1 := by omega
      rw [Nat.testBit_zero]
      rcases this with h2 | h2 <;> rw [h2] <;> rfl
theorem binL_len (n : Nat) : (binL n).length = max 1 (sz n) := by
  unfold binL
  split
  · rename_i h
    subst h
    rw [sz_0]
    rfl
  · rename_i h
    have := sz_one h
    simp
    omega
theorem binL_val (n : Nat) : val (binL n) = n := by
  unfold binL
  split
  · rename_i h
    subst h
    rfl
  · rw [val_digs, Nat.mod_eq_of_lt (sz_lt n)]
theorem zeros_val (k : Nat) (l : List Bool) : val (List.replicate k false ++ l) = val l := by
  induction k with
  | zero => rfl
  | succ k ih => rw [List.replicate_succ, List.cons_append, val_cons, ih]; simp
theorem zfill_e (l : List Bool) (d : Nat) (hne : l ≠ []) (h : l.length ≤ d) : Txt.zfill (bT l) (d : Int) = bT (List.replicate (d - l.length) false ++ l) := by
  unfold Txt.zfill
  by_cases e : (d : Int) ≤ ((bT l).length : Int)
  · rw [if_pos e]
    rw [bT_len] at e
    rw [show d - l.length = 0 by omega]
    rfl
  · rw [if_neg e, bT_len]
    apply str_ext
    unfold zfilled
    obtain ⟨b, m, rfl⟩ := List.exists_cons_of_ne_nil hne
    have h0 : (bT (b :: m)).cps[0]? = some (bN b) := by simp [bT]
    rw [h0]
    have : ∀ x : Str, x = (match some (bN b) with
      | some 43 => Builtin.Str.strSub (bT (b :: m)) 0 1 ++ Builtin.Str.padded (Builtin.Str.strSub (bT (b :: m)) 1 (bT (b :: m)).length) ((d : Int).toNat - (b :: m).length) 0 48
      | some 45 => Builtin.Str.strSub (bT (b :: m)) 0 1 ++ Builtin.Str.padded (Builtin.Str.strSub (bT (b :: m)) 1 (bT (b :: m)).length) ((d : Int).toNat - (b :: m).length) 0 48
      | _ => Builtin.Str.padded (bT (b :: m)) ((d : Int).toNat - (b :: m).length) 0 48) → x.cps.toList = (bT (List.replicate (d - (b :: m).length) false ++ b :: m)).cps.toList := by
      intro x hx
      subst hx
      cases b
      all_goals
        simp [bN, Builtin.Str.padded, bT]
    exact this _ rfl
theorem bits_rest (r d : Nat) (h : r < 2 ^ d) (hd : 1 ≤ d) : Txt.zfill (binT r) (d : Int) = bT (digs r d) := by
  have hs := sz_bound h
  have hl := binL_len r
  have hne : binL r ≠ [] := fun z => by rw [z] at hl; simp at hl; omega
  rw [binT_e, zfill_e _ _ hne (by omega)]
  congr 1
  apply val_inj _ _ (by simp; omega)
  rw [zeros_val, binL_val, val_digs, Nat.mod_eq_of_lt h]
end K05
end
section
set_option Elab.async false
set_option linter.all false
set_option maxRecDepth 100000
set_option maxHeartbeats 4000000
/-! what the small defs answer: rests -/
namespace K05
open PySem PySem.Spec PyProof.Rows L2 VS
theorem mul2l (i : Int) (S : Store) : mulD (.int 2) (.int i) S = .ok (.int (2 * i)) S := mul_l (by omega) S
theorem mod2 (i : Int) (S : Store) : modD (.int i) (.int 2) S = .ok (.int (i % 2)) S := mod_e (by omega) S
theorem rngB (m : Nat) (h : m ≤ 1000000) : -(4611686018427387904 : Int) ≤ (m : Int) ∧ (m : Int) < 4611686018427387904 := ⟨by omega, by omega⟩
/-- a guard -/
structure GL (G : List Bool) (d : Nat) : Prop where
  ex : ∃ m, G = true :: (m ++ [true]) ∧ m.length + 1 = d
  few : d ≤ 16
theorem GL.len {G : List Bool} {d : Nat} (h : GL G d) : G.length = d + 1 := by
  obtain ⟨m, rfl, e⟩ := h.ex
  simp
  omega
theorem GL.gd {G : List Bool} {d : Nat} (h : GL G d) : Gd (val G) d := by
  obtain ⟨m, rfl, e⟩ := h.ex
  have h1 := val_lt (true :: (m ++ [true]))
  have h2 : (true :: (m ++ [true])).length = d + 1 := by simp; omega
  rw [h2] at h1
  refine ⟨?_, h1, ?_, by omega⟩
  · rw [val_cons, List.length_append, List.length_cons, List.length_nil, e]
    simp
  · rw [show true :: (m ++ [true]) = (true :: m) ++ [true] from rfl, val_snoc]
    simp only [if_true]
    omega
theorem degree_e {G : List Bool} {d : Nat} (h : GL G d) (S : Store) : F_degree_of [.str (bT G)] S = .ok (.int (d : Int)) S := by
  have e := len_bT G S (by have := h.len; have := h.few; omega)
  rw [h.len] at e
  have e2 : ((d + 1 : Nat) : Int) - 1 = (d : Int) := by omega
  unfold F_degree_of b_degree_of
  rw [runB_e]
  generalize ((d + 1 : Nat) : Int) = L at *
  simp -implicitDefEqProofs [e, e2]
theorem shr_top {x d : Nat} (h : x < 2 ^ (d + 1)) : (((x : Int) / 2 ^ d) = if x.testBit d then 1 else 0) := by
  have e : ((x : Int) / 2 ^ d) = ((x / 2 ^ d : Nat) : Int) := by simp
  rw [e, Nat.testBit_eq_decide_div_mod_eq]
  rw [Nat.pow_succ] at h
  have h2 : x / 2 ^ d < 2 := Nat.div_lt_of_lt_mul h
  generalize x / 2 ^ d = q at *
  have : q = 0 ∨ q = 1 := by omega
  rcases this with rfl | rfl <;> simp
theorem rest_number_e {G : List Bool} {d : Nat} (h : GL G d) (l : List Bool) (S : Store) : F_rest_number [.str (bT l), .str (bT G)] S = .ok (.int (rst (val G) d l 0 : Nat)) S := by
  have hG := h.gd
  have e1 := intB_e G (fun z => by have := h.len; rw [z] at this; simp at this) (by have := h.len; have := h.few; omega) S
  have e2 := degree_e h S
  obtain ⟨ρ', S', e, x5, h1, h2⟩ := for_as (as := l) (enc := fun b => D.str (bT [b])) (src := .str (bT l)) (gt := gVar 5) (body := (sSeq (sAsg (sBin addD (sBin mulA (sC (.int 2)) (sVar 4)) (sCall intD (aCons (sBin eqD (sVar 5) (sC (.str "1"))) aNil))) (gVar 4)) (sIte (tTru (sBin neD (sBin shrD (sVar 4) (sVar 3)) (sC (.int 0)))) (sAsg (sBin xorD (sVar 4) (sVar 2)) (gVar 4)) sSkip)))
    (fun pre ρ T => ∃ x5, ρ = [some (.str (bT l)), some (.str (bT G)), some (.int (val G : Nat)), some (.int (d : Int)), some (.int (rst (val G) d pre 0 : Nat)), x5] ∧ T = S)
    (fun pre ρ T _ i => src_bT l T i)
    (fun pre b post ρ T hl ⟨x5, h1, h2⟩ => by
      subst h1 h2
      refine ⟨_, _, rfl, [some (.str (bT l)), some (.str (bT G)), some (.int (val G : Nat)), some (.int (d : Int)), some (.int (rst (val G) d (pre ++ [b]) 0 : Nat)), some (.str (bT [b]))], T, ?_, _, rfl, rfl⟩
      have hr := rst_lt hG pre 0 (Nat.pow_pos (by decide))
      rw [rst_app]
      show _ = RS.nx [some (.str (bT l)), some (.str (bT G)), some (.int (val G : Nat)), some (.int (d : Int)), some (.int (stp (val G) d (rst (val G) d pre 0) b : Nat)), some (.str (bT [b]))] T
      generalize rst (val G) d pre 0 = r at *
      have ht : 2 * r + bn b < 2 ^ (d + 1) := by
        rw [Nat.pow_succ]
        have : bn b ≤ 1 := by cases b <;> simp [bn]
        omega
      have a1 := shr_top ht
      have a2 := bit_xor (2 * r + bn b) (val G)
      have a3 : (2 : Int) * (r : Int) + (if b = true then 1 else 0) = ((2 * r + bn b : Nat) : Int) := by cases b <;> simp [bn]
      have a4 := eq_bT [b] [true] T
      have a5 : decide ([b] = [true]) = b := by cases b <;> rfl
      rw [a5] at a4
      have s1 : (sAsg (sBin addD (sBin mulA (sC (.int 2)) (sVar 4)) (sCall intD (aCons (sBin eqD (sVar 5) (sC (.str "1"))) aNil))) (gVar 4)) [some (.str (bT l)), some (.str (bT G)), some (.int (val G : Nat)), some (.int (d : Int)), some (.int (r : Nat)), some (.str (bT [b]))] T = .nx [some (.str (bT l)), some (.str (bT G)), some (.int (val G : Nat)), some (.int (d : Int)), some (.int ((2 * r + bn b : Nat) : Int)), some (.str (bT [b]))] T := by
        rw [← a3]
        simp -implicitDefEqProofs [mul2l, bT_1, a4]
      show (sSeq _ _) [some (.str (bT l)), some (.str (bT G)), some (.int (val G : Nat)), some (.int (d : Int)), some (.int (r : Nat)), some (.str (bT [b]))] T = _
      rw [seqS_e, s1, seq_nx]
      unfold stp
      generalize 2 * r + bn b = x at *
      have s2 : shrD (.int (x : Int)) (.int (d : Int)) T = .ok (.int (if x.testBit d then 1 else 0)) T := by
        rw [← a1]
        show (if 0 ≤ (d : Int) then R.ok (D.int ((x : Int) / 2 ^ (d : Int).toNat)) T else .bad) = _
        rw [if_pos (by omega)]
        rfl
      have s3 : xorD (.int (x : Int)) (.int (val G : Nat)) T = .ok (.int ((x ^^^ val G : Nat) : Int)) T := by
        rw [← a2]
        rfl
      generalize (val G : Nat) = g at *
      generalize x ^^^ g = y at *
      cases hb : x.testBit d <;> rw [hb] at s2 <;> simp at s2 <;> simp -implicitDefEqProofs [s2, s3])
    (m := l.length + 1) (ρ := [some (.str (bT l)), some (.str (bT G)), some (.int (val G : Nat)), some (.int (d : Int)), some (.int 0), none]) (S := S) (by omega) ⟨none, rfl, rfl⟩
  subst h1 h2
  unfold F_rest_number b_rest_number
  rw [runB_e]
  revert e1 e2
  generalize F_degree_of = F
  intro e1 e2
  generalize (val G : Nat) = g at *
  generalize rst g d l 0 = r at *
  simp -implicitDefEqProofs [e1, e2, src_bT_len, e]
theorem bits_of_rest_e {G : List Bool} {d : Nat} (h : GL G d) (r : Nat) (hr : r < 2 ^ d) (S : Store) : F_bits_of_rest [.int (r : Int), .str (bT G)] S = .ok (.str (bT (digs r d))) S := by
  have e1 := degree_e h S
  have hd := h.gd.one
  have hf := h.few
  have e2 := bits_rest r d hr hd
  have hs := sz_bound hr
  have e3 : (binT r).length ≤ 1000000 := by
    rw [binT_e, bT_len, binL_len]
    omega
  have e4 : PadOk (d : Int) = true := by
    have : d = 1 ∨ d = 2 ∨ d = 3 ∨ d = 4 ∨ d = 5 ∨ d = 6 ∨ d = 7 ∨ d = 8 ∨ d = 9 ∨ d = 10 ∨ d = 11 ∨ d = 12 ∨ d = 13 ∨ d = 14 ∨ d = 15 ∨ d = 16 := by omega
    rcases this with rfl | rfl | rfl | rfl | rfl | rfl | rfl | rfl | rfl | rfl | rfl | rfl | rfl | rfl | rfl | rfl <;> decide
  have e5 : sFmtB (sVar 0) [some (.int (r : Int)), some (.str (bT G))] S = .ok (.str (binT r)) S := by
    show (if 0 ≤ (r : Int) ∧ (binT (r : Int).natAbs).length ≤ 1000000 then R.ok (D.str (binT (r : Int).natAbs)) S else .bad) = _
    rw [show (r : Int).natAbs = r from rfl, if_pos ⟨by omega, e3⟩]
  have e6 : zfillD (.str (binT r)) [.int (d : Int)] S = .ok (.str (bT (digs r d))) S := by
    show (if PadOk (d : Int) = true then R.ok (D.str (Txt.zfill (binT r) (d : Int))) S else .bad) = _
    rw [if_pos e4, e2]
  unfold F_bits_of_rest b_bits_of_rest
  rw [runB_e]
  revert e1
  generalize F_degree_of = F
  generalize sFmtB (sVar 0) = u at *
  intro e1
  simp -implicitDefEqProofs [e5, e1, e6]
/-- the rest, written -/
def RT (G : List Bool) (d : Nat) (l : List Bool) : List Bool := digs (rst (val G) d l 0) d
theorem rest_of_e {G : List Bool} {d : Nat} (h : GL G d) (l : List Bool) (S : Store) : F_rest_of [.str (bT l), .str (bT G)] S = .ok (.str (bT (RT G d l))) S := by
  have e1 := rest_number_e h l S
  have e2 := bits_of_rest_e h (rst (val G) d l 0) (rst_lt h.gd l 0 (Nat.pow_pos (by decide))) S
  unfold F_rest_of b_rest_of
  rw [runB_e]
  unfold RT
  revert e1 e2
  generalize F_rest_number = F
  generalize F_bits_of_rest = F2
  intro e1 e2
  simp -implicitDefEqProofs [e1, e2]
theorem guarded_e {G : List Bool} {d : Nat} (h : GL G d) (l : List Bool) (hl : l.length ≤ 10000) (S : Store) : F_guarded [.str (bT l), .str (bT G)] S = .ok (.str (bT (l ++ RT G d (l ++ List.replicate d false)))) S := by
  have e1 := degree_e h S
  have hf := h.few
  have e2 := mul_bT false d S (by omega)
  have e3 := add_bT l (List.replicate d false) S (by simp; omega)
  have e4 := rest_of_e h (l ++ List.replicate d false) S
  have e5 := add_bT l (RT G d (l ++ List.replicate d false)) S (by simp [RT]; omega)
  unfold F_guarded b_guarded
  rw [runB_e]
  generalize RT G d (l ++ List.replicate d false) = R1 at *
  generalize List.replicate d false = Z at *
  revert e1 e4
  generalize F_degree_of = F
  generalize F_rest_of = F2
  intro e1 e4
  simp -implicitDefEqProofs [e1, bT_0, e2, e3, e4, e5]
end K05
end
section
set_option Elab.async false
set_option linter.all false
set_option maxRecDepth 100000
set_option maxHeartbeats 4000000
/-! what is asked from outside: rests; the law's own -/
namespace K05
open PySem PySem.Spec PyProof.Rows L2 VS
theorem is_bits_e (l : List Bool) (hl : l.length ≤ 100000) (S : Store) : F_is_bits [.str (bT l)] S = .ok (.bl true) S := by
  have e := lc_encA (src := .str (bT l)) (gt := gVar 1) (te := sBin inA (sVar 1) (sC (.str "01"))) (vs := [1]) (ρ := [some (.str (bT l)), none]) (S := S) l (fun b => D.str (bT [b])) (fun _ => .bl true) (src_bT l S) (big_size (by omega))
    (fun b _ => ⟨_, rfl, by simp -implicitDefEqProofs [wipeE, bT_01, in_01]⟩) (m := l.length + 1) (by omega)
  have e2 := all_bools l (fun _ => true) S
  have e3 : l.all (fun _ => true) = true := by simp
  rw [e3] at e2
  unfold F_is_bits b_is_bits
  rw [runB_e]
  generalize sBin inA (sVar 1) (sC (.str "01")) = te at *
  simp -implicitDefEqProofs [src_bT_len, e, e2]
theorem need_bits_e (l : List Bool) (hl : l.length ≤ 100000) (p : D) (S : Store) : F_need_bits [.str (bT l), p] S = .ok .non S := by
  have e := is_bits_e l hl S
  unfold F_need_bits b_need_bits
  rw [runB_e]
  simp -implicitDefEqProofs [e]
theorem ix_last (l : List Bool) (b : Bool) (S : Store) (h : l.length ≤ 1000) : ixGet (.str (bT (l ++ [b]))) (.int (-1)) S = .ok (.str (bT [b])) S := by
  show ixStr (bT (l ++ [b])) (-1) S = _
  unfold ixStr
  have e : L2.atI (bT (l ++ [b])).cps.toList (-1) = some (bN b) := by
    unfold L2.atI L2.ixN
    have hlen : (bT (l ++ [b])).cps.toList.length = l.length + 1 := by simp
    rw [hlen, if_neg (by omega), if_pos (by omega)]
    rw [show ((-1 : Int) + ((l.length + 1 : Nat) : Int)).toNat = l.length by omega]
    simp
  rw [bT_len, if_pos (Nat.le_of_lt (big_size (by rw [List.length_append, List.length_singleton]; omega))), show L2.atI (bT (l ++ [b])).cps.toList (-1) = some (bN b) from e]
  rfl
theorem is_guard_e {G : List Bool} {d : Nat} (h : GL G d) (S : Store) : F_is_guard [.str (bT G)] S = .ok (.bl true) S := by
  have e1 := is_bits_e G (by have := h.len; have := h.few; omega) S
  have e2 := len_bT G S (by have := h.len; have := h.few; omega)
  have h1 : 2 ≤ (G.length : Int) := by have := h.len; have := h.gd.one; omega
  have h2 : (G.length : Int) ≤ 17 := by have := h.len; have := h.few; omega
  have hl := h.len
  have hf := h.few
  obtain ⟨m, e, hm⟩ := h.ex
  have e3 : ixGet (.str (bT G)) (.int 0) S = .ok (.str (bT [true])) S := by
    have := ix_bT G 0 (by omega) S (by omega)
    subst e
    simpa using this
  have e4 : ixGet (.str (bT G)) (.int (-1)) S = .ok (.str (bT [true])) S := by
    have := ix_last (true :: m) true S (by simp; omega)
    rw [e]
    exact this
  have e5 := eq_bT [true] [true] S
  unfold F_is_guard b_is_guard
  rw [runB_e]
  generalize (G.length : Int) = L at *
  generalize bT G = t at *
  revert e1
  generalize F_is_bits = F
  intro e1
  simp at e5
  simp -implicitDefEqProofs [e1, e2, h1, h2, e3, e4, bT_1, e5]
theorem need_guard_e {G : List Bool} {d : Nat} (h : GL G d) (S : Store) : F_need_guard [.str (bT G)] S = .ok .non S := by
  have e := is_guard_e h S
  unfold F_need_guard b_need_guard
  rw [runB_e]
  simp -implicitDefEqProofs [e]
theorem rest_by_e {G : List Bool} {d : Nat} (h : GL G d) (l : List Bool) (hl : l.length ≤ 10000) (S : Store) : F_rest_by [.str (bT G), .str (bT l)] S = .ok (.str (bT (RT G d l))) S := by
  have e1 := need_guard_e h S
  have e2 := need_bits_e l (by omega) (.str "bits") S
  have e3 := rest_of_e h l S
  unfold F_rest_by b_rest_by
  rw [runB_e]
  generalize RT G d l = R1 at *
  revert e1 e2 e3
  generalize F_need_guard = F1
  generalize F_need_bits = F2
  generalize F_rest_of = F3
  intro e1 e2 e3
  simp -implicitDefEqProofs [e1, e2, e3]
/-- bits and their guard bits -/
def WG (G : List Bool) (d : Nat) (l : List Bool) : List Bool := l ++ RT G d (l ++ List.replicate d false)
theorem with_guard_e {G : List Bool} {d : Nat} (h : GL G d) (l : List Bool) (hl : l.length ≤ 10000) (S : Store) : F_with_guard [.str (bT G), .str (bT l)] S = .ok (.str (bT (WG G d l))) S := by
  have e1 := need_guard_e h S
  have e2 := need_bits_e l (by omega) (.str "bits") S
  have e3 := guarded_e h l hl S
  rw [show l ++ RT G d (l ++ List.replicate d false) = WG G d l from rfl] at e3
  unfold F_with_guard b_with_guard
  rw [runB_e]
  generalize WG G d l = R1 at *
  revert e1 e2 e3
  generalize F_need_guard = F1
  generalize F_need_bits = F2
  generalize F_guarded = F3
  intro e1 e2 e3
  simp -implicitDefEqProofs [e1, e2, e3]
end K05
end
section
set_option Elab.async false
set_option linter.all false
set_option maxRecDepth 100000
set_option maxHeartbeats 4000000
/-! the law's long division -/
namespace K05
open PySem PySem.Spec PyProof.Rows L2 VS
theorem ix_cell (S : Store) (xs : List D) (i : Nat) (h : i < xs.length) : ixGet (.cel S.length) (.int (i : Int)) (S ++ [.lst xs]) = .ok xs[i] (S ++ [.lst xs]) := by
  have e := ixL_e xs i h (S ++ [.lst xs])
  have e2 : ixGet (.cel S.length) (.int (i : Int)) (S ++ [.lst xs]) = (match lookL (S ++ [Cell.lst xs]) (D.cel S.length) with
    | some ys => ixL ys (i : Int) (S ++ [Cell.lst xs])
    | none => .bad) := rfl
  rw [e2, look_last]
  exact e
theorem set_cell (S : Store) (xs : List D) (i : Nat) (v : D) (h : i < xs.length) : setD (.cel S.length) (.int (i : Int)) v (S ++ [.lst xs]) = .ok () (S ++ [.lst (xs.set i v)]) := by
  unfold setD
  simp only [get_last]
  have e : L2.ixN xs.length (i : Int) = some i := by
    unfold L2.ixN
    rw [if_pos (by omega), if_pos (by omega)]
    rfl
  rw [e]
  simp only [set_last]
def bi (b : Bool) : D := .int (if b = true then 1 else 0)
theorem xat_0 (L : List Bool) (at' : Nat) : xat L at' [] = L := by simp [xat]
theorem xat_get (L G : List Bool) (at' k : Nat) (hk : k < G.length) (h : at' + G.length ≤ L.length) : (xat L at' (G.take k))[at' + k]? = L[at' + k]? := by
  unfold xat
  have e : (L.take at' ++ List.zipWith Bool.xor ((L.drop at').take (G.take k).length) (G.take k)).length = at' + k := by
    simp
    omega
  rw [List.getElem?_append_right (by omega), e, Nat.sub_self, List.getElem?_drop]
  congr 1
  simp
  omega
theorem xat_step (L G : List Bool) (at' k : Nat) (hk : k < G.length) (h : at' + G.length ≤ L.length) : (xat L at' (G.take k)).set (at' + k) ((L[at' + k]'(by omega)) ^^ G[k]) = xat L at' (G.take (k + 1)) := by
  apply List.ext_getElem?
  intro i
  have hl : (xat L at' (G.take k)).length = L.length := xat_len _ _ _ (by simp; omega)
  have key : ∀ j, j ≤ G.length → (xat L at' (G.take j))[i]? = if at' ≤ i ∧ i < at' + j then some ((L[i]?.getD false) ^^ (G[i - at']?.getD false)) else L[i]? := by
    intro j hj
    unfold xat
    have e1 : (L.take at').length = at' := by simp; omega
    have e2 : (List.zipWith Bool.xor ((L.drop at').take (G.take j).length) (G.take j)).length = j := by simp; omega
    have e3 : (G.take j).length = j := by simp; omega
    by_cases c : at' ≤ i ∧ i < at' + j
    · rw [if_pos c, List.append_assoc, List.getElem?_append_right (by omega), e1, List.getElem?_append_left (by omega)]
      have g1 : i < L.length := by omega
      have g2 : i - at' < G.length := by omega
      rw [List.getElem?_zipWith, List.getElem?_take_of_lt (by omega), List.getElem?_drop, show at' + (i - at') = i by omega, List.getElem?_take_of_lt (by omega), List.getElem?_eq_getElem g1, List.getElem?_eq_getElem g2]
      rfl
    · rw [if_neg c]
      by_cases c2 : i < at'
      · rw [List.append_assoc, List.getElem?_append_left (by omega), List.getElem?_take_of_lt c2]
      · rw [List.getElem?_append_right (by simp only [List.length_append, e1, e2]; omega), List.length_append, e1, e2, e3, List.getElem?_drop]
        congr 1
        omega
  rw [key (k + 1) (by omega)]
  by_cases c : at' + k = i
  · subst c
    rw [List.getElem?_set_self (by omega), if_pos (by omega), List.getElem?_eq_getElem (by omega : at' + k < L.length), show at' + k - at' = k by omega, List.getElem?_eq_getElem hk]
    rfl
  · rw [List.getElem?_set_ne c, key k (by omega)]
    by_cases c1 : at' ≤ i ∧ i < at' + k
    · rw [if_pos c1, if_pos (by omega)]
    · rw [if_neg c1, if_neg (by omega)]
theorem set_map (xs : List Bool) (i : Nat) (b : Bool) : (xs.map bi).set i (bi b) = (xs.set i b).map bi := by
  rw [List.map_set]
theorem inner_e (G L : List Bool) (at' : Nat) (h : at' + G.length ≤ L.length) (hl : L.length ≤ 1000) (S : Store) (x0 x6 x7 x2 x5 : Option D) : ∃ y5, forS (.rng 0 G.length) (gVar 5) (sAsg (sBin modD (sBin addD (sBin ixGet (sVar 3) (sBin addD (sVar 4) (sVar 5))) (sCall intD (aCons (sBin eqD (sBin ixGet (sVar 1) (sVar 5)) (sC (.str "1"))) aNil))) (sC (.int 2))) (gSubD (sVar 3) (sBin addD (sVar 4) (sVar 5)))) (G.length + 1) 0
    [x0, some (.str (bT G)), x2, some (.cel S.length), some (.int (at' : Int)), x5, x6, x7] (S ++ [.lst (L.map bi)]) = .nx [x0, some (.str (bT G)), x2, some (.cel S.length), some (.int (at' : Int)), y5, x6, x7] (S ++ [.lst ((xat L at' G).map bi)]) := by
  obtain ⟨ρ', S', e, y5, h1, h2⟩ := for_rng (gt := gVar 5) (body := (sAsg (sBin modD (sBin addD (sBin ixGet (sVar 3) (sBin addD (sVar 4) (sVar 5))) (sCall intD (aCons (sBin eqD (sBin ixGet (sVar 1) (sVar 5)) (sC (.str "1"))) aNil))) (sC (.int 2))) (gSubD (sVar 3) (sBin addD (sVar 4) (sVar 5)))))
    (fun k ρ T => ∃ y5, ρ = [x0, some (.str (bT G)), x2, some (.cel S.length), some (.int (at' : Int)), y5, x6, x7] ∧ T = S ++ [.lst ((xat L at' (G.take k)).map bi)]) G.length
    (fun k ρ T hk ⟨y5, h1, h2⟩ => by
      subst h1 h2
      refine ⟨_, _, rfl, [x0, some (.str (bT G)), x2, some (.cel S.length), some (.int (at' : Int)), some (.int (k : Int)), x6, x7], S ++ [.lst ((xat L at' (G.take (k + 1))).map bi)], ?_, _, rfl, rfl⟩
      have hx : (xat L at' (G.take k)).length = L.length := xat_len _ _ _ (by simp; omega)
      have g0 : (xat L at' (G.take k))[at' + k]'(by omega) = L[at' + k]'(by omega) := by
        have := xat_get L G at' k hk h
        rw [List.getElem?_eq_getElem (by omega), List.getElem?_eq_getElem (by omega)] at this
        exact Option.some.inj this
      have g1 := ix_cell S ((xat L at' (G.take k)).map bi) (at' + k) (by simp; omega)
      rw [List.getElem_map, g0] at g1
      have g2 := ix_bT G k hk (S ++ [.lst ((xat L at' (G.take k)).map bi)]) (by omega)
      have g3 := set_cell S ((xat L at' (G.take k)).map bi) (at' + k) (bi ((L[at' + k]'(by omega)) ^^ G[k])) (by simp; omega)
      rw [set_map, xat_step L G at' k hk h] at g3
      have g4 : (at' : Int) + (k : Int) = ((at' + k : Nat) : Int) := by omega
      have g5 := eq_bT [G[k]] [true] (S ++ [.lst ((xat L at' (G.take k)).map bi)])
      have g6 : decide ([G[k]] = [true]) = G[k] := by cases G[k] <;> rfl
      rw [g6] at g5
      rw [asg_g]
      generalize ((at' + k : Nat) : Int) = A at *
      generalize L[at' + k]'(by omega) = u at *
      generalize G[k] = v at *
      generalize S ++ [.lst ((xat L at' (G.take k)).map bi)] = S1 at *
      generalize S ++ [.lst ((xat L at' (G.take (k + 1))).map bi)] = S2 at *
      cases u <;> cases v <;> simp [bi] at g1 g3 <;> simp -implicitDefEqProofs [gSubD, g4, g1, g2, g5, bT_1, g3, mod2])
    (ρ := [x0, some (.str (bT G)), x2, some (.cel S.length), some (.int (at' : Int)), x5, x6, x7]) (S := S ++ [.lst (L.map bi)]) ⟨x5, rfl, by rw [List.take_zero, xat_0]⟩
  subst h1 h2
  rw [List.take_length] at e
  exact ⟨y5, e⟩
end K05
end
section
set_option Elab.async false
set_option linter.all false
set_option maxRecDepth 100000
set_option maxHeartbeats 4000000
/-! the law's rest -/
namespace K05
open PySem PySem.Spec PyProof.Rows L2 VS
theorem dvs_len (G l : List Bool) : ∀ n, n + G.length ≤ l.length + 1 → (dvs G l n).length = l.length := by
  intro n
  induction n with
  | zero => intro _; rfl
  | succ n ih =>
    intro h
    rw [dvs_succ, dv_len _ _ _ (by rw [ih (by omega)]; omega), ih (by omega)]
abbrev outB : SS := (sIte (tTru (sBin eqD (sBin ixGet (sVar 3) (sVar 4)) (sC (.int 1)))) (sFor (iRange1 (aCons (sCall lenD (aCons (sVar 1) aNil)) aNil)) (gVar 5) (sAsg (sBin modD (sBin addD (sBin ixGet (sVar 3) (sBin addD (sVar 4) (sVar 5))) (sCall intD (aCons (sBin eqD (sBin ixGet (sVar 1) (sVar 5)) (sC (.str "1"))) aNil))) (sC (.int 2))) (gSubD (sVar 3) (sBin addD (sVar 4) (sVar 5))))) sSkip)
theorem outer_e (G l : List Bool) (hG : 1 ≤ G.length) (hg : G.length ≤ 100) (hl : l.length ≤ 900) (S : Store) (x0 x2 : Option D) : ∃ y4 y5, forS (.rng 0 (l.length + 1 - G.length)) (gVar 4) outB (l.length + 1 - G.length + 1) 0
    [x0, some (.str (bT G)), x2, some (.cel S.length), none, none, none, none] (S ++ [.lst (l.map bi)]) = .nx [x0, some (.str (bT G)), x2, some (.cel S.length), y4, y5, none, none] (S ++ [.lst ((dvs G l (l.length + 1 - G.length)).map bi)]) := by
  obtain ⟨ρ', S', e, y4, y5, h1, h2⟩ := for_rng (gt := gVar 4) (body := outB)
    (fun n ρ T => ∃ y4 y5, ρ = [x0, some (.str (bT G)), x2, some (.cel S.length), y4, y5, none, none] ∧ T = S ++ [.lst ((dvs G l n).map bi)]) (l.length + 1 - G.length)
    (fun n ρ T hn ⟨y4, y5, h1, h2⟩ => by
      subst h1 h2
      have hL := dvs_len G l n (by omega)
      have hi : n < (dvs G l n).length := by omega
      have g1 := ix_cell S ((dvs G l n).map bi) n (by simpa using hi)
      rw [List.getElem_map] at g1
      have g2 := len_bT G (S ++ [.lst ((dvs G l n).map bi)]) (by omega)
      obtain ⟨z5, g3⟩ := inner_e G (dvs G l n) n (by omega) (by omega) S x0 none none x2 y5
      have hd : dvs G l (n + 1) = if (dvs G l n)[n] then xat (dvs G l n) n G else dvs G l n := by
        rw [dvs_succ]
        unfold dv
        rw [List.getElem?_eq_getElem hi]
        rfl
      rw [hd]
      unfold outB
      generalize (sAsg (sBin modD (sBin addD (sBin ixGet (sVar 3) (sBin addD (sVar 4) (sVar 5))) (sCall intD (aCons (sBin eqD (sBin ixGet (sVar 1) (sVar 5)) (sC (.str "1"))) aNil))) (sC (.int 2))) (gSubD (sVar 3) (sBin addD (sVar 4) (sVar 5)))) = B at *
      have hb := rngB G.length (by omega)
      cases hc : (dvs G l n)[n] with
      | true =>
        rw [hc] at g1
        simp only [if_true]
        refine ⟨_, _, rfl, [x0, some (.str (bT G)), x2, some (.cel S.length), some (.int (n : Int)), z5, none, none], S ++ [.lst ((xat (dvs G l n) n G).map bi)], ?_, _, _, rfl, rfl⟩
        generalize S ++ [.lst ((dvs G l n).map bi)] = S1 at *
        generalize S ++ [.lst ((xat (dvs G l n) n G).map bi)] = S2 at *
        simp [bi] at g1
        simp -implicitDefEqProofs [g1, g2, hb, Src.len, g3]
      | false =>
        rw [hc] at g1
        refine ⟨_, _, rfl, [x0, some (.str (bT G)), x2, some (.cel S.length), some (.int (n : Int)), y5, none, none], S ++ [.lst ((dvs G l n).map bi)], ?_, _, _, rfl, by simp⟩
        generalize S ++ [.lst ((dvs G l n).map bi)] = S1 at *
        simp [bi] at g1
        simp -implicitDefEqProofs [g1])
    (ρ := [x0, some (.str (bT G)), x2, some (.cel S.length), none, none, none, none]) (S := S ++ [.lst (l.map bi)]) ⟨none, none, rfl, rfl⟩
  subst h1 h2
  exact ⟨y4, y5, e⟩
end K05
end
section
set_option Elab.async false
set_option linter.all false
set_option maxRecDepth 100000
set_option maxHeartbeats 4000000
/-! the law's rest and guard bits -/
namespace K05
open PySem PySem.Spec PyProof.Rows L2 VS
theorem rg (i : Int) (n : Nat) (h : i ≤ 2000) (h2 : -2000 ≤ i) (e : i.toNat = n) : (-(4611686018427387904 : Int) ≤ i ∧ i < 4611686018427387904) ∧ i.toNat = n := ⟨⟨by omega, by omega⟩, e⟩
theorem str_bi (b : Bool) (S : Store) : strI [bi b] S = .ok (.str (bT [b])) S := by cases b <;> rfl
theorem sl_tail (l : List Bool) (i : Nat) (hi : i ≤ l.length) (S : Store) (h : l.length ≤ 1000000) : slD (.str (bT l)) (some (i : Int)) none S = .ok (.str (bT (l.drop i))) S := by
  show (if (bT l).length ≤ sizeLine then R.ok (D.str (cutS (bT l) (some (i : Int)) none)) S else .bad) = _
  rw [bT_len, if_pos (Nat.le_of_lt (Nat.lt_of_le_of_lt h (by decide))), cut_bT, HT.sIx_nat, Nat.min_eq_left hi, HT.sIx_none, List.take_of_length_le (by simp)]
theorem law_rest_e {G : List Bool} {d : Nat} (h : GL G d) (l : List Bool) (hl : l.length ≤ 900) (S : Store) (hS : Own S) : F__law_rest [.str (bT l), .str (bT G)] S = .ok (.str (bT (RT G d l))) S := by
  have hlen := h.len
  have hf := h.few
  have e1 := lc_encA (src := .str (bT l)) (gt := gVar 2) (te := sCall intD (aCons (sBin eqD (sVar 2) (sC (.str "1"))) aNil)) (vs := [2]) (ρ := [some (.str (bT l)), some (.str (bT G)), none, none, none, none, none, none]) (S := S) l (fun b => D.str (bT [b])) bi (src_bT l S) (small_size (by omega))
    (fun b _ => ⟨_, rfl, by
      have a4 := eq_bT [b] [true] S
      have a5 : decide ([b] = [true]) = b := by cases b <;> rfl
      rw [a5] at a4
      simp -implicitDefEqProofs [wipeE, bT_1, a4, bi]⟩) (m := l.length + 1) (by omega)
  obtain ⟨y4, y5, e2⟩ := outer_e G l (by omega) (by omega) hl S (some (.str (bT l))) none
  have hn : l.length + 1 - G.length = l.length - d := by omega
  have e3 : ∀ T, lenD [.str (bT G)] T = .ok (.int (G.length : Int)) T := fun T => len_bT G T (by omega)
  have hdl := dvs_len G l (l.length + 1 - G.length)
  have e4 : lenD [.cel S.length] (S ++ [.lst (l.map bi)]) = .ok (.int (l.length : Int)) (S ++ [.lst (l.map bi)]) := by
    have : lenD [.cel S.length] (S ++ [.lst (l.map bi)]) = (match lookL (S ++ [Cell.lst (l.map bi)]) (D.cel S.length) with
      | some xs => .ok (.int xs.length) (S ++ [Cell.lst (l.map bi)])
      | none => .bad) := rfl
    rw [this, look_last]
    simp
  obtain ⟨L, hL⟩ : ∃ L, L = dvs G l (l.length + 1 - G.length) := ⟨_, rfl⟩
  have hLl : L.length = l.length := by
    by_cases c : G.length ≤ l.length + 1
    · rw [hL]
      exact hdl (by omega)
    · rw [hL, show l.length + 1 - G.length = 0 by omega]
      rfl
  rw [← hL] at e2
  have e5 := lc_encA (src := .seq (.cel S.length)) (gt := gVar 6) (te := sCall strI (aCons (sVar 6) aNil)) (vs := [6]) (ρ := [some (.str (bT l)), some (.str (bT G)), none, some (.cel S.length), y4, y5, none, none]) (S := S ++ [.lst (L.map bi)]) L bi (fun b => D.str (bT [b])) (fun i => by
      show (lookL (S ++ [Cell.lst (L.map bi)]) (.cel S.length)).map (fun xs => xs[i]?) = _
      rw [look_last]
      rfl) (small_size (by omega)) (fun b _ => ⟨_, rfl, by
      have a := str_bi b (S ++ [.lst (L.map bi)])
      simp [bi] at a
      simp -implicitDefEqProofs [wipeE, bi, a]⟩) (m := L.length + 1) (by omega)
  have e6 := join_bT L (S ++ [.lst (L.map bi)]) (by omega)
  have e7 : lookL (S ++ [.lst (L.map bi)]) (.cel S.length) = some (L.map bi) := look_last S (L.map bi)
  have e8 : ∀ T, lenD [.str (bT L)] T = .ok (.int (L.length : Int)) T := fun T => len_bT L T (by omega)
  have e9 : ∀ T, mulA (.str (bT [false])) (.int (G.length : Int)) T = .ok (.str (bT (List.replicate G.length false))) T := fun T => mul_bT false G.length T (by omega)
  have e10 : ∀ T, addD (.str (bT (List.replicate G.length false))) (.str (bT L)) T = .ok (.str (bT (List.replicate G.length false ++ L))) T := fun T => add_bT _ _ T (by simp; omega)
  have e11 : ∀ T, slD (.str (bT (List.replicate G.length false ++ L))) (some ((L.length + 1 : Nat) : Int)) none T = .ok (.str (bT ((List.replicate G.length false ++ L).drop (L.length + 1)))) T := fun T => sl_tail _ _ (by simp; omega) T (by simp; omega)
  have e12 : (List.replicate G.length false ++ L).drop (L.length + 1) = RT G d l := by
    rw [hLl, hL]
    exact law_rest hlen h.gd l
  rw [e12] at e11
  have e13 : ((L.length + 1 : Nat) : Int) = (L.length : Int) + 1 := by omega
  rw [e13] at e11
  have e14 := cut_last hS (.lst (L.map bi)) (.str (bT (RT G d l))) (by simp [noCel])
  have s1 : sAsg (mutF (fLc (iStrO (sVar 0)) (gVar 2) tAll (sCall intD (aCons (sBin eqD (sVar 2) (sC (.str "1"))) aNil)) [2])) (gVar 3) [some (.str (bT l)), some (.str (bT G)), none, none, none, none, none, none] S = .nx [some (.str (bT l)), some (.str (bT G)), none, some (.cel S.length), none, none, none, none] (S ++ [.lst (l.map bi)]) := by
    generalize sCall intD (aCons (sBin eqD (sVar 2) (sC (.str "1"))) aNil) = te at *
    generalize l.map bi = R1 at *
    simp -implicitDefEqProofs [src_bT_len, e1]
  have hr := rg ((l.length : Int) - (G.length : Int) + 1) (l.length + 1 - G.length) (by omega) (by omega) (by omega)
  have s2 : sFor (iRange1 (aCons (sBin addD (sBin subD (sCall lenD (aCons (sVar 3) aNil)) (sCall lenD (aCons (sVar 1) aNil))) (sC (.int 1))) aNil)) (gVar 4) outB [some (.str (bT l)), some (.str (bT G)), none, some (.cel S.length), none, none, none, none] (S ++ [.lst (l.map bi)]) = .nx [some (.str (bT l)), some (.str (bT G)), none, some (.cel S.length), y4, y5, none, none] (S ++ [.lst (L.map bi)]) := by
    generalize outB = B at *
    generalize l.length + 1 - G.length = n at *
    generalize (l.length : Int) = A1 at *
    generalize (G.length : Int) = A2 at *
    generalize S ++ [Cell.lst (l.map bi)] = S1 at *
    generalize S ++ [Cell.lst (L.map bi)] = S2 at *
    simp -implicitDefEqProofs [e4, e3, hr.1, hr.2, Src.len, e2]
  unfold F__law_rest b__law_rest
  rw [runB_e]
  show fin S.length ((sSeq _ (sSeq (sFor _ _ outB) _)) [some (.str (bT l)), some (.str (bT G)), none, none, none, none, none, none] S) = _
  rw [seqS_e, s1, seq_nx, seqS_e, s2, seq_nx]
  clear s1 s2 e1 e2 e4 e12 hdl hL
  have e15 : (L.map bi).length = L.length := by simp
  generalize sCall strI (aCons (sVar 6) aNil) = te at *
  generalize bT (RT G d l) = tt at *
  generalize bT (List.replicate G.length false ++ L) = t1 at *
  generalize bT (List.replicate G.length false) = t2 at *
  generalize bT L = t3 at *
  generalize (L.map fun b => D.str (bT [b])) = R2 at *
  generalize L.map bi = R3 at *
  generalize (G.length : Int) = A2 at *
  simp -implicitDefEqProofs [Src.len, e7, e15, e5, bT_nil, e6, e8, bT_0, e9, e3, e10, e11, e14]
end K05
end
section
set_option Elab.async false
set_option linter.all false
set_option maxRecDepth 100000
set_option maxHeartbeats 4000000
/-! the law's guard bits; changes -/
namespace K05
open PySem PySem.Spec PyProof.Rows L2 VS
theorem law_with_guard_e {G : List Bool} {d : Nat} (h : GL G d) (l : List Bool) (hl : l.length ≤ 800) (S : Store) (hS : Own S) : F__law_with_guard [.str (bT l), .str (bT G)] S = .ok (.str (bT (WG G d l))) S := by
  have hlen := h.len
  have hf := h.few
  have e1 := len_bT G S (by omega)
  have e2 := mul_bT false d S (by omega)
  have e3 := add_bT l (List.replicate d false) S (by simp; omega)
  have e4 := law_rest_e h (l ++ List.replicate d false) (by simp; omega) S hS
  have e5 := add_bT l (RT G d (l ++ List.replicate d false)) S (by simp [RT]; omega)
  have e6 : (G.length : Int) - 1 = (d : Int) := by omega
  rw [show l ++ RT G d (l ++ List.replicate d false) = WG G d l from rfl] at e5
  unfold F__law_with_guard b__law_with_guard
  rw [runB_e]
  generalize RT G d (l ++ List.replicate d false) = R1 at *
  generalize WG G d l = W1 at *
  generalize List.replicate d false = Z at *
  generalize (G.length : Int) = A at *
  revert e4
  generalize F__law_rest = F2
  intro e4
  simp -implicitDefEqProofs [e1, e6, bT_0, e2, e3, e4, e5]
/-- places -/
def pl (b : Bool) (ps : List Nat) : D := if b then .lst (ps.map fun (i : Nat) => D.int (i : Int)) else .tup (ps.map fun (i : Nat) => D.int (i : Int))
def chg (l : List Bool) (ps : List Nat) : List Bool := (List.range l.length).map fun i => l[i]?.getD false ^^ decide (i ∈ ps)
@[simp] theorem chg_len (l : List Bool) (ps : List Nat) : (chg l ps).length = l.length := by simp [chg]
theorem chg_nil (l : List Bool) : chg l [] = l := by
  apply List.ext_getElem?
  intro i
  unfold chg
  rw [List.getElem?_map]
  by_cases h : i < l.length
  · rw [List.getElem?_range h, List.getElem?_eq_getElem h]
    simp
    rw [List.getElem?_eq_getElem h]
    rfl
  · rw [List.getElem?_eq_none (by simp; omega), List.getElem?_eq_none (by omega)]
    rfl
theorem chg_at (l : List Bool) (ps : List Nat) (i : Nat) (h : i < l.length) : (chg l ps)[i]'(by simpa using h) = (l[i] ^^ decide (i ∈ ps)) := by
  simp [chg, h]
theorem chg_set (l : List Bool) (ps : List Nat) (p : Nat) (h : p < l.length) (hp : p ∉ ps) : (chg l ps).set p (!(chg l ps)[p]'(by simpa using h)) = chg l (ps ++ [p]) := by
  apply List.ext_getElem
  · simp
  · intro i h1 h2
    have hi : i < l.length := by simpa using h2
    rw [chg_at l _ i hi, List.getElem_set]
    by_cases c : p = i
    · subst c
      rw [if_pos rfl, chg_at l ps p h]
      simp [hp]
    · rw [if_neg c, chg_at l ps i hi]
      congr 1
      have : ¬ i = p := fun z => c z.symm
      simp [this]
/-- strictly ascending -/
def Asc (ps : List Nat) : Prop := ps.Pairwise (· < ·)
theorem law_change_e (l : List Bool) (b : Bool) (ps : List Nat) (hl : l.length ≤ 900) (S : Store) : F__law_change [.str (bT l), pl b ps] S = .ok (.str (bT (chg l ps))) S := by
  have e1 := len_bT l S (by omega)
  have hin : ∀ i : Nat, inA (.int (i : Int)) (pl b ps) S = .ok (.bl (decide (i ∈ ps))) S := fun i => by
    have key : ∀ qs : List Nat, ((qs.map fun (i : Nat) => D.int (i : Int)).any fun y => eqFl y (.int (i : Int))) = decide (i ∈ qs) := fun qs => by
      induction qs with
      | nil => rfl
      | cons q qs ih =>
        rw [List.map_cons, List.any_cons, ih]
        have : eqFl (.int (q : Int)) (.int (i : Int)) = decide (q = i) := by
          show ((q : Int) == (i : Int)) = _
          by_cases c : q = i
          · subst c
            simp
          · have c2 : ¬ (q : Int) = (i : Int) := by omega
            simp [c, c2]
        rw [this]
        by_cases c : q = i
        · subst c; simp
        · have : ¬ i = q := fun z => c z.symm
          simp [c, this]
    have fl : ∀ qs : List Nat, (qs.map fun (i : Nat) => D.int (i : Int)).all flatD = true := fun qs => by
      rw [List.all_map, List.all_eq_true]
      intro x _
      rfl
    have e : lookS S (pl b ps) = some (ps.map fun (i : Nat) => D.int (i : Int)) := by cases b <;> rfl
    have e0 : isStrD (pl b ps) = false := by cases b <;> rfl
    unfold inA
    rw [e0, if_neg (by simp)]
    unfold inSq
    rw [e]
    simp only []
    rw [if_pos ⟨rfl, fl ps⟩, key]
    rfl
  have e2 := lc_encA (src := .rng 0 l.length) (gt := gVar 2) (te := (sIf (tTru (sBin inA (sVar 2) (sVar 1))) (sIf (tTru (sBin eqD (sBin ixGet (sVar 0) (sVar 2)) (sC (.str "0")))) (sC (.str "1")) (sC (.str "0"))) (sBin ixGet (sVar 0) (sVar 2)))) (vs := [2]) (ρ := [some (.str (bT l)), some (pl b ps), none]) (S := S) (List.range l.length) (fun (i : Nat) => D.int (i : Int)) (fun i => D.str (bT [l[i]?.getD false ^^ decide (i ∈ ps)])) (fun i => by
      by_cases hi : i < l.length
      · simp [Src.at, hi]
      · simp [Src.at, hi]) (small_size (by simp; omega))
    (fun i hi => ⟨_, rfl, by
      have hi' : i < l.length := by simpa using hi
      have a1 := ix_bT l i hi' S (by omega)
      have a2 := hin i
      have a3 := eq_bT [l[i]] [false] S
      rw [List.getElem?_eq_getElem hi', Option.getD_some]
      generalize l[i] = x at *
      generalize decide (i ∈ ps) = y at *
      generalize pl b ps = q at *
      cases x <;> cases y <;> simp at a3 <;> simp -implicitDefEqProofs [wipeE, a1, a2, bT_0, bT_1, a3]⟩) (m := l.length + 1) (by simp)
  have e3 : (List.range l.length).map (fun i => D.str (bT [l[i]?.getD false ^^ decide (i ∈ ps)])) = (chg l ps).map fun x => D.str (bT [x]) := by simp [chg]
  rw [e3] at e2
  have e4 := join_bT (chg l ps) S (by simp; omega)
  have hb := rngB l.length (by omega)
  unfold F__law_change b__law_change
  rw [runB_e]
  generalize (sIf (tTru (sBin inA (sVar 2) (sVar 1))) (sIf (tTru (sBin eqD (sBin ixGet (sVar 0) (sVar 2)) (sC (.str "0")))) (sC (.str "1")) (sC (.str "0"))) (sBin ixGet (sVar 0) (sVar 2))) = te at *
  generalize (chg l ps).map (fun x => D.str (bT [x])) = R1 at *
  generalize bT (chg l ps) = t at *
  generalize pl b ps = q at *
  simp -implicitDefEqProofs [e1, hb, Src.len, e2, bT_nil, e4]
end K05
end
section
set_option Elab.async false
set_option linter.all false
set_option maxRecDepth 100000
set_option maxHeartbeats 4000000
/-! changes by the program -/
namespace K05
open PySem PySem.Spec PyProof.Rows L2 VS
def isI : D → Bool
  | .int _ => true
  | _ => false
def known : D → Bool
  | .non => true
  | .bl _ => true
  | .int _ => true
  | .str _ => true
  | .lst _ => true
  | .scr _ => true
  | .tup _ => true
  | .dic _ => true
  | _ => false
theorem is_integer_e (d : D) (S : Store) (h : known d = true) : F_is_integer [d] S = .ok (.bl (isI d)) S := by
  unfold F_is_integer b_is_integer
  rw [runB_e]
  cases d <;> simp [known] at h <;> simp -implicitDefEqProofs [isiD, tyD, isOne, VS.subB, lookT, isI]
def isL : D → Bool
  | .lst _ => true
  | .scr _ => true
  | .tup _ => true
  | _ => false
theorem is_listed_e (d : D) (S : Store) (h : known d = true) : F_is_listed [d] S = .ok (.bl (isL d)) S := by
  unfold F_is_listed b_is_listed
  rw [runB_e]
  cases d <;> simp [known] at h <;> simp -implicitDefEqProofs [isiD, tyD, isAny, isOne, VS.subB, lookT, isL]
def within (lo hi : Int) : D → Bool
  | .int i => decide (lo ≤ i) && decide (i ≤ hi)
  | _ => false
theorem is_within_e (d : D) (lo hi : Int) (S : Store) (h : known d = true) : F_is_within [d, .int lo, .int hi] S = .ok (.bl (within lo hi d)) S := by
  have e := is_integer_e d S h
  unfold F_is_within b_is_within
  rw [runB_e]
  revert e
  generalize F_is_integer = F
  intro e
  cases d <;> simp [known] at h <;> simp [isI] at e <;> simp -implicitDefEqProofs [e, within]
  case int i =>
    by_cases h : lo ≤ i <;> simp -implicitDefEqProofs [h]
theorem over_pl (b : Bool) (ps : List Nat) (S : Store) (f : SE) (ρ : VS.Env) (h : f ρ S = .ok (pl b ps) S) : ∃ src, iOver f ρ S = .ok src S ∧ SrcOf S src (ps.map fun (i : Nat) => D.int (i : Int)) ∧ ∀ T, SrcOf T src (ps.map fun (i : Nat) => D.int (i : Int)) := by
  cases b
  · exact ⟨.tup (ps.map fun (i : Nat) => D.int (i : Int)), by rw [over_e, h]; rfl, src_of_tup _ S, fun T => src_of_tup _ T⟩
  · exact ⟨.seq (.lst (ps.map fun (i : Nat) => D.int (i : Int))), by rw [over_e, h]; rfl, src_of_seq rfl, fun T => src_of_seq rfl⟩
theorem rng_len (lo : Int) (n : Nat) (S : Store) : Src.len S (.rng lo n) = n := rfl
theorem is_change_e (b : Bool) (ps : List Nat) (n : Nat) (hp : Asc ps) (hn : ∀ p ∈ ps, p < n) (hl : ps.length ≤ 900) (hn2 : n ≤ 900) (S : Store) : F_is_change [pl b ps, .int (n : Int)] S = .ok (.bl true) S := by
  obtain ⟨src, e1, ⟨e2, e3⟩, _⟩ := over_pl b ps S (sVar 0) [some (pl b ps), some (.int (n : Int)), none, none] rfl
  have e4 := lc_encA (src := src) (gt := gVar 2) (te := sApp 3 F_is_within (aCons (sVar 2) (aCons (sC (.int 0)) (aCons (sBin subD (sVar 1) (sC (.int 1))) aNil)))) (vs := [2]) (ρ := [some (pl b ps), some (.int (n : Int)), none, none]) (S := S) ps (fun (i : Nat) => D.int (i : Int)) (fun _ => .bl true) e2 (small_size (by omega))
    (fun p hp' => ⟨_, rfl, by
      have a := is_within_e (.int (p : Int)) 0 ((n : Int) - 1) S rfl
      have h1 := hn p hp'
      have a2 : within 0 ((n : Int) - 1) (.int (p : Int)) = true := by
        simp [within]
        omega
      rw [a2] at a
      generalize F_is_within = F at *
      generalize pl b ps = q at *
      simp -implicitDefEqProofs [wipeE, a]⟩) (m := src.len S + 1) (by rw [e3]; simp)
  have e5 := all_bools ps (fun _ => true) S
  have e6 : ps.all (fun _ => true) = true := by simp
  rw [e6] at e5
  have e7 : F_is_listed [pl b ps] S = .ok (.bl true) S := by
    cases b
    · exact is_listed_e _ S rfl
    · exact is_listed_e _ S rfl
  have e8 : ∀ (k : Nat) (hk : k < ps.length), ixGet (pl b ps) (.int (k : Int)) S = .ok (.int (ps[k] : Int)) S := fun k hk => by
    have := ixL_e (ps.map fun (i : Nat) => D.int (i : Int)) k (by simpa using hk) S
    rw [List.getElem_map] at this
    cases b
    · exact this
    · exact this
  have e9 : lenD [pl b ps] S = .ok (.int (ps.length : Int)) S := by
    cases b
    · simp [pl]
    · simp [pl]
  have e10 := lc_encA (src := .rng 0 (ps.length - 1)) (gt := gVar 3) (te := (sBin ltD (sBin ixGet (sVar 0) (sVar 3)) (sBin ixGet (sVar 0) (sBin addD (sVar 3) (sC (.int 1)))))) (vs := [3]) (ρ := [some (pl b ps), some (.int (n : Int)), none, none]) (S := S) (List.range (ps.length - 1)) (fun (i : Nat) => D.int (i : Int)) (fun _ => .bl true) (fun i => by
      by_cases hi : i < ps.length - 1
      · simp [Src.at, hi]
      · simp [Src.at, hi]) (small_size (by simp; omega))
    (fun k hk => ⟨_, rfl, by
      have hk' : k < ps.length - 1 := by simpa using hk
      have a1 := e8 k (by omega)
      have a2 := e8 (k + 1) (by omega)
      have a3 : ps[k]'(by omega) < ps[k + 1]'(by omega) := List.pairwise_iff_getElem.mp hp k (k + 1) (by omega) (by omega) (by omega)
      have a4 : ((k + 1 : Nat) : Int) = (k : Int) + 1 := by omega
      rw [a4] at a2
      have a5 : ((ps[k]'(by omega) : Nat) : Int) < ((ps[k + 1]'(by omega) : Nat) : Int) := by omega
      generalize ((ps[k]'(by omega) : Nat) : Int) = x at *
      generalize ((ps[k + 1]'(by omega) : Nat) : Int) = y at *
      generalize pl b ps = q at *
      simp -implicitDefEqProofs [wipeE, a1, a2, a5]⟩) (m := ps.length - 1 + 1) (by simp)
  have e11 := all_bools (List.range (ps.length - 1)) (fun _ => true) S
  have e12 : (List.range (ps.length - 1)).all (fun _ => true) = true := by simp
  rw [e12] at e11
  have hr := rg ((ps.length : Int) - 1) (ps.length - 1) (by omega) (by omega) (by omega)
  unfold F_is_change b_is_change
  rw [runB_e]
  show fin S.length ((sSeq _ _) [some (pl b ps), some (.int (n : Int)), none, none] S) = _
  generalize (sBin ltD (sBin ixGet (sVar 0) (sVar 3)) (sBin ixGet (sVar 0) (sBin addD (sVar 3) (sC (.int 1))))) = t2 at *
  generalize sApp 3 F_is_within (aCons (sVar 2) (aCons (sC (.int 0)) (aCons (sBin subD (sVar 1) (sC (.int 1))) aNil))) = t1 at *
  generalize (ps.map fun x => D.bl true) = R1 at *
  generalize ((List.range (ps.length - 1)).map fun x => D.bl true) = R2 at *
  generalize ps.length - 1 = m at *
  generalize (ps.length : Int) = A at *
  revert e7
  generalize F_is_listed = F
  generalize pl b ps = q at *
  intro e7
  simp -implicitDefEqProofs [-over_e, e7, e1, e4, e5, e9, hr.1, hr.2, rng_len, e10, e11]
theorem with_changes_e (l : List Bool) (b : Bool) (ps : List Nat) (hp : Asc ps) (hn : ∀ p ∈ ps, p < l.length) (hl : l.length ≤ 900) (S : Store) (hS : Own S) : F_with_changes [.str (bT l), pl b ps] S = .ok (.str (bT (chg l ps))) S := by
  have e0 : listFS [.str (bT l)] S = .ok (l.map fun x => D.str (bT [x])) S := by
    unfold listFS
    simp only [bT_size, bT_cps, List.map_map]
    rw [if_pos (by omega)]
    rfl
  obtain ⟨src, e1, e2, e3⟩ := over_pl b ps (S ++ [.lst (l.map fun x => D.str (bT [x]))]) (sVar 1) [some (.str (bT l)), some (pl b ps), some (.cel S.length), none] rfl
  obtain ⟨ρ', S', e, x3, h1, h2⟩ := for_as (as := ps) (enc := fun (i : Nat) => D.int (i : Int)) (src := src) (gt := gVar 3) (body := (sAsg (sIf (tTru (sBin eqD (sBin ixGet (sVar 2) (sVar 3)) (sC (.str "1")))) (sC (.str "0")) (sC (.str "1"))) (gSubD (sVar 2) (sVar 3))))
    (fun pre ρ T => ∃ x3, ρ = [some (.str (bT l)), some (pl b ps), some (.cel S.length), x3] ∧ T = S ++ [.lst ((chg l pre).map fun x => D.str (bT [x]))])
    (fun pre ρ T _ i => (e3 T).1 i)
    (fun pre p post ρ T hps ⟨x3, h1, h2⟩ => by
      subst h1 h2
      refine ⟨_, _, rfl, [some (.str (bT l)), some (pl b ps), some (.cel S.length), some (.int (p : Int))], S ++ [.lst ((chg l (pre ++ [p])).map fun x => D.str (bT [x]))], ?_, _, rfl, rfl⟩
      have hpl : p < l.length := hn p (by rw [hps]; simp)
      have hnp : p ∉ pre := fun hm => by
        have : Asc (pre ++ p :: post) := hps ▸ hp
        have := (List.pairwise_append.mp this).2.2 p hm p (by simp)
        omega
      have g1 := ix_cell S ((chg l pre).map fun x => D.str (bT [x])) p (by simpa using hpl)
      rw [List.getElem_map] at g1
      have g2 := set_cell S ((chg l pre).map fun x => D.str (bT [x])) p (.str (bT [!(chg l pre)[p]'(by simpa using hpl)])) (by simpa using hpl)
      have g3 : ((chg l pre).map fun x => D.str (bT [x])).set p (.str (bT [!(chg l pre)[p]'(by simpa using hpl)])) = (chg l (pre ++ [p])).map fun x => D.str (bT [x]) := by
        rw [← chg_set l pre p hpl hnp, List.map_set]
      rw [g3] at g2
      have g4 := eq_bT [(chg l pre)[p]'(by simpa using hpl)] [true] (S ++ [.lst ((chg l pre).map fun x => D.str (bT [x]))])
      rw [asg_g]
      generalize (chg l pre)[p]'(by simpa using hpl) = u at *
      generalize S ++ [.lst ((chg l pre).map fun x => D.str (bT [x]))] = S1 at *
      generalize S ++ [.lst ((chg l (pre ++ [p])).map fun x => D.str (bT [x]))] = S2 at *
      generalize pl b ps = q at *
      cases u <;> simp at g4 g2 <;> simp -implicitDefEqProofs [gSubD, g1, g4, bT_0, bT_1, g2])
    (m := src.len (S ++ [.lst (l.map fun x => D.str (bT [x]))]) + 1) (ρ := [some (.str (bT l)), some (pl b ps), some (.cel S.length), none]) (S := S ++ [.lst (l.map fun x => D.str (bT [x]))]) (by rw [e2.2]; simp) ⟨none, rfl, by rw [chg_nil]⟩
  subst h1 h2
  have e6 : joinD (.str (bT [])) [.cel S.length] (S ++ [.lst ((chg l ps).map fun x => D.str (bT [x]))]) = .ok (.str (bT (chg l ps))) (S ++ [.lst ((chg l ps).map fun x => D.str (bT [x]))]) := by
    have a := join_bT (chg l ps) (S ++ [.lst ((chg l ps).map fun x => D.str (bT [x]))]) (by simp; omega)
    rw [← a]
    show (match (lookS (S ++ [Cell.lst ((chg l ps).map fun x => D.str (bT [x]))]) (D.cel S.length)).bind strsOf with
      | some ys => if (ys.map (fun y : Str => y.length)).sum + ys.length * (bT []).length ≤ 16777216 then R.ok (D.str (Txt.join (bT []) ys)) (S ++ [Cell.lst ((chg l ps).map fun x => D.str (bT [x]))]) else .bad
      | none => .bad) = _
    have : lookS (S ++ [Cell.lst ((chg l ps).map fun x => D.str (bT [x]))]) (D.cel S.length) = some ((chg l ps).map fun x => D.str (bT [x])) := look_last S _
    rw [this]
    rfl
  have e7 := cut_last hS (.lst ((chg l ps).map fun x => D.str (bT [x]))) (.str (bT (chg l ps))) (by simp [noCel])
  unfold F_with_changes b_with_changes
  rw [runB_e]
  show fin S.length ((sSeq _ _) [some (.str (bT l)), some (pl b ps), none, none] S) = _
  generalize (sAsg (sIf (tTru (sBin eqD (sBin ixGet (sVar 2) (sVar 3)) (sC (.str "1")))) (sC (.str "0")) (sC (.str "1"))) (gSubD (sVar 2) (sVar 3))) = B at *
  generalize ((chg l ps).map fun x => D.str (bT [x])) = R1 at *
  generalize (l.map fun x => D.str (bT [x])) = R2 at *
  generalize bT (chg l ps) = t at *
  generalize pl b ps = q at *
  simp -implicitDefEqProofs [-over_e, e0, e1, e, bT_nil, e6, e7]
theorem changed_e (l : List Bool) (b : Bool) (ps : List Nat) (hp : Asc ps) (hn : ∀ p ∈ ps, p < l.length) (hl : l.length ≤ 900) (h9 : ps.length ≤ 900) (S : Store) (hS : Own S) : F_changed [.str (bT l), pl b ps] S = .ok (.str (bT (chg l ps))) S := by
  have e1 := need_bits_e l (by omega) (.str "bits") S
  have e2 := is_change_e b ps l.length hp hn h9 hl S
  have e3 := with_changes_e l b ps hp hn hl S hS
  have e4 := len_bT l S (by omega)
  unfold F_changed b_changed
  rw [runB_e]
  generalize (l.length : Int) = A at *
  generalize bT (chg l ps) = t at *
  generalize pl b ps = q at *
  revert e1 e2 e3
  generalize F_need_bits = F1
  generalize F_is_change = F2
  generalize F_with_changes = F3
  intro e1 e2 e3
  simp -implicitDefEqProofs [e1, e2, e3, e4]
end K05
end
section
set_option Elab.async false
set_option linter.all false
set_option maxRecDepth 100000
set_option maxHeartbeats 4000000
/-! what is drawn -/
namespace K05
open PySem PySem.Spec PyProof.Rows L2 VS
theorem draws : Draws F__law_draw := drawB_of2 (C := ⟨224477, 9173, 2147483563, 224477, 9173, 5, 2147483399, 7717, 9173, 224477, 3, 2147483477, 64⟩) (by constructor <;> decide) rfl
theorem picks : Picks F__law_pick := picks_of draws rfl
theorem pen_e (ns : List Int) (S : Store) : ∃ p, IsPen 0 p ∧ F__law_pen [.scr (ns.map D.int)] [] = .ok (.cel 0) [p] := by
  refine ⟨Pn (ns.take (min 62 ns.length)) 0 0, ⟨_, _, _, rfl, by omega, by omega⟩, ?_⟩
  unfold F__law_pen b__law_pen
  rw [runB_e]
  have e : ∀ T : Store, slD (.scr (ns.map D.int)) none (some 62) T = .ok (.lst (row (ns.take (min 62 ns.length)))) T := fun T => by
    show R.ok (D.lst (VS.cutD (ns.map D.int) none (some 62))) T = _
    have : VS.cutD (ns.map D.int) none (some 62) = row (ns.take (min 62 ns.length)) := by
      unfold VS.cutD
      have h1 := HT.sIx_nat (ns.map D.int).length (ns.map D.int).length 62
      rw [HT.sIx_none, show (some 62 : Option Int) = some ((62 : Nat) : Int) from rfl, h1]
      simp [row, List.map_take]
    rw [this]
  have hc : cut 0 (.cel 0) [Pn (ns.take (min 62 ns.length)) 0 0] = .ok (.cel 0) [Pn (ns.take (min 62 ns.length)) 0 0] := by
    unfold cut
    simp [D.und]
  have e2 := lc_encA (src := .seq (.lst (row (ns.take (min 62 ns.length))))) (gt := gVar 1) (te := sCall intD (aCons (sVar 1) aNil)) (vs := [1]) (ρ := [some (.scr (ns.map D.int)), none]) (S := []) (ns.take (min 62 ns.length)) D.int D.int (fun i => rfl) (small_size (by simp; omega)) (fun a ha => ⟨_, rfl, by simp [wipeE]⟩) (m := (ns.take (min 62 ns.length)).length + 1) (by omega)
  rw [show (ns.take (min 62 ns.length)).map D.int = row (ns.take (min 62 ns.length)) from rfl] at e2
  generalize hr : row (ns.take (min 62 ns.length)) = rw' at *
  have hl : rw'.length = (ns.take (min 62 ns.length)).length := by rw [← hr, row_len]
  rw [← hl] at e2
  rw [show Pn (ns.take (min 62 ns.length)) 0 0 = .lst [.lst rw', .int 0, .int 0] by rw [← hr]; rfl] at hc ⊢
  simp -implicitDefEqProofs [e, Src.len, e2]
  exact hc
theorem pick01 {N : Nat} {p : Cell} (T : Store) (hp : IsPen N p) (hN : N ≤ 1000000) : ∃ (b : Bool) (p' : Cell), IsPen (N + 1) p' ∧ F__law_pick [.cel 0, .str (Str.ofString "01")] (p :: T) = .ok (.str (bT [b])) (p' :: T) := by
  obtain ⟨r, p', r0, r1, hp', e⟩ := draws N 2 p T hp hN (by omega) (by decide)
  obtain ⟨j, rfl⟩ := Int.eq_ofNat_of_zero_le r0
  have hj : j < 2 := by omega
  have e2 := ix_bT [false, true] j (by simpa using hj) (p' :: T) (by decide)
  refine ⟨[false, true][j], p', hp', ?_⟩
  unfold F__law_pick b__law_pick
  rw [runB_e]
  have e3 := len_bT [false, true] (p :: T) (by decide)
  simp at e3
  revert e
  generalize F__law_draw = F
  intro e
  simp -implicitDefEqProofs [bT_01, e3, e, e2]
/-- so many drawn bits, joined -/
theorem many01 {N : Nat} {p : Cell} (T : Store) (n k : Nat) (ρ : VS.Env) (h0 : (wipeE ρ [k])[0]? = some (some (.cel 0))) (hk : k ≠ 0) (hp : IsPen N p) (hN : N + n ≤ 900000) (hn : n ≤ 1000) : ∃ (l : List Bool) (p' : Cell), l.length = n ∧ IsPen (N + n) p' ∧
    lcS (.rng 0 n) (gVar k) tAll (sApp 2 F__law_pick (aCons (sVar 0) (aCons (sC (.str "01")) aNil))) [k] ρ (n + 1) 0 [] (p :: T) = .ok (l.map fun b => D.str (bT [b])) (p' :: T) := by
  obtain ⟨acc, S', e, l, q, h1, h2, h3, h4⟩ := lcS_move (src := .rng 0 n) (gt := gVar k) (tt := tAll) (te := sApp 2 F__law_pick (aCons (sVar 0) (aCons (sC (.str "01")) aNil))) (vs := [k]) (ρ := ρ)
    (fun i acc S => ∃ (l : List Bool) (q : Cell), l.length = i ∧ acc = l.map (fun b => D.str (bT [b])) ∧ S = q :: T ∧ IsPen (N + i) q) n
    (fun i acc S hi ⟨l, q, h1, h2, h3, h4⟩ => by
      subst h2 h3
      obtain ⟨b, q', h5, e⟩ := pick01 T h4 (by omega)
      refine ⟨.int (i : Int), by simp [Src.at, hi], _, _, rfl, true, _, rfl, ?_⟩
      rw [if_pos rfl]
      have g0 : ((wipeE ρ [k]).set k (some (.int (i : Int))))[0]? = some (some (.cel 0)) := by
        rw [List.getElem?_set_ne hk]
        exact h0
      refine ⟨small_size (by simp; omega), .str (bT [b]), q' :: T, ?_, l ++ [b], q', by simp; omega, by simp, rfl, h5⟩
      generalize (wipeE ρ [k]).set k (some (.int (i : Int))) = ρ1 at *
      generalize F__law_pick = F at *
      simp -implicitDefEqProofs [g0, e])
    (fun acc S _ => by simp [Src.at]) (n + 1) 0 [] (p :: T) (by omega) (by omega) ⟨[], p, rfl, rfl, rfl, hp⟩
  subst h2 h3
  exact ⟨l, q, h1, h4, e⟩
theorem bits_e {N : Nat} {p : Cell} (T : Store) (n : Nat) (hp : IsPen N p) (hN : N + n ≤ 900000) (hn : n ≤ 1000) : ∃ (l : List Bool) (p' : Cell), l.length = n ∧ IsPen (N + n) p' ∧ F__law_bits [.cel 0, .int (n : Int)] (p :: T) = .ok (.str (bT l)) (p' :: T) := by
  obtain ⟨l, q, h1, h2, e⟩ := many01 T n 2 [some (.cel 0), some (.int (n : Int)), none] rfl (by decide) hp hN hn
  refine ⟨l, q, h1, h2, ?_⟩
  unfold F__law_bits b__law_bits
  rw [runB_e]
  have a1 := join_bT l (q :: T) (by omega)
  generalize sApp 2 F__law_pick (aCons (sVar 0) (aCons (sC (.str "01")) aNil)) = te at *
  simp -implicitDefEqProofs [rngB n (by omega), rng_len, bT_nil]
  rw [e]
  simp -implicitDefEqProofs [a1]
theorem guard_e {N : Nat} {p : Cell} (T : Store) (hp : IsPen N p) (hN : N ≤ 800000) : ∃ (G : List Bool) (d : Nat) (p' : Cell), GL G d ∧ IsPen (N + 17) p' ∧ F__law_guard [.cel 0] (p :: T) = .ok (.str (bT G)) (p' :: T) := by
  obtain ⟨k, p1, k0, k1, hp1, e1⟩ := draws N 16 p T hp (by omega) (by omega) (by decide)
  obtain ⟨k, rfl⟩ := Int.eq_ofNat_of_zero_le k0
  obtain ⟨m, p2, hm, hp2, e2⟩ := many01 T k 1 [some (.cel 0), none] rfl (by decide) hp1 (by omega) (by omega)
  refine ⟨true :: (m ++ [true]), k + 1, p2, ⟨⟨m, rfl, by omega⟩, by omega⟩, hp2.mono (by omega), ?_⟩
  have a1 := join_bT m (p2 :: T) (by omega)
  have a2 := add_bT [true] m (p2 :: T) (by simp; omega)
  have a3 := add_bT ([true] ++ m) [true] (p2 :: T) (by simp; omega)
  rw [show ([true] ++ m) ++ [true] = true :: (m ++ [true]) from rfl] at a3
  unfold F__law_guard b__law_guard
  rw [runB_e]
  generalize bT (true :: (m ++ [true])) = t at *
  generalize bT ([true] ++ m) = t2 at *
  revert e1
  generalize sApp 2 F__law_pick (aCons (sVar 0) (aCons (sC (.str "01")) aNil)) = te at *
  generalize F__law_draw = F
  intro e1
  simp -implicitDefEqProofs [e1, rngB k (by omega), rng_len, bT_nil, bT_1]
  rw [e2]
  simp -implicitDefEqProofs [a1, a2, a3]
end K05
end
section
set_option Elab.async false
set_option linter.all false
set_option maxRecDepth 100000
set_option maxHeartbeats 4000000
/-! sums, drawn places -/
namespace K05
open PySem PySem.Spec PyProof.Rows L2 VS
theorem law_sum_e (a b : List Bool) (h : a.length = b.length) (hl : a.length ≤ 900) (S : Store) : F__law_sum [.str (bT a), .str (bT b)] S = .ok (.str (bT (List.zipWith Bool.xor a b))) S := by
  have e1 := len_bT a S (by omega)
  have e2 := lc_encA (src := .rng 0 a.length) (gt := gVar 2) (te := (sBin ixGet (sC (.str "01")) (sCall intD (aCons (sBin neD (sBin ixGet (sVar 0) (sVar 2)) (sBin ixGet (sVar 1) (sVar 2))) aNil)))) (vs := [2]) (ρ := [some (.str (bT a)), some (.str (bT b)), none]) (S := S) (List.range a.length) (fun (i : Nat) => D.int (i : Int)) (fun i => D.str (bT [(a[i]?.getD false) ^^ (b[i]?.getD false)])) (fun i => by
      by_cases hi : i < a.length
      · simp [Src.at, hi]
      · simp [Src.at, hi]) (small_size (by simp; omega))
    (fun i hi => ⟨_, rfl, by
      have hi' : i < a.length := by simpa using hi
      have a1 := ix_bT a i hi' S (by omega)
      have a2 := ix_bT b i (by omega) S (by omega)
      have a3 := ne_bT [a[i]] [b[i]'(by omega)] S
      have a4 := ix_bT [false, true] 0 (by simp) S (by simp)
      have a5 := ix_bT [false, true] 1 (by simp) S (by simp)
      rw [List.getElem?_eq_getElem hi', List.getElem?_eq_getElem (by omega : i < b.length), Option.getD_some, Option.getD_some]
      generalize a[i] = x at *
      generalize b[i]'(by omega) = y at *
      simp at a4 a5
      cases x <;> cases y <;> simp at a3 <;> simp -implicitDefEqProofs [wipeE, a1, a2, a3, bT_01, a4, a5]⟩) (m := a.length + 1) (by simp)
  have e3 : (List.range a.length).map (fun i => D.str (bT [(a[i]?.getD false) ^^ (b[i]?.getD false)])) = (List.zipWith Bool.xor a b).map fun x => D.str (bT [x]) := by
    apply List.ext_getElem
    · simp [h]
    · intro i h1 h2
      have g1 : i < a.length := by simpa using h1
      simp [g1, (by omega : i < b.length)]
  rw [e3] at e2
  have e4 := join_bT (List.zipWith Bool.xor a b) S (by simp; omega)
  have hb := rngB a.length (by omega)
  unfold F__law_sum b__law_sum
  rw [runB_e]
  generalize (sBin ixGet (sC (.str "01")) (sCall intD (aCons (sBin neD (sBin ixGet (sVar 0) (sVar 2)) (sBin ixGet (sVar 1) (sVar 2))) aNil))) = te at *
  generalize (List.zipWith Bool.xor a b).map (fun x => D.str (bT [x])) = R1 at *
  generalize bT (List.zipWith Bool.xor a b) = t at *
  simp -implicitDefEqProofs [e1, hb, rng_len, e2, bT_nil, e4]
/-- drawn places: the first one, others within so many -/
structure Plc (ps : List Nat) (f m w : Nat) : Prop where
  ex : ∃ qs, ps = f :: qs ∧ ∀ q ∈ qs, f < q ∧ q < f + w ∧ q < m
  asc : Asc ps
  lt : f < m
theorem places_e {N m w : Nat} {p : Cell} (T : Store) (hm : 1 ≤ m) (hm2 : m ≤ 900) (hw : 1 ≤ w) (hw2 : w ≤ 100) (hp : IsPen N p) (hN : N ≤ 800000) : ∃ (ps : List Nat) (f : Nat) (p' : Cell), Plc ps f m w ∧ ps.length ≤ 200 ∧ IsPen (N + 101) p' ∧ F__law_places [.cel 0, .int (m : Int), .int (w : Int)] (p :: T) = .ok (pl true ps) (p' :: T) := by
  obtain ⟨f, p1, f0, f1, hp1, e1⟩ := draws N m p T hp (by omega) (by omega) (by omega)
  obtain ⟨f, rfl⟩ := Int.eq_ofNat_of_zero_le f0
  have hf : f < m := by omega
  obtain ⟨r, hr⟩ : ∃ r : Nat, r = min w (m - f) := ⟨_, rfl⟩
  have hr1 : 1 ≤ r := by omega
  have hr2 : r ≤ w := by omega
  have hr3 : f + r ≤ m := by omega
  have e2 : ∀ S, minD [.int (w : Int), .int ((m : Int) - (f : Int))] S = .ok (.int (r : Int)) S := fun S => by
    show R.ok (D.int (if (m : Int) - (f : Int) < (w : Int) then (m : Int) - (f : Int) else (w : Int))) S = _
    congr 2
    split <;> omega
  obtain ⟨acc, S', e, qs, q, h1, h2, h3, h4, h5, h6⟩ := lcS_move (src := .rng 1 (r - 1)) (gt := gVar 5) (tt := (tTru (sBin eqD (sApp 2 F__law_draw (aCons (sVar 0) (aCons (sC (.int 2)) aNil))) (sC (.int 0))))) (te := (sBin addD (sVar 3) (sVar 5))) (vs := [5]) (ρ := [some (.cel 0), some (.int (m : Int)), some (.int (w : Int)), some (.int (f : Int)), some (.int (r : Int)), none])
    (fun i acc S => ∃ (qs : List Nat) (q : Cell), acc = qs.map (fun (i : Nat) => D.int (i : Int)) ∧ S = q :: T ∧ IsPen (N + 1 + i) q ∧ (∀ x ∈ qs, f < x ∧ x < f + 1 + i) ∧ Asc qs ∧ qs.length ≤ i) (r - 1)
    (fun i acc S hi ⟨qs, q, h2, h3, h4, h5, h6, h7⟩ => by
      subst h2 h3
      obtain ⟨k, q', k0, k1, h8, e⟩ := draws (N + 1 + i) 2 q T h4 (by omega) (by omega) (by decide)
      obtain ⟨k, rfl⟩ := Int.eq_ofNat_of_zero_le k0
      refine ⟨.int (1 + (i : Int)), by simp [Src.at, hi], _, _, rfl, (decide ((k : Int) = 0)), q' :: T, ?_, ?_⟩
      · simp -implicitDefEqProofs [wipeE, e]
        by_cases c : k = 0
        · subst c; rfl
        · have c2 : ¬ (k : Int) = 0 := by omega
          simp [c, c2]
      · by_cases c : k = 0
        · subst c
          rw [if_pos (by simp)]
          refine ⟨small_size (by simp; omega), .int ((f + 1 + i : Nat) : Int), q' :: T, ?_, qs ++ [f + 1 + i], q', by simp, rfl, h8, ?_, ?_, by simp; omega⟩
          · have : (f : Int) + (1 + (i : Int)) = ((f + 1 + i : Nat) : Int) := by omega
            generalize ((f + 1 + i : Nat) : Int) = z at *
            simp -implicitDefEqProofs [wipeE, this]
          · intro x hx
            simp at hx
            rcases hx with hx | rfl
            · have := h5 x hx
              omega
            · omega
          · refine List.pairwise_append.mpr ⟨h6, List.pairwise_singleton _ _, fun x hx y hy => ?_⟩
            have := h5 x hx
            simp at hy
            omega
        · rw [if_neg (by simp; omega)]
          exact ⟨qs, q', rfl, rfl, h8, fun x hx => by have := h5 x hx; omega, h6, by omega⟩)
    (fun acc S _ => by simp [Src.at]) (r - 1 + 1) 0 [] (p1 :: T) (by omega) (by omega) ⟨[], p1, rfl, rfl, hp1, by simp, List.Pairwise.nil, by simp⟩
  subst h1 h2
  refine ⟨f :: qs, f, q, ⟨⟨qs, rfl, fun x hx => by have := h4 x hx; omega⟩, List.pairwise_cons.mpr ⟨fun x hx => (h4 x hx).1, h5⟩, hf⟩, by simp; omega, h3.mono (by omega), ?_⟩
  have hr4 : ((r : Int) - 1).toNat = r - 1 := by omega
  have hb : (-(4611686018427387904 : Int) ≤ 1 ∧ (1 : Int) < 4611686018427387904 ∧ -(4611686018427387904 : Int) ≤ (r : Int) ∧ (r : Int) < 4611686018427387904) := ⟨by omega, by omega, by omega, by omega⟩
  have e3 : addD (.lst [.int (f : Int)]) (.lst (qs.map fun (i : Nat) => D.int (i : Int))) (q :: T) = .ok (.lst ((f :: qs).map fun (i : Nat) => D.int (i : Int))) (q :: T) := by
    show fitL ([.int (f : Int)] ++ qs.map fun (i : Nat) => D.int (i : Int)) (q :: T) = _
    unfold fitL
    rw [if_pos (Nat.le_of_lt (small_size (by simp; omega)))]
    rfl
  have e4 : iRange2 (aCons (sC (.int 1)) (aCons (sVar 4) aNil)) [some (.cel 0), some (.int (m : Int)), some (.int (w : Int)), some (.int (f : Int)), some (.int (r : Int)), none] (p1 :: T) = .ok (.rng 1 (r - 1)) (p1 :: T) := by
    unfold iRange2
    generalize r - 1 = r1 at *
    simp -implicitDefEqProofs [hb, hr4]
  unfold F__law_places b__law_places
  rw [runB_e]
  show fin (T.length + 1) ((sSeq _ (sSeq _ _)) [some (.cel 0), some (.int (m : Int)), some (.int (w : Int)), none, none, none] (p :: T)) = _
  have s1 : (sAsg (sApp 2 F__law_draw (aCons (sVar 0) (aCons (sVar 1) aNil))) (gVar 3)) [some (.cel 0), some (.int (m : Int)), some (.int (w : Int)), none, none, none] (p :: T) = .nx [some (.cel 0), some (.int (m : Int)), some (.int (w : Int)), some (.int (f : Int)), none, none] (p1 :: T) := by
    generalize F__law_draw = F at *
    simp -implicitDefEqProofs [e1]
  have s2 : (sAsg (sCall minD (aCons (sVar 2) (aCons (sBin subD (sVar 1) (sVar 3)) aNil))) (gVar 4)) [some (.cel 0), some (.int (m : Int)), some (.int (w : Int)), some (.int (f : Int)), none, none] (p1 :: T) = .nx [some (.cel 0), some (.int (m : Int)), some (.int (w : Int)), some (.int (f : Int)), some (.int (r : Int)), none] (p1 :: T) := by
    simp -implicitDefEqProofs [e2]
  rw [seqS_e, s1, seq_nx, seqS_e, s2, seq_nx]
  clear s1 s2
  rw [show pl true (f :: qs) = .lst ((f :: qs).map fun (i : Nat) => D.int (i : Int)) from rfl]
  generalize (tTru (sBin eqD (sApp 2 F__law_draw (aCons (sVar 0) (aCons (sC (.int 2)) aNil))) (sC (.int 0)))) = tt at *
  generalize iRange2 (aCons (sC (.int 1)) (aCons (sVar 4) aNil)) = fi at *
  generalize (f :: qs).map (fun (i : Nat) => D.int (i : Int)) = R1 at *
  generalize qs.map (fun (i : Nat) => D.int (i : Int)) = R2 at *
  generalize sBin addD (sVar 3) (sVar 5) = te at *
  simp -implicitDefEqProofs [e4, rng_len, e, e3]
end K05
end
section
set_option Elab.async false
set_option linter.all false
set_option maxRecDepth 100000
set_option maxHeartbeats 4000000
/-! a turn of the law: its beginning -/
namespace K05
open PySem PySem.Spec PyProof.Rows L2 VS
noncomputable abbrev lr1 : SS := (sAsg (sApp 1 F__law_guard (aCons (sVar 0) aNil)) (gVar 1))
noncomputable abbrev lr2 : SS := (sAsg (sBin subD (sCall lenD (aCons (sVar 1) aNil)) (sC (.int 1))) (gVar 2))
noncomputable abbrev lr3 : SS := (sAsg (sApp 2 F__law_bits (aCons (sVar 0) (aCons (sApp 2 F__law_pick (aCons (sVar 0) (aCons (immF (fLst (aCons (sC (.int 0)) (aCons (sC (.int 1)) (aCons (sVar 2) (aCons (sBin addD (sVar 2) (sC (.int 1))) (aCons (sC (.int 40)) (aCons (sApp 2 F__law_draw (aCons (sVar 0) (aCons (sC (.int 90)) aNil))) aNil)))))))) aNil))) aNil))) (gVar 3))
noncomputable abbrev lr4 : SS := (sIte (tOrF (tTru (sBin neD (sApp 2 F_rest_by (aCons (sVar 1) (aCons (sVar 3) aNil))) (sApp 2 F__law_rest (aCons (sVar 3) (aCons (sVar 1) aNil))))) (tOrF (tTru (sBin neD (sAppK 2 0 2 [1, 0] F_rest_by aNil (aCons (sVar 3) (aCons (sVar 1) aNil))) (sApp 2 F__law_rest (aCons (sVar 3) (aCons (sVar 1) aNil))))) (tTru (sBin neD (sAppK 2 0 2 [1, 0] F_with_guard aNil (aCons (sVar 3) (aCons (sVar 1) aNil))) (sApp 2 F__law_with_guard (aCons (sVar 3) (aCons (sVar 1) aNil))))))) (sRet (sC (.bl false))) sSkip)
noncomputable abbrev lr5 : SS := (sAsg (sApp 2 F_with_guard (aCons (sVar 1) (aCons (sBin addD (sVar 3) (sC (.str "1"))) aNil))) (gVar 4))
noncomputable abbrev lr6 : SS := (sIte (tOrF (tTru (sBin neD (sApp 2 F_rest_by (aCons (sVar 1) (aCons (sVar 4) aNil))) (sBin mulA (sC (.str "0")) (sVar 2)))) (tTru (sBin neD (sCall lenD (aCons (sVar 4) aNil)) (sBin addD (sBin addD (sCall lenD (aCons (sVar 3) aNil)) (sC (.int 1))) (sVar 2))))) (sRet (sC (.bl false))) sSkip)
noncomputable abbrev lr7 : SS := (sAsg (immF (fCall sortedF (aCons (immF (fLc (iRange1 (aCons (sCall lenD (aCons (sVar 4) aNil)) aNil)) (gVar 5) (tTru (sBin eqD (sApp 2 F__law_draw (aCons (sVar 0) (aCons (sC (.int 4)) aNil))) (sC (.int 0)))) (sVar 5) [5])) aNil))) (gVar 6))
noncomputable abbrev lr8 : SS := (sAsg (sBin mulA (sC (.str "0")) (sCall lenD (aCons (sVar 4) aNil))) (gVar 7))
noncomputable abbrev lr9 : SS := (sAsg (sApp 2 F_changed (aCons (sVar 4) (aCons (sCall tupleD (aCons (sVar 6) aNil)) aNil))) (gVar 8))
noncomputable abbrev lr10 : SS := (sIte (tOrF (tTru (sBin neD (sVar 8) (sApp 2 F__law_change (aCons (sVar 4) (aCons (sVar 6) aNil))))) (tTru (sBin neD (sApp 2 F_rest_by (aCons (sVar 1) (aCons (sVar 8) aNil))) (sApp 2 F_rest_by (aCons (sVar 1) (aCons (sApp 2 F_changed (aCons (sVar 7) (aCons (sVar 6) aNil))) aNil)))))) (sRet (sC (.bl false))) sSkip)
noncomputable abbrev lr11 : SS := (sIte (tTru (sBin neD (sApp 2 F_rest_by (aCons (sVar 1) (aCons (sApp 2 F__law_change (aCons (sBin addD (sVar 3) (sC (.str "1"))) (aCons (immF (fLst (aCons (sC (.int 0)) aNil))) aNil))) aNil))) (sApp 2 F__law_sum (aCons (sApp 2 F_rest_by (aCons (sVar 1) (aCons (sBin addD (sVar 3) (sC (.str "1"))) aNil))) (aCons (sApp 2 F_rest_by (aCons (sVar 1) (aCons (sBin addD (sC (.str "1")) (sBin mulA (sC (.str "0")) (sCall lenD (aCons (sVar 3) aNil)))) aNil))) aNil))))) (sRet (sC (.bl false))) sSkip)
noncomputable abbrev lr12 : SS := (sAsg (sApp 3 F__law_places (aCons (sVar 0) (aCons (sCall lenD (aCons (sVar 4) aNil)) (aCons (sVar 2) aNil)))) (gVar 9))
noncomputable abbrev lr13 : SS := (sIte (tOrF (tTru (sBin neD (sAppK 2 0 2 [1, 0] F_changed aNil (aCons (sVar 9) (aCons (sVar 4) aNil))) (sApp 2 F__law_change (aCons (sVar 4) (aCons (sVar 9) aNil))))) (tTru (sBin ninA (sC (.str "1")) (sApp 2 F_rest_by (aCons (sVar 1) (aCons (sApp 2 F_changed (aCons (sVar 4) (aCons (sVar 9) aNil))) aNil)))))) (sRet (sC (.bl false))) sSkip)
noncomputable abbrev lr14 : SS := (sAsg (sApp 2 F__law_draw (aCons (sVar 0) (aCons (sBin subD (sCall lenD (aCons (sVar 4) aNil)) (sVar 2)) aNil))) (gVar 5))
noncomputable abbrev lr15 : SS := (sAsg (immF (fLc (iRange1 (aCons (sBin addD (sVar 2) (sC (.int 1))) aNil)) (gVar 10) (tTru (sBin eqD (sBin ixGet (sVar 1) (sVar 10)) (sC (.str "1")))) (sBin addD (sVar 5) (sVar 10)) [10])) (gVar 11))
noncomputable abbrev lr16 : SS := (sAsg (sApp 3 F__law_places (aCons (sVar 0) (aCons (sCall lenD (aCons (sVar 4) aNil)) (aCons (sBin addD (sVar 2) (sC (.int 1))) aNil)))) (gVar 12))
noncomputable abbrev lr17 : SS := (sAsg (sBin eqD (sVar 12) (immF (fLc (iRange1 (aCons (sBin addD (sVar 2) (sC (.int 1))) aNil)) (gVar 10) (tTru (sBin eqD (sBin ixGet (sVar 1) (sVar 10)) (sC (.str "1")))) (sBin addD (sBin ixGet (sVar 12) (sC (.int 0))) (sVar 10)) [10]))) (gVar 13))
noncomputable abbrev lr18 : SS := (sAsg (immF (fLc (iOver (sTup (aCons (sVar 11) (aCons (sVar 12) aNil)))) (gVar 14) tAll (sBin inA (sC (.str "1")) (sApp 2 F_rest_by (aCons (sVar 1) (aCons (sApp 2 F_changed (aCons (sVar 4) (aCons (sVar 14) aNil))) aNil)))) [14])) (gVar 15))
noncomputable abbrev lr19 : SS := (sRet (sAnd (sBin eqD (sVar 15) (immF (fLst (aCons (sC (.bl false)) (aCons (sNot (sVar 13)) aNil))))) (sApp 3 F__law_refused (aCons (sVar 0) (aCons (sVar 1) (aCons (sVar 4) aNil))))))
theorem lr_all : b__law_right = (sSeq lr1 (sSeq lr2 (sSeq lr3 (sSeq lr4 (sSeq lr5 (sSeq lr6 (sSeq lr7 (sSeq lr8 (sSeq lr9 (sSeq lr10 (sSeq lr11 (sSeq lr12 (sSeq lr13 (sSeq lr14 (sSeq lr15 (sSeq lr16 (sSeq lr17 (sSeq lr18 lr19)))))))))))))))))) := rfl
theorem digs_zero (d : Nat) : digs 0 d = List.replicate d false := by
  apply val_inj _ _ (by simp)
  rw [val_digs, Nat.zero_mod]
  have := zeros_val d []
  rw [List.append_nil] at this
  rw [this]
  rfl
theorem WG_len (G l : List Bool) (d : Nat) : (WG G d l).length = l.length + d := by simp [WG, RT]
theorem RT_len (G l : List Bool) (d : Nat) : (RT G d l).length = d := by simp [RT]
theorem RT_WG {G : List Bool} {d : Nat} (h : GL G d) (l : List Bool) : RT G d (WG G d l) = List.replicate d false := by
  unfold RT WG RT
  rw [rst_guarded h.gd, digs_zero]
abbrev Ev (g d b t : Option D) : VS.Env := [some (.cel 0), g, d, b, t, none, none, none, none, none, none, none, none, none, none, none]
theorem lr1_e {N : Nat} {p : Cell} (hp : IsPen N p) (hN : N ≤ 800000) : ∃ (G : List Bool) (d : Nat) (p' : Cell), GL G d ∧ IsPen (N + 17) p' ∧ lr1 (Ev none none none none) [p] = .nx (Ev (some (.str (bT G))) none none none) [p'] := by
  obtain ⟨G, d, p1, hG, hp1, e⟩ := guard_e [] hp hN
  refine ⟨G, d, p1, hG, hp1, ?_⟩
  unfold lr1
  generalize F__law_guard = F at *
  simp -implicitDefEqProofs [e]
theorem lr2_e {G : List Bool} {d : Nat} (h : GL G d) (p : Cell) : lr2 (Ev (some (.str (bT G))) none none none) [p] = .nx (Ev (some (.str (bT G))) (some (.int (d : Int))) none none) [p] := by
  have hl := h.len
  have hf := h.few
  have e := len_bT G [p] (by omega)
  have e2 : (G.length : Int) - 1 = (d : Int) := by omega
  unfold lr2
  generalize (G.length : Int) = A at *
  simp -implicitDefEqProofs [e, e2]
theorem lr3_e {G : List Bool} {d N : Nat} {p : Cell} (h : GL G d) (hp : IsPen N p) (hN : N ≤ 700000) : ∃ (l : List Bool) (p' : Cell), l.length ≤ 90 ∧ IsPen (N + 92) p' ∧ lr3 (Ev (some (.str (bT G))) (some (.int (d : Int))) none none) [p] = .nx (Ev (some (.str (bT G))) (some (.int (d : Int))) (some (.str (bT l))) none) [p'] := by
  have hf := h.few
  obtain ⟨k, p1, k0, k1, hp1, e1⟩ := draws N 90 p [] hp (by omega) (by omega) (by decide)
  obtain ⟨x, p2, hx, hp2, e2⟩ := picks (N + 1) p1 [] [.int 0, .int 1, .int (d : Int), .int ((d : Int) + 1), .int 40, .int k] hp1 (by omega) (by simp) (by simp)
  have hy : ∃ n : Nat, x = .int (n : Int) ∧ n ≤ 90 := by
    simp only [List.mem_cons, List.not_mem_nil, or_false] at hx
    rcases hx with rfl | rfl | rfl | rfl | rfl | rfl
    · exact ⟨0, rfl, by omega⟩
    · exact ⟨1, rfl, by omega⟩
    · exact ⟨d, rfl, by omega⟩
    · exact ⟨d + 1, rfl, by omega⟩
    · exact ⟨40, rfl, by omega⟩
    · exact ⟨k.toNat, by rw [Int.toNat_of_nonneg k0], by omega⟩
  obtain ⟨n, rfl, hn⟩ := hy
  obtain ⟨l, p3, hl, hp3, e3⟩ := bits_e [] n hp2 (by omega) (by omega)
  refine ⟨l, p3, by omega, hp3.mono (by omega), ?_⟩
  unfold lr3
  clear hx
  generalize F__law_draw = F1 at *
  generalize F__law_pick = F2 at *
  generalize F__law_bits = F3 at *
  simp -implicitDefEqProofs [e1, e2, e3]
theorem lr4_e {G : List Bool} {d : Nat} {l : List Bool} (h : GL G d) (hl : l.length ≤ 90) (p : Cell) (hS : Own [p]) : lr4 (Ev (some (.str (bT G))) (some (.int (d : Int))) (some (.str (bT l))) none) [p] = .nx (Ev (some (.str (bT G))) (some (.int (d : Int))) (some (.str (bT l))) none) [p] := by
  have e1 := rest_by_e h l (by omega) [p]
  have e2 := law_rest_e h l (by omega) [p] hS
  have e3 := with_guard_e h l (by omega) [p]
  have e4 := law_with_guard_e h l (by omega) [p] hS
  have e5 := ne_bT (RT G d l) (RT G d l) [p]
  have e6 := ne_bT (WG G d l) (WG G d l) [p]
  simp only [decide_true, Bool.not_true] at e5 e6
  unfold lr4
  generalize RT G d l = R1 at *
  generalize WG G d l = R2 at *
  generalize F_rest_by = F1 at *
  generalize F__law_rest = F2 at *
  generalize F_with_guard = F3 at *
  generalize F__law_with_guard = F4 at *
  simp -implicitDefEqProofs [e1, e2, e3, e4, e5, e6, ordL]
theorem lr5_e {G : List Bool} {d : Nat} {l : List Bool} (h : GL G d) (hl : l.length ≤ 90) (p : Cell) : lr5 (Ev (some (.str (bT G))) (some (.int (d : Int))) (some (.str (bT l))) none) [p] = .nx (Ev (some (.str (bT G))) (some (.int (d : Int))) (some (.str (bT l))) (some (.str (bT (WG G d (l ++ [true])))))) [p] := by
  have e1 := add_bT l [true] [p] (by simp; omega)
  have e2 := with_guard_e h (l ++ [true]) (by simp; omega) [p]
  unfold lr5
  generalize WG G d (l ++ [true]) = R2 at *
  generalize F_with_guard = F3 at *
  simp -implicitDefEqProofs [bT_1, e1, e2]
theorem lr6_e {G : List Bool} {d : Nat} {l : List Bool} (h : GL G d) (hl : l.length ≤ 90) (p : Cell) : lr6 (Ev (some (.str (bT G))) (some (.int (d : Int))) (some (.str (bT l))) (some (.str (bT (WG G d (l ++ [true])))))) [p] = .nx (Ev (some (.str (bT G))) (some (.int (d : Int))) (some (.str (bT l))) (some (.str (bT (WG G d (l ++ [true])))))) [p] := by
  have hf := h.few
  have hw := WG_len G (l ++ [true]) d
  have e1 := rest_by_e h (WG G d (l ++ [true])) (by simp at hw; omega) [p]
  rw [RT_WG h] at e1
  have e2 := mul_bT false d [p] (by omega)
  have e3 := ne_bT (List.replicate d false) (List.replicate d false) [p]
  have e4 := len_bT (WG G d (l ++ [true])) [p] (by simp at hw; omega)
  have e5 := len_bT l [p] (by omega)
  have e6 : (l.length : Int) + 1 + (d : Int) = ((WG G d (l ++ [true])).length : Int) := by simp at hw; omega
  simp only [decide_true, Bool.not_true] at e3
  unfold lr6
  generalize ((WG G d (l ++ [true])).length : Int) = A at *
  generalize WG G d (l ++ [true]) = R2 at *
  generalize List.replicate d false = Z at *
  generalize (l.length : Int) = B at *
  generalize F_rest_by = F1 at *
  simp -implicitDefEqProofs [e1, bT_0, e2, e3, e4, e5, e6]
end K05
end
section
set_option Elab.async false
set_option linter.all false
set_option maxRecDepth 100000
set_option maxHeartbeats 4000000
/-! a turn of the law: changes anywhere -/
namespace K05
open PySem PySem.Spec PyProof.Rows L2 VS
abbrev natsD (qs : List Nat) : List D := qs.map fun (i : Nat) => D.int (i : Int)
theorem intsOf_ints (qs : List Nat) : intsOf (natsD qs) = some (qs.map fun (i : Nat) => (i : Int)) := by
  induction qs with
  | nil => rfl
  | cons q qs ih =>
    show (intsOf (natsD qs)).map ((q : Int) :: ·) = _
    rw [ih]
    rfl
theorem sortI_asc : ∀ (qs : List Nat), Asc qs → sortI (qs.map fun (i : Nat) => (i : Int)) = qs.map fun (i : Nat) => (i : Int)
  | [], _ => rfl
  | [q], _ => rfl
  | q :: r :: qs, h => by
    have h1 := List.pairwise_cons.mp h
    have ih := sortI_asc (r :: qs) h1.2
    have h2 := h1.1 r (by simp)
    show insI (q : Int) (sortI ((r :: qs).map fun (i : Nat) => (i : Int))) = _
    rw [ih]
    have h3 : (q : Int) ≤ (r : Int) := by omega
    simp [insI, h3]
theorem drawn_places {N m : Nat} {p : Cell} (T : Store) (t : ST) (k : Nat) (ρ : VS.Env) (hk : k ≠ 0) (h0 : (wipeE ρ [k])[0]? = some (some (.cel 0))) (hkl : k < ρ.length) (hp : IsPen N p) (hN : N + m ≤ 900000) (hm : m ≤ 900)
    (ht : t = tTru (sBin eqD (sApp 2 F__law_draw (aCons (sVar 0) (aCons (sC (.int 4)) aNil))) (sC (.int 0)))) : ∃ (qs : List Nat) (p' : Cell), Asc qs ∧ (∀ q ∈ qs, q < m) ∧ qs.length ≤ m ∧ IsPen (N + m) p' ∧
    lcS (.rng 0 m) (gVar k) t (sVar k) [k] ρ (m + 1) 0 [] (p :: T) = .ok (natsD qs) (p' :: T) := by
  subst ht
  obtain ⟨acc, S', e, qs, q, h1, h2, h3, h4, h5, h6⟩ := lcS_move (src := .rng 0 m) (gt := gVar k) (tt := tTru (sBin eqD (sApp 2 F__law_draw (aCons (sVar 0) (aCons (sC (.int 4)) aNil))) (sC (.int 0)))) (te := sVar k) (vs := [k]) (ρ := ρ)
    (fun i acc S => ∃ (qs : List Nat) (q : Cell), acc = natsD qs ∧ S = q :: T ∧ IsPen (N + i) q ∧ (∀ x ∈ qs, x < i) ∧ Asc qs ∧ qs.length ≤ i) m
    (fun i acc S hi ⟨qs, q, h2, h3, h4, h5, h6, h7⟩ => by
      subst h2 h3
      obtain ⟨z, q', k0, k1, h8, e⟩ := draws (N + i) 4 q T h4 (by omega) (by omega) (by decide)
      obtain ⟨z, rfl⟩ := Int.eq_ofNat_of_zero_le k0
      have g0 : ((wipeE ρ [k]).set k (some (.int (i : Int))))[0]? = some (some (.cel 0)) := by
        rw [List.getElem?_set_ne hk]
        exact h0
      have gk : ((wipeE ρ [k]).set k (some (.int (i : Int))))[k]? = some (some (.int (i : Int))) := by
        have : k < (wipeE ρ [k]).length := by simpa [wipeE] using hkl
        rw [List.getElem?_set_self this]
      refine ⟨.int (i : Int), by simp [Src.at, hi], _, _, rfl, (decide ((z : Int) = 0)), q' :: T, ?_, ?_⟩
      · generalize (wipeE ρ [k]).set k (some (.int (i : Int))) = ρ1 at *
        generalize F__law_draw = F at *
        simp -implicitDefEqProofs [g0, e]
        by_cases c : z = 0
        · subst c; rfl
        · have c2 : ¬ (z : Int) = 0 := by omega
          simp [c, c2]
      · by_cases c : z = 0
        · subst c
          rw [if_pos (by simp)]
          refine ⟨small_size (by simp; omega), .int (i : Int), q' :: T, ?_, qs ++ [i], q', by simp, rfl, h8, ?_, ?_, by simp; omega⟩
          · generalize (wipeE ρ [k]).set k (some (.int (i : Int))) = ρ1 at *
            simp -implicitDefEqProofs [gk]
          · intro x hx
            simp at hx
            rcases hx with hx | rfl
            · have := h5 x hx
              omega
            · omega
          · refine List.pairwise_append.mpr ⟨h6, List.pairwise_singleton _ _, fun x hx y hy => ?_⟩
            have := h5 x hx
            simp at hy
            omega
        · rw [if_neg (by simp; omega)]
          exact ⟨qs, q', rfl, rfl, h8, fun x hx => by have := h5 x hx; omega, h6, by omega⟩)
    (fun acc S _ => by simp [Src.at]) (m + 1) 0 [] (p :: T) (by omega) (by omega) ⟨[], p, rfl, rfl, hp, by simp, List.Pairwise.nil, by simp⟩
  subst h1 h2
  exact ⟨qs, q, h5, h4, h6, h3, e⟩
abbrev Ew (g d b t pls zs ot : Option D) : VS.Env := [some (.cel 0), g, d, b, t, none, pls, zs, ot, none, none, none, none, none, none, none]
theorem lr7_e {g d b : D} {W : List Bool} {N : Nat} {p : Cell} (hW : W.length ≤ 400) (hp : IsPen N p) (hN : N ≤ 700000) : ∃ (qs : List Nat) (p' : Cell), Asc qs ∧ (∀ q ∈ qs, q < W.length) ∧ qs.length ≤ W.length ∧ IsPen (N + W.length) p' ∧
    lr7 (Ew (some g) (some d) (some b) (some (.str (bT W))) none none none) [p] = .nx (Ew (some g) (some d) (some b) (some (.str (bT W))) (some (pl true qs)) none none) [p'] := by
  obtain ⟨qs, p1, h1, h2, h3, h4, e⟩ := drawn_places (m := W.length) [] _ 5 (Ew (some g) (some d) (some b) (some (.str (bT W))) none none none) (by decide) rfl (by simp) hp (by omega) (by omega) rfl
  refine ⟨qs, p1, h1, h2, h3, h4, ?_⟩
  have e1 := len_bT W [p] (by omega)
  have hb := rngB W.length (by omega)
  have e2 : sortedF [.lst (natsD qs)] [p1] = .ok (natsD qs) [p1] := by
    unfold sortedF
    have : (lookL [p1] (.lst (natsD qs))).bind intsOf = some (qs.map fun (i : Nat) => (i : Int)) := intsOf_ints qs
    simp only [this]
    rw [sortI_asc qs h1, List.map_map]
    rfl
  unfold lr7
  rw [show pl true qs = .lst (natsD qs) from rfl]
  generalize tTru (sBin eqD (sApp 2 F__law_draw (aCons (sVar 0) (aCons (sC (.int 4)) aNil))) (sC (.int 0))) = tt at *
  generalize natsD qs = R1 at *
  generalize W.length = m at *
  generalize bT W = t at *
  simp -implicitDefEqProofs [e1, hb, rng_len, e, e2]
theorem lr8_e {g d b q : D} {W : List Bool} {p : Cell} (hW : W.length ≤ 400) : lr8 (Ew (some g) (some d) (some b) (some (.str (bT W))) (some q) none none) [p] = .nx (Ew (some g) (some d) (some b) (some (.str (bT W))) (some q) (some (.str (bT (List.replicate W.length false)))) none) [p] := by
  have e1 := len_bT W [p] (by omega)
  have e2 := mul_bT false W.length [p] (by omega)
  unfold lr8
  generalize List.replicate W.length false = Z at *
  generalize (W.length : Int) = A at *
  simp -implicitDefEqProofs [e1, bT_0, e2]
theorem lr9_e {g d b : D} {z : Option D} {W : List Bool} {qs : List Nat} {p : Cell} (hW : W.length ≤ 400) (h1 : Asc qs) (h2 : ∀ q ∈ qs, q < W.length) (h3 : qs.length ≤ 400) (hS : Own [p]) : lr9 (Ew (some g) (some d) (some b) (some (.str (bT W))) (some (pl true qs)) z none) [p] = .nx (Ew (some g) (some d) (some b) (some (.str (bT W))) (some (pl true qs)) z (some (.str (bT (chg W qs))))) [p] := by
  have e1 := changed_e W false qs h1 h2 (by omega) (by omega) [p] hS
  have e2 : tupleD [pl true qs] [p] = .ok (pl false qs) [p] := rfl
  unfold lr9
  generalize pl true qs = q1 at *
  generalize pl false qs = q2 at *
  generalize F_changed = F at *
  simp -implicitDefEqProofs [e2, e1]
theorem chg_xor (l : List Bool) (ps : List Nat) : chg l ps = List.zipWith Bool.xor l (chg (List.replicate l.length false) ps) := by
  apply List.ext_getElem
  · simp
  · intro i h1 h2
    have hi : i < l.length := by simpa using h1
    rw [chg_at l ps i hi, List.getElem_zipWith, chg_at _ ps i (by simpa using hi)]
    simp
theorem RT_chg {G : List Bool} {d : Nat} (h : GL G d) (l : List Bool) (ps : List Nat) : RT G d (chg (WG G d l) ps) = RT G d (chg (List.replicate (WG G d l).length false) ps) := by
  have e0 : rst (val G) d (WG G d l) 0 = 0 := rst_guarded h.gd l
  unfold RT
  rw [chg_xor (WG G d l) ps]
  have := rst_lin (val G) d (WG G d l) (chg (List.replicate (WG G d l).length false) ps) 0 0 (by simp)
  rw [Nat.xor_self] at this
  rw [this, e0, Nat.zero_xor]
theorem lr10_e {G : List Bool} {d : Nat} {l : List Bool} {b : D} {qs : List Nat} {p : Cell} (h : GL G d) (hl : l.length ≤ 100) (h1 : Asc qs) (h2 : ∀ q ∈ qs, q < (WG G d l).length) (h3 : qs.length ≤ 400) (hS : Own [p]) :
    lr10 (Ew (some (.str (bT G))) (some (.int (d : Int))) (some b) (some (.str (bT (WG G d l)))) (some (pl true qs)) (some (.str (bT (List.replicate (WG G d l).length false)))) (some (.str (bT (chg (WG G d l) qs))))) [p] = .nx (Ew (some (.str (bT G))) (some (.int (d : Int))) (some b) (some (.str (bT (WG G d l)))) (some (pl true qs)) (some (.str (bT (List.replicate (WG G d l).length false)))) (some (.str (bT (chg (WG G d l) qs))))) [p] := by
  have hf := h.few
  have hw := WG_len G l d
  have e1 := law_change_e (WG G d l) true qs (by omega) [p]
  have e2 := ne_bT (chg (WG G d l) qs) (chg (WG G d l) qs) [p]
  have e3 := rest_by_e h (chg (WG G d l) qs) (by simp; omega) [p]
  have e4 := changed_e (List.replicate (WG G d l).length false) true qs h1 (by simpa using h2) (by simp; omega) (by omega) [p] hS
  have e5 := rest_by_e h (chg (List.replicate (WG G d l).length false) qs) (by simp; omega) [p]
  rw [← RT_chg h l qs] at e5
  have e6 := ne_bT (RT G d (chg (WG G d l) qs)) (RT G d (chg (WG G d l) qs)) [p]
  simp only [decide_true, Bool.not_true] at e2 e6
  unfold lr10
  generalize RT G d (chg (WG G d l) qs) = R1 at *
  generalize chg (List.replicate (WG G d l).length false) qs = R2 at *
  generalize chg (WG G d l) qs = R3 at *
  generalize List.replicate (WG G d l).length false = Z at *
  generalize WG G d l = W at *
  generalize pl true qs = q at *
  generalize F__law_change = F1 at *
  generalize F_rest_by = F2 at *
  generalize F_changed = F3 at *
  simp -implicitDefEqProofs [e1, e2, e3, e4, e5, e6]
end K05
end
section
set_option Elab.async false
set_option linter.all false
set_option maxRecDepth 100000
set_option maxHeartbeats 4000000
/-! a turn of the law: sums, near changes -/
namespace K05
open PySem PySem.Spec PyProof.Rows L2 VS
theorem digs_xor (x y d : Nat) : digs (x ^^^ y) d = List.zipWith Bool.xor (digs x d) (digs y d) := by
  induction d with
  | zero => rfl
  | succ d ih => rw [digs_succ, digs_succ, digs_succ, List.zipWith_cons_cons, ih, Nat.testBit_xor]
theorem chg_first (n : Nat) : chg (List.replicate (n + 1) false) [0] = true :: List.replicate n false := by
  apply List.ext_getElem
  · simp
  · intro i h1 h2
    rw [chg_at _ _ i (by simpa using h1)]
    cases i with
    | zero => simp
    | succ i => simp
/-- the places' bits among noughts -/
def mid (ps : List Nat) (f r : Nat) : List Bool := (List.range (r - 1)).map fun i => decide (f + 1 + i ∈ ps)
theorem plc_shape {ps : List Nat} {f m w r : Nat} (h : Plc ps f m w) (hr : r = min w (m - f)) (hw : 1 ≤ w) : chg (List.replicate m false) ps = List.replicate f false ++ true :: mid ps f r ++ List.replicate (m - f - r) false := by
  obtain ⟨qs, rfl, hq⟩ := h.ex
  have hf := h.lt
  apply List.ext_getElem
  · simp [mid]
    omega
  · intro i h1 h2
    have hi : i < m := by simpa using h1
    rw [chg_at _ _ i (by simpa using hi), List.getElem_replicate, Bool.false_xor]
    have e1 : (List.replicate f false ++ true :: mid (f :: qs) f r).length = f + r := by
      simp [mid]
      omega
    by_cases c : i < f + r
    · rw [List.getElem_append_left (by omega)]
      by_cases c2 : i < f
      · rw [List.getElem_append_left (by simpa using c2), List.getElem_replicate]
        apply decide_eq_false
        intro hm
        rcases List.mem_cons.mp hm with e | hm
        · omega
        · have := hq i hm
          omega
      · rw [List.getElem_append_right (by simp; omega)]
        simp only [List.length_replicate]
        by_cases c3 : i = f
        · subst c3
          simp
        · obtain ⟨j, hj⟩ : ∃ j, i - f = j + 1 := ⟨i - f - 1, by omega⟩
          simp only [hj, List.getElem_cons_succ, mid, List.getElem_map, List.getElem_range]
          rw [show f + 1 + j = i by omega]
    · rw [List.getElem_append_right (by omega), List.getElem_replicate]
      apply decide_eq_false
      intro hm
      rcases List.mem_cons.mp hm with e | hm
      · omega
      · have := hq i hm
        omega
theorem near_seen {G : List Bool} {d : Nat} (h : GL G d) {ps : List Nat} {f m : Nat} (hp : Plc ps f m d) : rst (val G) d (chg (List.replicate m false) ps) 0 ≠ 0 := by
  have hd := h.gd.one
  rw [plc_shape hp rfl hd]
  exact seen_near h.gd f _ _ (by simp [mid]; omega)
theorem nin_bits (l : List Bool) (S : Store) : ninA (.str (bT [true])) (.str (bT l)) S = .ok (.bl (decide (val l = 0))) S := by
  show R.ok (D.bl (!(!(Builtin.Str.occurrences (bT l) (bT [true]) 0 (bT l).length 1).isEmpty))) S = _
  rw [bT_len, StrLaws.occ_eq, occ_bits l _ 0 (by omega), Nat.zero_add, List.drop_zero]
  have hv : (zeros l < l.length) ↔ val l ≠ 0 := by
    induction l with
    | nil => simp [zeros, val]
    | cons b l ih =>
      rw [zeros_cons, val_cons]
      cases b
      · simp
        exact ih
      · have : 0 < 2 ^ l.length := Nat.pow_pos (by decide)
        simp
  by_cases c : zeros l < l.length
  · rw [if_pos c, decide_eq_false (hv.mp c)]
    rfl
  · rw [if_neg c, decide_eq_true (Classical.byContradiction fun n => c (hv.mpr n))]
    rfl
abbrev Ex9 (g d b t at' pls zs ot near : Option D) : VS.Env := [some (.cel 0), g, d, b, t, at', pls, zs, ot, near, none, none, none, none, none, none]
theorem lr11_e {G : List Bool} {d : Nat} {l : List Bool} {t q z o : D} {p : Cell} (h : GL G d) (hl : l.length ≤ 90) :
    lr11 (Ex9 (some (.str (bT G))) (some (.int (d : Int))) (some (.str (bT l))) (some t) none (some q) (some z) (some o) none) [p] = .nx (Ex9 (some (.str (bT G))) (some (.int (d : Int))) (some (.str (bT l))) (some t) none (some q) (some z) (some o) none) [p] := by
  have hf := h.few
  have e1 := add_bT l [true] [p] (by simp; omega)
  have e2 : F__law_change [.str (bT (l ++ [true])), .lst [.int 0]] [p] = .ok (.str (bT (chg (l ++ [true]) [0]))) [p] := law_change_e (l ++ [true]) true [0] (by simp; omega) [p]
  have e3 := rest_by_e h (chg (l ++ [true]) [0]) (by simp; omega) [p]
  have e4 := rest_by_e h (l ++ [true]) (by simp; omega) [p]
  have e5 := len_bT l [p] (by omega)
  have e6 := mul_bT false l.length [p] (by omega)
  have e7 := add_bT [true] (List.replicate l.length false) [p] (by simp; omega)
  have e8 := rest_by_e h ([true] ++ List.replicate l.length false) (by simp; omega) [p]
  have e9 := law_sum_e (RT G d (l ++ [true])) (RT G d ([true] ++ List.replicate l.length false)) (by simp [RT]) (by simp [RT]; omega) [p]
  have e10 : RT G d (chg (l ++ [true]) [0]) = List.zipWith Bool.xor (RT G d (l ++ [true])) (RT G d ([true] ++ List.replicate l.length false)) := by
    unfold RT
    rw [← digs_xor, chg_xor, show (l ++ [true]).length = l.length + 1 by simp, chg_first]
    have := rst_lin (val G) d (l ++ [true]) (true :: List.replicate l.length false) 0 0 (by simp)
    rw [Nat.xor_self] at this
    rw [this]
    rfl
  rw [← e10] at e9
  have e11 := ne_bT (RT G d (chg (l ++ [true]) [0])) (RT G d (chg (l ++ [true]) [0])) [p]
  simp only [decide_true, Bool.not_true] at e11
  unfold lr11
  clear e10
  generalize RT G d (chg (l ++ [true]) [0]) = R1 at *
  generalize RT G d (l ++ [true]) = R2 at *
  generalize RT G d ([true] ++ List.replicate l.length false) = R3 at *
  generalize chg (l ++ [true]) [0] = R4 at *
  generalize [true] ++ List.replicate l.length false = R5 at *
  generalize List.replicate l.length false = R6 at *
  generalize l ++ [true] = R7 at *
  generalize (l.length : Int) = A at *
  generalize F__law_change = F1 at *
  generalize F_rest_by = F2 at *
  generalize F__law_sum = F3 at *
  simp -implicitDefEqProofs [bT_1, bT_0, e1, e2, e3, e4, e5, e6, e7, e8, e9, e11]
theorem lr13_e {G : List Bool} {d : Nat} {l : List Bool} {b q z o : D} {ps : List Nat} {f : Nat} {p : Cell} (h : GL G d) (hl : l.length ≤ 100) (hp : Plc ps f (WG G d l).length d) (h3 : ps.length ≤ 400) (hS : Own [p]) :
    lr13 (Ex9 (some (.str (bT G))) (some (.int (d : Int))) (some b) (some (.str (bT (WG G d l)))) none (some q) (some z) (some o) (some (pl true ps))) [p] = .nx (Ex9 (some (.str (bT G))) (some (.int (d : Int))) (some b) (some (.str (bT (WG G d l)))) none (some q) (some z) (some o) (some (pl true ps))) [p] := by
  have hf := h.few
  have hw := WG_len G l d
  have hlt : ∀ x ∈ ps, x < (WG G d l).length := by
    obtain ⟨qs, e, hq⟩ := hp.ex
    intro x hx
    rw [e] at hx
    rcases List.mem_cons.mp hx with rfl | hx
    · exact hp.lt
    · exact (hq x hx).2.2
  have e1 := changed_e (WG G d l) true ps hp.asc hlt (by omega) (by omega) [p] hS
  have e2 := law_change_e (WG G d l) true ps (by omega) [p]
  have e3 := ne_bT (chg (WG G d l) ps) (chg (WG G d l) ps) [p]
  have e4 := rest_by_e h (chg (WG G d l) ps) (by simp; omega) [p]
  have e5 := nin_bits (RT G d (chg (WG G d l) ps)) [p]
  have e6 : ¬ val (RT G d (chg (WG G d l) ps)) = 0 := by
    rw [RT_chg h l ps]
    unfold RT
    rw [val_digs, Nat.mod_eq_of_lt (rst_lt h.gd _ 0 (Nat.pow_pos (by decide)))]
    exact near_seen h hp
  rw [decide_eq_false e6] at e5
  simp only [decide_true, Bool.not_true] at e3
  unfold lr13
  clear e6
  generalize RT G d (chg (WG G d l) ps) = R1 at *
  generalize chg (WG G d l) ps = R3 at *
  generalize WG G d l = W at *
  generalize pl true ps = q' at *
  generalize F__law_change = F1 at *
  generalize F_rest_by = F2 at *
  generalize F_changed = F3 at *
  simp -implicitDefEqProofs [e1, e2, e3, e4, bT_1, e5, ordL]
end K05
end
section
set_option Elab.async false
set_option linter.all false
set_option maxRecDepth 100000
set_option maxHeartbeats 4000000
/-! a turn of the law: the guard laid somewhere -/
namespace K05
open PySem PySem.Spec PyProof.Rows L2 VS
theorem lr12_e {g b q z o : D} {W : List Bool} {d N : Nat} {p : Cell} (hd : 1 ≤ d) (hd2 : d ≤ 16) (hW : d < W.length) (hW2 : W.length ≤ 400) (hp : IsPen N p) (hN : N ≤ 700000) : ∃ (ps : List Nat) (f : Nat) (p' : Cell), Plc ps f W.length d ∧ ps.length ≤ 200 ∧ IsPen (N + 101) p' ∧
    lr12 (Ex9 (some g) (some (.int (d : Int))) (some b) (some (.str (bT W))) none (some q) (some z) (some o) none) [p] = .nx (Ex9 (some g) (some (.int (d : Int))) (some b) (some (.str (bT W))) none (some q) (some z) (some o) (some (pl true ps))) [p'] := by
  obtain ⟨ps, f, p1, h1, h2, h3, e⟩ := places_e (m := W.length) (w := d) [] (by omega) (by omega) hd (by omega) hp (by omega)
  refine ⟨ps, f, p1, h1, h2, h3, ?_⟩
  have e1 := len_bT W [p] (by omega)
  unfold lr12
  generalize (W.length : Int) = A at *
  generalize pl true ps = q' at *
  generalize F__law_places = F at *
  simp -implicitDefEqProofs [e1, e]
theorem lr14_e {g b q z o nr : D} {W : List Bool} {d N : Nat} {p : Cell} (hW : d < W.length) (hW2 : W.length ≤ 400) (hp : IsPen N p) (hN : N ≤ 700000) : ∃ (a : Nat) (p' : Cell), a + d < W.length ∧ IsPen (N + 1) p' ∧
    lr14 (Ex9 (some g) (some (.int (d : Int))) (some b) (some (.str (bT W))) none (some q) (some z) (some o) (some nr)) [p] = .nx (Ex9 (some g) (some (.int (d : Int))) (some b) (some (.str (bT W))) (some (.int (a : Int))) (some q) (some z) (some o) (some nr)) [p'] := by
  obtain ⟨a, p1, a0, a1, h1, e⟩ := draws N ((W.length : Int) - (d : Int)) p [] hp (by omega) (by omega) (by omega)
  obtain ⟨a, rfl⟩ := Int.eq_ofNat_of_zero_le a0
  refine ⟨a, p1, by omega, h1, ?_⟩
  have e1 := len_bT W [p] (by omega)
  unfold lr14
  generalize (W.length : Int) = A at *
  generalize F__law_draw = F at *
  simp -implicitDefEqProofs [e1, e]
/-- where the ones of a text stand, from a place on -/
def ones (G : List Bool) (a : Nat) : List Nat := ((List.range G.length).filter fun k => G[k]?.getD false).map (a + ·)
theorem ones_asc (G : List Bool) (a : Nat) : Asc (ones G a) := by
  unfold ones Asc
  rw [List.pairwise_map]
  refine List.Pairwise.imp (fun {x y} (h : x < y) => by omega) (List.Pairwise.filter _ List.pairwise_lt_range)
theorem ones_mem (G : List Bool) (a i : Nat) : i ∈ ones G a ↔ a ≤ i ∧ i < a + G.length ∧ G[i - a]?.getD false = true := by
  unfold ones
  simp only [List.mem_map, List.mem_filter, List.mem_range]
  constructor
  · rintro ⟨k, ⟨h1, h2⟩, rfl⟩
    refine ⟨by omega, by omega, ?_⟩
    rw [show a + k - a = k by omega]
    exact h2
  · rintro ⟨h1, h2, h3⟩
    exact ⟨i - a, ⟨by omega, h3⟩, by omega⟩
/-- the guard's bits laid among noughts -/
theorem ones_chg (G : List Bool) (a m : Nat) (h : a + G.length ≤ m) : chg (List.replicate m false) (ones G a) = List.replicate a false ++ G ++ List.replicate (m - a - G.length) false := by
  apply List.ext_getElem
  · simp
    omega
  · intro i h1 h2
    have hi : i < m := by simpa using h1
    rw [chg_at _ _ i (by simpa using hi), List.getElem_replicate, Bool.false_xor]
    by_cases c : i < a
    · rw [List.getElem_append_left (by simp; omega), List.getElem_append_left (by simpa using c), List.getElem_replicate]
      exact decide_eq_false fun hm => by have := (ones_mem G a i).mp hm; omega
    · by_cases c2 : i < a + G.length
      · rw [List.getElem_append_left (by simp; omega), List.getElem_append_right (by simp; omega)]
        simp only [List.length_replicate]
        have hk : i - a < G.length := by omega
        cases hb : G[i - a] with
        | true =>
          exact decide_eq_true ((ones_mem G a i).mpr ⟨by omega, c2, by rw [List.getElem?_eq_getElem hk, Option.getD_some, hb]⟩)
        | false =>
          refine decide_eq_false fun hm => ?_
          have := ((ones_mem G a i).mp hm).2.2
          rw [List.getElem?_eq_getElem hk, Option.getD_some, hb] at this
          cases this
      · rw [List.getElem_append_right (by simp; omega), List.getElem_replicate]
        exact decide_eq_false fun hm => by have := (ones_mem G a i).mp hm; omega
theorem laid_zero {G : List Bool} {d : Nat} (h : GL G d) (a m : Nat) (hm : a + d < m) : rst (val G) d (chg (List.replicate m false) (ones G a)) 0 = 0 := by
  have hl := h.len
  rw [ones_chg G a m (by omega)]
  obtain ⟨x, hx, e⟩ := h.ex
  have := (seen_wide h.gd a (m - a - (true :: (x ++ [true])).length) (x ++ [true]) (by simp; omega)).mpr (by rw [← hx])
  rw [← hx] at this
  exact this
end K05
end
section
set_option Elab.async false
set_option linter.all false
set_option maxRecDepth 100000
set_option maxHeartbeats 4000000
/-! a turn of the law: the guard laid, wide places -/
namespace K05
open PySem PySem.Spec PyProof.Rows L2 VS
abbrev Ey (g d b t at' q z o nr laid wide il : Option D) : VS.Env := [some (.cel 0), g, d, b, t, at', q, z, o, nr, none, laid, wide, il, none, none]
theorem lr15_e {G : List Bool} {d a : Nat} {b t q z o nr : D} {p : Cell} (h : GL G d) (ha : a ≤ 1000) :
    lr15 (Ey (some (.str (bT G))) (some (.int (d : Int))) (some b) (some t) (some (.int (a : Int))) (some q) (some z) (some o) (some nr) none none none) [p] = .nx (Ey (some (.str (bT G))) (some (.int (d : Int))) (some b) (some t) (some (.int (a : Int))) (some q) (some z) (some o) (some nr) (some (pl true (ones G a))) none none) [p] := by
  have hl := h.len
  have hf := h.few
  have e := lc_enc (src := .rng 0 (d + 1)) (gt := gVar 10) (tt := (tTru (sBin eqD (sBin ixGet (sVar 1) (sVar 10)) (sC (.str "1"))))) (te := (sBin addD (sVar 5) (sVar 10))) (vs := [10]) (ρ := Ey (some (.str (bT G))) (some (.int (d : Int))) (some b) (some t) (some (.int (a : Int))) (some q) (some z) (some o) (some nr) none none none) (S := [p]) (List.range (d + 1)) (fun (i : Nat) => D.int (i : Int)) (fun (i : Nat) => D.int ((a + i : Nat) : Int)) (fun k => G[k]?.getD false) (fun i => by
      by_cases hi : i < d + 1
      · simp [Src.at, hi]
      · simp [Src.at, hi]) (small_size (by simp; omega))
    (fun k hk => ⟨_, rfl, by
      have hk' : k < G.length := by simp at hk; omega
      have a1 := ix_bT G k hk' [p] (by omega)
      have a2 := eq_bT [G[k]] [true] [p]
      have a3 : decide ([G[k]] = [true]) = G[k] := by cases G[k] <;> rfl
      rw [a3] at a2
      rw [List.getElem?_eq_getElem hk', Option.getD_some]
      generalize G[k] = u at *
      simp -implicitDefEqProofs [wipeE, a1, bT_1, a2], fun _ => by
      have : (a : Int) + (k : Int) = ((a + k : Nat) : Int) := by omega
      generalize ((a + k : Nat) : Int) = y at *
      simp -implicitDefEqProofs [wipeE, this]⟩) (m := d + 1 + 1) (by simp)
  have e2 : ((List.range (d + 1)).filter (fun k => G[k]?.getD false)).map (fun (i : Nat) => D.int ((a + i : Nat) : Int)) = natsD (ones G a) := by
    unfold natsD ones
    rw [hl, List.map_map]
    rfl
  rw [e2] at e
  have hb : (-(4611686018427387904 : Int) ≤ (d : Int) + 1 ∧ (d : Int) + 1 < 4611686018427387904) ∧ ((d : Int) + 1).toNat = d + 1 := ⟨⟨by omega, by omega⟩, by omega⟩
  unfold lr15
  rw [show pl true (ones G a) = .lst (natsD (ones G a)) from rfl]
  generalize (tTru (sBin eqD (sBin ixGet (sVar 1) (sVar 10)) (sC (.str "1")))) = tt at *
  generalize (sBin addD (sVar 5) (sVar 10)) = te at *
  generalize natsD (ones G a) = R1 at *
  generalize d + 1 = n at *
  simp -implicitDefEqProofs [hb.1, hb.2, rng_len, e]
theorem lr16_e {g b q z o nr ld a : D} {W : List Bool} {d N : Nat} {p : Cell} (hd2 : d ≤ 16) (hW : d < W.length) (hW2 : W.length ≤ 400) (hp : IsPen N p) (hN : N ≤ 700000) : ∃ (ps : List Nat) (f : Nat) (p' : Cell), Plc ps f W.length (d + 1) ∧ ps.length ≤ 200 ∧ IsPen (N + 101) p' ∧
    lr16 (Ey (some g) (some (.int (d : Int))) (some b) (some (.str (bT W))) (some a) (some q) (some z) (some o) (some nr) (some ld) none none) [p] = .nx (Ey (some g) (some (.int (d : Int))) (some b) (some (.str (bT W))) (some a) (some q) (some z) (some o) (some nr) (some ld) (some (pl true ps)) none) [p'] := by
  obtain ⟨ps, f, p1, h1, h2, h3, e⟩ := places_e (m := W.length) (w := d + 1) [] (by omega) (by omega) (by omega) (by omega) hp (by omega)
  refine ⟨ps, f, p1, h1, h2, h3, ?_⟩
  have e1 := len_bT W [p] (by omega)
  have e2 : (d : Int) + 1 = ((d + 1 : Nat) : Int) := by omega
  unfold lr16
  generalize ((d + 1 : Nat) : Int) = D1 at *
  generalize (W.length : Int) = A at *
  generalize pl true ps = q' at *
  generalize F__law_places = F at *
  simp -implicitDefEqProofs [e1, e2, e]
end K05
end
section
set_option Elab.async false
set_option linter.all false
set_option maxRecDepth 100000
set_option maxHeartbeats 4000000
/-! wide places are seen just if they are not the guard -/
namespace K05
open PySem PySem.Spec PyProof.Rows L2 VS
theorem asc_ext : ∀ (ps qs : List Nat), Asc ps → Asc qs → (∀ i, i ∈ ps ↔ i ∈ qs) → ps = qs
  | [], [], _, _, _ => rfl
  | [], q :: qs, _, _, h => by have := (h q).mpr (by simp); simp at this
  | p :: ps, [], _, _, h => by have := (h p).mp (by simp); simp at this
  | p :: ps, q :: qs, h1, h2, h => by
    have a1 := List.pairwise_cons.mp h1
    have a2 := List.pairwise_cons.mp h2
    have e : p = q := by
      have b1 : q ≤ p := by
        rcases List.mem_cons.mp ((h p).mp (by simp)) with e | m
        · omega
        · have := a2.1 p m; omega
      have b2 : p ≤ q := by
        rcases List.mem_cons.mp ((h q).mpr (by simp)) with e | m
        · omega
        · have := a1.1 q m; omega
      omega
    subst e
    rw [asc_ext ps qs a1.2 a2.2 fun i => ?_]
    constructor
    · intro hi
      have := a1.1 i hi
      rcases List.mem_cons.mp ((h i).mp (List.mem_cons_of_mem _ hi)) with e | m
      · omega
      · exact m
    · intro hi
      have := a2.1 i hi
      rcases List.mem_cons.mp ((h i).mpr (List.mem_cons_of_mem _ hi)) with e | m
      · omega
      · exact m
theorem wide_zero {G : List Bool} {d : Nat} (h : GL G d) {ps : List Nat} {f m : Nat} (hp : Plc ps f m (d + 1)) : rst (val G) d (chg (List.replicate m false) ps) 0 = 0 ↔ ps = ones G f := by
  have hl := h.len
  have hd := h.gd.one
  constructor
  · intro hz
    rw [plc_shape hp rfl (by omega)] at hz
    by_cases c : min (d + 1) (m - f) ≤ d
    · exact absurd hz (seen_near h.gd f _ _ (by have := hp.lt; simp [mid]; omega))
    · have hr : min (d + 1) (m - f) = d + 1 := by omega
      rw [hr] at hz
      have hv := (seen_wide h.gd f _ (mid ps f (d + 1)) (by simp [mid])).mp hz
      have hG : true :: mid ps f (d + 1) = G := val_inj _ _ (by simp [mid, hl]) hv
      refine asc_ext ps (ones G f) hp.asc (ones_asc G f) fun i => ?_
      rw [ones_mem, ← hG]
      obtain ⟨qs, e, hq⟩ := hp.ex
      constructor
      · intro hi
        have hi' := hi
        rw [e] at hi'
        rcases List.mem_cons.mp hi' with rfl | hm
        · exact ⟨by omega, by simp [mid], by simp⟩
        · have := hq i hm
          refine ⟨by omega, by simp [mid]; omega, ?_⟩
          obtain ⟨j, hj⟩ : ∃ j, i - f = j + 1 := ⟨i - f - 1, by omega⟩
          rw [hj, List.getElem?_cons_succ]
          unfold mid
          rw [List.getElem?_map, List.getElem?_range (by omega)]
          simp
          rw [show f + 1 + j = i by omega]
          exact hi
      · rintro ⟨h1, h2, h3⟩
        by_cases c2 : i = f
        · rw [c2, e]
          simp
        · obtain ⟨j, hj⟩ : ∃ j, i - f = j + 1 := ⟨i - f - 1, by omega⟩
          rw [hj, List.getElem?_cons_succ] at h3
          unfold mid at h3
          simp [mid] at h2
          rw [List.getElem?_map, List.getElem?_range (by omega)] at h3
          simp at h3
          rw [show f + 1 + j = i by omega] at h3
          exact h3
  · intro e
    obtain ⟨x, hx, hxl⟩ := h.ex
    have hlast : f + d ∈ ones G f := (ones_mem G f (f + d)).mpr ⟨by omega, by omega, by
      rw [show f + d - f = d by omega, hx, ← hxl, List.getElem?_cons_succ, List.getElem?_append_right (by omega)]
      simp⟩
    have hlt : f + d < m := by
      obtain ⟨qs, e2, hq⟩ := hp.ex
      rw [← e, e2] at hlast
      rcases List.mem_cons.mp hlast with z | hm
      · omega
      · exact (hq _ hm).2.2
    rw [e]
    exact laid_zero h f m hlt
end K05
end
section
set_option Elab.async false
set_option linter.all false
set_option maxRecDepth 100000
set_option maxHeartbeats 4000000
/-! lists of whole numbers compared; a sign in a text -/
namespace K05
open PySem PySem.Spec PyProof.Rows L2 VS
theorem eqvAll_ints : ∀ (a b : List Int), PyData.eqvAll (a.map .int) (b.map .int) = decide (a = b)
  | [], [] => by simp [PyData.eqvAll]
  | [], _ :: _ => by simp [PyData.eqvAll]
  | _ :: _, [] => by simp [PyData.eqvAll]
  | x :: a, y :: b => by
    simp only [List.map_cons, PyData.eqvAll, PyData.eqv, eqvAll_ints a b]
    by_cases h : x = y
    · subst h
      simp
    · simp [h]
theorem eq_rows (a b : List Int) (S : Store) : eqD (.lst (row a)) (.lst (row b)) S = .ok (.bl (decide (a = b))) S := by
  have e : eqPy S (.lst (row a)) (.lst (row b)) = some (decide (a = b)) := by
    have t1 : ∀ c : List Int, toPy S (.lst (row c)) = some (.list (c.map .int)) := fun c => by
      show (toPs (row c)).map PyData.list = _
      rw [toPs_row]
      rfl
    unfold eqPy
    rw [t1, t1]
    simp only [shaped_ints, and_self, if_true, PyData.eqv, eqvAll_ints]
  unfold eqD
  rw [e]
theorem eq_places (ps qs : List Nat) (S : Store) : eqD (pl true ps) (.lst (natsD qs)) S = .ok (.bl (decide (ps = qs))) S := by
  have e : ∀ c : List Nat, natsD c = row (c.map fun (i : Nat) => (i : Int)) := fun c => by
    unfold natsD row
    rw [List.map_map]
    rfl
  have h := eq_rows (ps.map fun (i : Nat) => (i : Int)) (qs.map fun (i : Nat) => (i : Int)) S
  rw [← e, ← e] at h
  have h2 : decide ((ps.map fun (i : Nat) => (i : Int)) = qs.map fun (i : Nat) => (i : Int)) = decide (ps = qs) := by
    by_cases c : ps = qs
    · subst c
      simp
    · have : ¬ (ps.map fun (i : Nat) => (i : Int)) = qs.map fun (i : Nat) => (i : Int) := fun z => c (by
        have inj : ∀ a b : List Nat, (a.map fun (i : Nat) => (i : Int)) = b.map (fun (i : Nat) => (i : Int)) → a = b := by
          intro a
          induction a with
          | nil => intro b h; cases b with
            | nil => rfl
            | cons y b => simp at h
          | cons x a ih => intro b h; cases b with
            | nil => simp at h
            | cons y b =>
              simp only [List.map_cons, List.cons.injEq] at h
              rw [ih b h.2, show x = y by omega]
        exact inj ps qs z)
      rw [decide_eq_false c, decide_eq_false this]
  rw [h2] at h
  exact h
theorem in_bits (l : List Bool) (S : Store) : inA (.str (bT [true])) (.str (bT l)) S = .ok (.bl (!decide (val l = 0))) S := by
  show R.ok (D.bl (decide (49 ∈ (bT l).cps.toList))) S = _
  have : (49 ∈ (bT l).cps.toList) ↔ ¬ val l = 0 := by
    rw [bT_cps]
    induction l with
    | nil => simp [val]
    | cons b l ih =>
      rw [List.map_cons, List.mem_cons, val_cons, ih]
      have : 0 < 2 ^ l.length := Nat.pow_pos (by decide)
      cases b
      · simp [bN]
      · simp [bN]
  congr 2
  by_cases c : val l = 0
  · simp only [c, decide_true, Bool.not_true]
    exact decide_eq_false fun z => (this.mp z) c
  · simp only [c, decide_false, Bool.not_false]
    exact decide_eq_true (this.mpr c)
end K05
end
section
set_option Elab.async false
set_option linter.all false
set_option maxRecDepth 100000
set_option maxHeartbeats 4000000
/-! a turn of the law: is it the guard -/
namespace K05
open PySem PySem.Spec PyProof.Rows L2 VS
theorem lr17_e {G : List Bool} {d f m w : Nat} {ps : List Nat} {b t a q z o nr ld : D} {p : Cell} (h : GL G d) (hp : Plc ps f m w) :
    lr17 (Ey (some (.str (bT G))) (some (.int (d : Int))) (some b) (some t) (some a) (some q) (some z) (some o) (some nr) (some ld) (some (pl true ps)) none) [p] = .nx (Ey (some (.str (bT G))) (some (.int (d : Int))) (some b) (some t) (some a) (some q) (some z) (some o) (some nr) (some ld) (some (pl true ps)) (some (.bl (decide (ps = ones G f))))) [p] := by
  have hl := h.len
  have hf := h.few
  obtain ⟨qs, e0, _⟩ := hp.ex
  have e9 : ixGet (pl true ps) (.int 0) [p] = .ok (.int (f : Int)) [p] := by
    rw [e0]
    exact ixL_0 _ _ _
  have e := lc_enc (src := .rng 0 (d + 1)) (gt := gVar 10) (tt := (tTru (sBin eqD (sBin ixGet (sVar 1) (sVar 10)) (sC (.str "1"))))) (te := (sBin addD (sBin ixGet (sVar 12) (sC (.int 0))) (sVar 10))) (vs := [10]) (ρ := Ey (some (.str (bT G))) (some (.int (d : Int))) (some b) (some t) (some a) (some q) (some z) (some o) (some nr) (some ld) (some (pl true ps)) none) (S := [p]) (List.range (d + 1)) (fun (i : Nat) => D.int (i : Int)) (fun (i : Nat) => D.int ((f + i : Nat) : Int)) (fun k => G[k]?.getD false) (fun i => by
      by_cases hi : i < d + 1
      · simp [Src.at, hi]
      · simp [Src.at, hi]) (small_size (by simp; omega))
    (fun k hk => ⟨_, rfl, by
      have hk' : k < G.length := by simp at hk; omega
      have a1 := ix_bT G k hk' [p] (by omega)
      have a2 := eq_bT [G[k]] [true] [p]
      have a3 : decide ([G[k]] = [true]) = G[k] := by cases G[k] <;> rfl
      rw [a3] at a2
      rw [List.getElem?_eq_getElem hk', Option.getD_some]
      generalize G[k] = u at *
      simp -implicitDefEqProofs [wipeE, a1, bT_1, a2], fun _ => by
      have : (f : Int) + (k : Int) = ((f + k : Nat) : Int) := by omega
      generalize ((f + k : Nat) : Int) = y at *
      generalize pl true ps = q' at *
      simp -implicitDefEqProofs [wipeE, e9, this]⟩) (m := d + 1 + 1) (by simp)
  have e2 : ((List.range (d + 1)).filter (fun k => G[k]?.getD false)).map (fun (i : Nat) => D.int ((f + i : Nat) : Int)) = natsD (ones G f) := by
    unfold natsD ones
    rw [hl, List.map_map]
    rfl
  rw [e2] at e
  have e3 := eq_places ps (ones G f) [p]
  have hb : (-(4611686018427387904 : Int) ≤ (d : Int) + 1 ∧ (d : Int) + 1 < 4611686018427387904) ∧ ((d : Int) + 1).toNat = d + 1 := ⟨⟨by omega, by omega⟩, by omega⟩
  unfold lr17
  generalize decide (ps = ones G f) = il at *
  generalize (tTru (sBin eqD (sBin ixGet (sVar 1) (sVar 10)) (sC (.str "1")))) = tt at *
  generalize (sBin addD (sBin ixGet (sVar 12) (sC (.int 0))) (sVar 10)) = te at *
  generalize natsD (ones G f) = R1 at *
  generalize pl true ps = q' at *
  generalize d + 1 = n at *
  simp -implicitDefEqProofs [hb.1, hb.2, rng_len, e, e3]
end K05
end
section
set_option Elab.async false
set_option linter.all false
set_option maxRecDepth 100000
set_option maxHeartbeats 4000000
/-! a turn of the law: both laid ones seen or not -/
namespace K05
open PySem PySem.Spec PyProof.Rows L2 VS
abbrev Ez (g d b t at' q z o nr laid wide il seen : Option D) : VS.Env := [some (.cel 0), g, d, b, t, at', q, z, o, nr, none, laid, wide, il, none, seen]
theorem seen_in {G : List Bool} {d : Nat} (h : GL G d) (l : List Bool) (ps : List Nat) (S : Store) : inA (.str (bT [true])) (.str (bT (RT G d (chg (WG G d l) ps)))) S = .ok (.bl (!decide (rst (val G) d (chg (List.replicate (WG G d l).length false) ps) 0 = 0))) S := by
  rw [in_bits, RT_chg h l ps]
  unfold RT
  rw [val_digs, Nat.mod_eq_of_lt (rst_lt h.gd _ 0 (Nat.pow_pos (by decide)))]
theorem lr18_e {G : List Bool} {d a f : Nat} {l : List Bool} {ps : List Nat} {b at' q z o nr il : D} {p : Cell} (h : GL G d) (hl : l.length ≤ 100) (ha : a + d < (WG G d l).length) (hp : Plc ps f (WG G d l).length (d + 1)) (h3 : ps.length ≤ 400) (hS : Own [p]) :
    lr18 (Ez (some (.str (bT G))) (some (.int (d : Int))) (some b) (some (.str (bT (WG G d l)))) (some at') (some q) (some z) (some o) (some nr) (some (pl true (ones G a))) (some (pl true ps)) (some il) none) [p] = .nx (Ez (some (.str (bT G))) (some (.int (d : Int))) (some b) (some (.str (bT (WG G d l)))) (some at') (some q) (some z) (some o) (some nr) (some (pl true (ones G a))) (some (pl true ps)) (some il) (some (.lst [.bl false, .bl (!decide (ps = ones G f))]))) [p] := by
  have hf := h.few
  have hG := h.len
  have hw := WG_len G l d
  have l1 : ∀ x ∈ ones G a, x < (WG G d l).length := fun x hx => by
    have := (ones_mem G a x).mp hx
    omega
  have l2 : ∀ x ∈ ps, x < (WG G d l).length := by
    obtain ⟨qs, e, hq⟩ := hp.ex
    intro x hx
    rw [e] at hx
    rcases List.mem_cons.mp hx with rfl | hx
    · exact hp.lt
    · exact (hq x hx).2.2
  have l3 : (ones G a).length ≤ 400 := by
    have : (ones G a).length ≤ (List.range G.length).length := by
      unfold ones
      rw [List.length_map]
      exact List.length_filter_le _ _
    rw [List.length_range] at this
    omega
  have key : ∀ (rs : List Nat) (v : Bool), Asc rs → (∀ x ∈ rs, x < (WG G d l).length) → rs.length ≤ 400 → (!decide (rst (val G) d (chg (List.replicate (WG G d l).length false) rs) 0 = 0)) = v → ∀ ρ : VS.Env, ρ[1]? = some (some (.str (bT G))) → ρ[4]? = some (some (.str (bT (WG G d l)))) → ρ[14]? = some (some (pl true rs)) →
      (sBin inA (sC (.str "1")) (sApp 2 F_rest_by (aCons (sVar 1) (aCons (sApp 2 F_changed (aCons (sVar 4) (aCons (sVar 14) aNil))) aNil)))) ρ [p] = .ok (.bl v) [p] := by
    intro rs v r1 r2 r3 r4 ρ g1 g4 g14
    have e1 := changed_e (WG G d l) true rs r1 r2 (by omega) (by omega) [p] hS
    have e2 := rest_by_e h (chg (WG G d l) rs) (by simp; omega) [p]
    have e3 := seen_in h l rs [p]
    rw [r4] at e3
    generalize RT G d (chg (WG G d l) rs) = R1 at *
    generalize chg (WG G d l) rs = R2 at *
    generalize pl true rs = q' at *
    generalize WG G d l = W at *
    generalize F_rest_by = F1 at *
    generalize F_changed = F2 at *
    simp -implicitDefEqProofs [g1, g4, g14, e1, e2, bT_1, e3]
  have v1 : (!decide (rst (val G) d (chg (List.replicate (WG G d l).length false) (ones G a)) 0 = 0)) = false := by
    rw [laid_zero h a _ ha]
    rfl
  have v2 : (!decide (rst (val G) d (chg (List.replicate (WG G d l).length false) ps) 0 = 0)) = (!decide (ps = ones G f)) := by
    congr 1
    have := wide_zero h hp
    by_cases c : ps = ones G f
    · rw [decide_eq_true c, decide_eq_true (this.mpr c)]
    · rw [decide_eq_false c, decide_eq_false fun z => c (this.mp z)]
  have k1 := key (ones G a) _ (ones_asc G a) l1 l3 v1
  have k2 := key ps _ hp.asc l2 h3 v2
  unfold lr18
  clear key v1 v2
  generalize (sBin inA (sC (.str "1")) (sApp 2 F_rest_by (aCons (sVar 1) (aCons (sApp 2 F_changed (aCons (sVar 4) (aCons (sVar 14) aNil))) aNil)))) = te at *
  have s := lc_encA (src := .tup [pl true (ones G a), pl true ps]) (gt := gVar 14) (te := te) (vs := [14]) (ρ := Ez (some (.str (bT G))) (some (.int (d : Int))) (some b) (some (.str (bT (WG G d l)))) (some at') (some q) (some z) (some o) (some nr) (some (pl true (ones G a))) (some (pl true ps)) (some il) none) (S := [p]) [(pl true (ones G a), false), (pl true ps, !decide (ps = ones G f))] Prod.fst (fun x => .bl x.2) (fun i => rfl) (small_size (by simp))
    (fun x hx => ⟨_, rfl, by
      simp only [List.mem_cons, List.not_mem_nil, or_false] at hx
      rcases hx with rfl | rfl
      · exact k1 _ rfl rfl rfl
      · exact k2 _ rfl rfl rfl⟩) (m := 3) (by simp)
  generalize (!decide (ps = ones G f)) = v at *
  generalize pl true (ones G a) = q1 at *
  generalize pl true ps = q2 at *
  generalize WG G d l = W at *
  simp at s
  simp -implicitDefEqProofs [Src.len, s]
end K05
end
section
set_option Elab.async false
set_option linter.all false
set_option maxRecDepth 100000
set_option maxHeartbeats 4000000
/-! what is refused: guards, texts, places -/
namespace K05
open PySem PySem.Spec PyProof.Rows L2 VS
abbrev st (s : String) : D := .str (Str.ofString s)
def oddD : List D := [st "", st "1", st "01", st "10", st "111111111111111111", .non, .int 11, .lst [st "1", st "1"], st "1 1"]
def badD : List D := [.non, .int 0, st "012", st "1 ", .lst [st "0"], .tup [st "1"], st "O"]
def fewD (n : Nat) : List D := [.lst [.int (n : Int)], .lst [.int (-1)], .lst [.int 1, .int 0], .lst [.int 0, .int 0], .lst [.bl true], .non, st "0", .int 0, .lst [.non], .lst [.int 0, st "1"]]
abbrev badB (s : String) : Ex := ⟨2, [("part", .str (Str.ofString s))]⟩
abbrev badR (s : String) : Ex := ⟨5, [("part", .str (Str.ofString s))]⟩
theorem src_str_at (x : Str) (S : Store) (i : Nat) : (Src.str x).at S i = some ((x.cps.toList.map fun c => D.str ⟨#[c]⟩)[i]?) := by
  have h : x.cps[i]? = x.cps.toList[i]? := by simp
  show some (match x.cps[i]? with
    | some c => some (D.str ⟨#[c]⟩)
    | none => none) = _
  rw [h]
  simp only [List.getElem?_map]
  cases x.cps.toList[i]? <;> rfl
theorem is_bits_str (x : Str) (hx : x.cps.size ≤ 1000) (S : Store) : F_is_bits [.str x] S = .ok (.bl (x.cps.toList.all fun c => decide (c ∈ [48, 49]))) S := by
  have e := lc_encA (src := .str x) (gt := gVar 1) (te := sBin inA (sVar 1) (sC (.str "01"))) (vs := [1]) (ρ := [some (.str x), none]) (S := S) x.cps.toList (fun c => D.str ⟨#[c]⟩) (fun c => .bl (decide (c ∈ [48, 49]))) (src_str_at x S) (small_size (by simpa using hx))
    (fun c _ => ⟨_, rfl, rfl⟩) (m := x.cps.size + 1) (by simp)
  have e2 := all_bools x.cps.toList (fun c => decide (c ∈ [48, 49])) S
  unfold F_is_bits b_is_bits
  rw [runB_e]
  generalize sBin inA (sVar 1) (sC (.str "01")) = te at *
  generalize (x.cps.toList.all fun c => decide (c ∈ [48, 49])) = z at *
  generalize (x.cps.toList.map fun c => D.bl (decide (c ∈ [48, 49]))) = L at *
  simp -implicitDefEqProofs [Src.len, e, e2]
theorem is_bits_no {d : D} (h : isiD sub [d, .ty .str] = fun S => R.ok (.bl false) S) (S : Store) : F_is_bits [d] S = .ok (.bl false) S := by
  unfold F_is_bits b_is_bits
  rw [runB_e]
  simp -implicitDefEqProofs [h]
theorem is_bits_txt (s : String) (b : Bool) (hs : (Str.ofString s).cps.size ≤ 1000) (h : ((Str.ofString s).cps.toList.all fun c => decide (c ∈ [48, 49])) = b) (S : Store) : F_is_bits [st s] S = .ok (.bl b) S := by
  rw [is_bits_str (Str.ofString s) hs S, h]
theorem is_bits_bad {d : D} (hd : d ∈ badD) (S : Store) : F_is_bits [d] S = .ok (.bl false) S := by
  simp only [badD, List.mem_cons, List.not_mem_nil, or_false] at hd
  rcases hd with rfl | rfl | rfl | rfl | rfl | rfl | rfl
  · exact is_bits_no rfl S
  · exact is_bits_no rfl S
  · exact is_bits_txt _ _ (by decide) (by decide) S
  · exact is_bits_txt _ _ (by decide) (by decide) S
  · exact is_bits_no rfl S
  · exact is_bits_no rfl S
  · exact is_bits_txt _ _ (by decide) (by decide) S
theorem need_bits_bad {d : D} (hd : d ∈ badD) (S : Store) : F_need_bits [d, st "bits"] S = .exc (badB "bits") S := by
  have e := is_bits_bad hd S
  unfold F_need_bits b_need_bits
  rw [runB_e]
  generalize F_is_bits = F at *
  simp -implicitDefEqProofs [e]
theorem guard_len (l : List Bool) (hl : l.length ≤ 1000) (h : ¬ ((2 : Int) ≤ (l.length : Int) ∧ (l.length : Int) ≤ 17)) (S : Store) : F_is_guard [.str (bT l)] S = .ok (.bl false) S := by
  have e := is_bits_e l (by omega) S
  have e2 := len_bT l S (by omega)
  unfold F_is_guard b_is_guard
  rw [runB_e]
  generalize F_is_bits = F at *
  generalize (l.length : Int) = n at *
  generalize bT l = t at *
  by_cases c : 2 ≤ n
  · have c2 : ¬ n ≤ 17 := fun z => h ⟨c, z⟩
    simp -implicitDefEqProofs [e, e2, c, c2]
  · simp -implicitDefEqProofs [e, e2, c]
theorem guard_first (l : List Bool) (hl : l.length ≤ 17) (h2 : 2 ≤ l.length) (h : l[0] = false) (S : Store) : F_is_guard [.str (bT l)] S = .ok (.bl false) S := by
  have e := is_bits_e l (by omega) S
  have e2 := len_bT l S (by omega)
  have e3 := ix_bT l 0 (by omega) S (by omega)
  have e4 := eq_bT [false] [true] S
  have h3 : (2 : Int) ≤ (l.length : Int) := by omega
  have h4 : (l.length : Int) ≤ 17 := by omega
  rw [h] at e3
  simp at e3 e4
  unfold F_is_guard b_is_guard
  rw [runB_e]
  generalize F_is_bits = F at *
  generalize (l.length : Int) = n at *
  generalize bT l = t at *
  simp -implicitDefEqProofs [e, e2, e3, bT_1, e4, h3, h4]
theorem guard_last (l : List Bool) (hl : l.length + 1 ≤ 17) (h2 : 1 ≤ l.length) (S : Store) : F_is_guard [.str (bT (l ++ [false]))] S = .ok (.bl false) S := by
  have e := is_bits_e (l ++ [false]) (by simp; omega) S
  have e2 := len_bT (l ++ [false]) S (by simp; omega)
  have e3 := ix_bT (l ++ [false]) 0 (by simp) S (by simp; omega)
  have e4 := eq_bT [(l ++ [false])[0]'(by simp)] [true] S
  have e5 := eq_bT [false] [true] S
  have e6 := ix_last l false S (by omega)
  have h3 : (2 : Int) ≤ ((l ++ [false]).length : Int) := by simp; omega
  have h4 : ((l ++ [false]).length : Int) ≤ 17 := by simp; omega
  unfold F_is_guard b_is_guard
  rw [runB_e]
  generalize F_is_bits = F at *
  generalize ((l ++ [false]).length : Int) = n at *
  generalize (l ++ [false])[0]'(by simp) = u at *
  generalize bT (l ++ [false]) = t at *
  simp at e3 e5
  cases u <;> simp at e4 <;> simp -implicitDefEqProofs [e, e2, e3, bT_1, e4, e5, e6, h3, h4]
theorem guard_no {d : D} (e : ∀ S, F_is_bits [d] S = .ok (.bl false) S) (S : Store) : F_is_guard [d] S = .ok (.bl false) S := by
  unfold F_is_guard b_is_guard
  rw [runB_e]
  generalize F_is_bits = F at *
  simp -implicitDefEqProofs [e]
theorem is_guard_bad {d : D} (hd : d ∈ oddD) (S : Store) : F_is_guard [d] S = .ok (.bl false) S := by
  simp only [oddD, List.mem_cons, List.not_mem_nil, or_false] at hd
  rcases hd with rfl | rfl | rfl | rfl | rfl | rfl | rfl | rfl | rfl
  · exact guard_len [] (by simp) (by simp) S
  · exact guard_len [true] (by simp) (by simp) S
  · exact guard_first [false, true] (by simp) (by simp) rfl S
  · exact guard_last [true] (by simp) (by simp) S
  · exact guard_len (List.replicate 18 true) (by simp) (by simp) S
  · exact guard_no (fun S => is_bits_no rfl S) S
  · exact guard_no (fun S => is_bits_no rfl S) S
  · exact guard_no (fun S => is_bits_no rfl S) S
  · exact guard_no (fun S => is_bits_txt _ _ (by decide) (by decide) S) S
theorem need_guard_bad {d : D} (hd : d ∈ oddD) (S : Store) : F_need_guard [d] S = .exc (badB "guard") S := by
  have e := is_guard_bad hd S
  unfold F_need_guard b_need_guard
  rw [runB_e]
  generalize F_is_guard = F at *
  simp -implicitDefEqProofs [e]
theorem rest_by_odd {d : D} (hd : d ∈ oddD) (b : D) (S : Store) : F_rest_by [d, b] S = .exc (badB "guard") S := by
  have e := need_guard_bad hd S
  unfold F_rest_by b_rest_by
  rw [runB_e]
  generalize F_need_guard = F at *
  simp -implicitDefEqProofs [e]
theorem with_guard_odd {d : D} (hd : d ∈ oddD) (b : D) (S : Store) : F_with_guard [d, b] S = .exc (badB "guard") S := by
  have e := need_guard_bad hd S
  unfold F_with_guard b_with_guard
  rw [runB_e]
  generalize F_need_guard = F at *
  simp -implicitDefEqProofs [e]
theorem rest_by_bad {G : List Bool} {g : Nat} (h : GL G g) {d : D} (hd : d ∈ badD) (S : Store) : F_rest_by [.str (bT G), d] S = .exc (badB "bits") S := by
  have e := need_guard_e h S
  have e2 := need_bits_bad hd S
  unfold F_rest_by b_rest_by
  rw [runB_e]
  generalize F_need_guard = F at *
  generalize F_need_bits = F2 at *
  simp -implicitDefEqProofs [e, e2]
theorem with_guard_bad {G : List Bool} {g : Nat} (h : GL G g) {d : D} (hd : d ∈ badD) (S : Store) : F_with_guard [.str (bT G), d] S = .exc (badB "bits") S := by
  have e := need_guard_e h S
  have e2 := need_bits_bad hd S
  unfold F_with_guard b_with_guard
  rw [runB_e]
  generalize F_need_guard = F at *
  generalize F_need_bits = F2 at *
  simp -implicitDefEqProofs [e, e2]
theorem changed_bad {d : D} (hd : d ∈ badD) (f : D) (S : Store) : F_changed [d, f] S = .exc (badB "bits") S := by
  have e2 := need_bits_bad hd S
  unfold F_changed b_changed
  rw [runB_e]
  generalize F_need_bits = F2 at *
  simp -implicitDefEqProofs [e2]
end K05
end
section
set_option Elab.async false
set_option linter.all false
set_option maxRecDepth 100000
set_option maxHeartbeats 4000000
/-! what is refused: places -/
namespace K05
open PySem PySem.Spec PyProof.Rows L2 VS
theorem all_within (xs : List D) (n : Nat) (hk : ∀ d ∈ xs, known d = true) (hl : xs.length ≤ 900) (ρ : VS.Env) (h1 : ρ[1]? = some (some (.int (n : Int)))) (h2 : 2 < ρ.length) (S : Store) :
    lcS (.seq (.lst xs)) (gVar 2) tAll (sApp 3 F_is_within (aCons (sVar 2) (aCons (sC (.int 0)) (aCons (sBin subD (sVar 1) (sC (.int 1))) aNil)))) [2] ρ (xs.length + 1) 0 [] S = .ok (xs.map fun d => D.bl (within 0 ((n : Int) - 1) d)) S := by
  refine lc_encA (src := .seq (.lst xs)) (gt := gVar 2) (te := sApp 3 F_is_within (aCons (sVar 2) (aCons (sC (.int 0)) (aCons (sBin subD (sVar 1) (sC (.int 1))) aNil)))) (vs := [2]) (ρ := ρ) (S := S) xs id (fun d => .bl (within 0 ((n : Int) - 1) d)) (fun i => by simp [Src.at, lookL]) (small_size (by omega)) (fun d hd => ⟨_, rfl, ?_⟩) (by omega)
  have a := is_within_e d 0 ((n : Int) - 1) S (hk d hd)
  have g1 : (wipeE ρ [2])[1]? = some (some (.int (n : Int))) := by
    show (ρ.set 2 none)[1]? = _
    rw [List.getElem?_set_ne (by decide), h1]
  have g2 : ((wipeE ρ [2]).set 2 (some d))[2]? = some (some d) := by
    show ((ρ.set 2 none).set 2 (some d))[2]? = _
    rw [List.getElem?_set_self (by rw [List.length_set]; exact h2)]
  generalize F_is_within = F at *
  simp -implicitDefEqProofs [g1, g2, a]
theorem is_change_out (xs : List D) (n : Nat) (hk : ∀ d ∈ xs, known d = true) (hl : xs.length ≤ 900) (h : (xs.all fun d => within 0 ((n : Int) - 1) d) = false) (S : Store) : F_is_change [.lst xs, .int (n : Int)] S = .ok (.bl false) S := by
  have e1 := all_within xs n hk hl [some (.lst xs), some (.int (n : Int)), none, none] rfl (by simp) S
  have e2 := all_bools xs (fun d => within 0 ((n : Int) - 1) d) S
  rw [h] at e2
  have e7 : F_is_listed [.lst xs] S = .ok (.bl true) S := is_listed_e _ S rfl
  unfold F_is_change b_is_change
  rw [runB_e]
  show fin S.length ((sSeq _ _) [some (.lst xs), some (.int (n : Int)), none, none] S) = _
  generalize sApp 3 F_is_within (aCons (sVar 2) (aCons (sC (.int 0)) (aCons (sBin subD (sVar 1) (sC (.int 1))) aNil))) = t1 at *
  generalize (xs.map fun d => D.bl (within 0 ((n : Int) - 1) d)) = R1 at *
  generalize F_is_listed = F at *
  simp -implicitDefEqProofs [e7, Src.len, lookL, e1, e2]
theorem is_change_odd {d : D} (hk : known d = true) (hl : isL d = false) (n : D) (S : Store) : F_is_change [d, n] S = .ok (.bl false) S := by
  have e7 := is_listed_e d S hk
  rw [hl] at e7
  unfold F_is_change b_is_change
  rw [runB_e]
  generalize F_is_listed = F at *
  simp -implicitDefEqProofs [e7]
theorem is_change_two (a b : Nat) (n : Nat) (ha : a < n) (hb : b < n) (hab : b ≤ a) (S : Store) : F_is_change [.lst [.int (a : Int), .int (b : Int)], .int (n : Int)] S = .ok (.bl false) S := by
  have e1 := all_within [.int (a : Int), .int (b : Int)] n (by simp [known]) (by simp) [some (.lst [.int (a : Int), .int (b : Int)]), some (.int (n : Int)), none, none] rfl (by simp) S
  have e2 := all_bools [D.int (a : Int), .int (b : Int)] (fun d => within 0 ((n : Int) - 1) d) S
  have h : ([D.int (a : Int), .int (b : Int)].all fun d => within 0 ((n : Int) - 1) d) = true := by
    simp [within]
    omega
  rw [h] at e2
  have e7 : F_is_listed [.lst [.int (a : Int), .int (b : Int)]] S = .ok (.bl true) S := is_listed_e _ S rfl
  have e3 := lc_encA (src := .rng 0 1) (gt := gVar 3) (te := (sBin ltD (sBin ixGet (sVar 0) (sVar 3)) (sBin ixGet (sVar 0) (sBin addD (sVar 3) (sC (.int 1)))))) (vs := [3]) (ρ := [some (.lst [.int (a : Int), .int (b : Int)]), some (.int (n : Int)), none, none]) (S := S) (List.range 1) (fun (i : Nat) => D.int (i : Int)) (fun _ => .bl false) (fun i => by
      by_cases hi : i < 1
      · have : i = 0 := by omega
        subst this
        rfl
      · simp [Src.at, hi]) (small_size (by simp))
    (fun k hk => ⟨_, rfl, by
      have hk' : k = 0 := by simpa using hk
      subst hk'
      have a1 := ixL_e [D.int (a : Int), .int (b : Int)] 0 (by simp) S
      have a2 := ixL_e [D.int (a : Int), .int (b : Int)] 1 (by simp) S
      have a3 : ¬ (a : Int) < (b : Int) := by omega
      generalize (a : Int) = x at *
      generalize (b : Int) = y at *
      simp at a1 a2
      simp -implicitDefEqProofs [wipeE, a1, a2, a3]⟩) (m := 2) (by simp)
  have e4 : allD [.lst [.bl false]] S = .ok (.bl false) S := rfl
  unfold F_is_change b_is_change
  rw [runB_e]
  show fin S.length ((sSeq _ _) [some (.lst [.int (a : Int), .int (b : Int)]), some (.int (n : Int)), none, none] S) = _
  generalize sApp 3 F_is_within (aCons (sVar 2) (aCons (sC (.int 0)) (aCons (sBin subD (sVar 1) (sC (.int 1))) aNil))) = t1 at *
  generalize (sBin ltD (sBin ixGet (sVar 0) (sVar 3)) (sBin ixGet (sVar 0) (sBin addD (sVar 3) (sC (.int 1))))) = t2 at *
  simp only [List.map_cons, List.map_nil, List.length_cons, List.length_nil, Nat.zero_add, Nat.reduceAdd, List.range_one] at e1 e2 e3
  generalize within 0 ((n : Int) - 1) (.int (a : Int)) = w1 at *
  generalize within 0 ((n : Int) - 1) (.int (b : Int)) = w2 at *
  generalize F_is_listed = F at *
  simp -implicitDefEqProofs [e7, Src.len, lookL, e1, e2, e3, e4]
theorem is_change_bad {d : D} {n : Nat} (hn : 2 ≤ n) (hd : d ∈ fewD n) (S : Store) : F_is_change [d, .int (n : Int)] S = .ok (.bl false) S := by
  simp only [fewD, List.mem_cons, List.not_mem_nil, or_false] at hd
  rcases hd with rfl | rfl | rfl | rfl | rfl | rfl | rfl | rfl | rfl | rfl
  · exact is_change_out _ n (by simp [known]) (by simp) (by first | (simp [within]; done) | (simp [within]; omega)) S
  · exact is_change_out _ n (by simp [known]) (by simp) (by first | (simp [within]; done) | (simp [within]; omega)) S
  · exact is_change_two 1 0 n (by omega) (by omega) (by omega) S
  · exact is_change_two 0 0 n (by omega) (by omega) (by omega) S
  · exact is_change_out _ n (by simp [known]) (by simp) (by first | (simp [within]; done) | (simp [within]; omega)) S
  · exact is_change_odd rfl rfl _ S
  · exact is_change_odd rfl rfl _ S
  · exact is_change_odd rfl rfl _ S
  · exact is_change_out _ n (by simp [known]) (by simp) (by first | (simp [within]; done) | (simp [within]; omega)) S
  · exact is_change_out _ n (by simp [known]) (by simp) (by first | (simp [within]; done) | (simp [within]; omega)) S
theorem changed_few {l : List Bool} {d : D} (h2 : 2 ≤ l.length) (hl : l.length ≤ 900) (hd : d ∈ fewD l.length) (S : Store) : F_changed [.str (bT l), d] S = .exc (badR "places") S := by
  have e1 := need_bits_e l (by omega) (.str "bits") S
  have e2 := is_change_bad h2 hd S
  have e4 := len_bT l S (by omega)
  clear hd
  unfold F_changed b_changed
  rw [runB_e]
  generalize (l.length : Int) = A at *
  generalize F_need_bits = F1 at *
  generalize F_is_change = F2 at *
  simp -implicitDefEqProofs [e1, e2, e4]
end K05
end
section
set_option Elab.async false
set_option linter.all false
set_option maxRecDepth 100000
set_option maxHeartbeats 4000000
/-! what is refused: the law's turn -/
namespace K05
open PySem PySem.Spec PyProof.Rows L2 VS
noncomputable abbrev rf1 : SS := (sAsg (sApp 2 F__law_pick (aCons (sVar 0) (aCons (immF (fLst (aCons (sC (.str "")) (aCons (sC (.str "1")) (aCons (sC (.str "01")) (aCons (sC (.str "10")) (aCons (sBin mulA (sC (.str "1")) (sC (.int 18))) (aCons (sC .non) (aCons (sC (.int 11)) (aCons (immF (fLst (aCons (sC (.str "1")) (aCons (sC (.str "1")) aNil)))) (aCons (sC (.str "1 1")) aNil))))))))))) aNil))) (gVar 6))
noncomputable abbrev rf2 : SS := (sAsg (sApp 2 F__law_pick (aCons (sVar 0) (aCons (immF (fLst (aCons (sC .non) (aCons (sC (.int 0)) (aCons (sC (.str "012")) (aCons (sC (.str "1 ")) (aCons (immF (fLst (aCons (sC (.str "0")) aNil))) (aCons (sTup (aCons (sC (.str "1")) aNil)) (aCons (sC (.str "O")) aNil))))))))) aNil))) (gVar 4))
noncomputable abbrev rf3 : SS := (sAsg (sApp 2 F__law_pick (aCons (sVar 0) (aCons (immF (fLst (aCons (immF (fLst (aCons (sCall lenD (aCons (sVar 2) aNil)) aNil))) (aCons (immF (fLst (aCons (sNeg (sC (.int 1))) aNil))) (aCons (immF (fLst (aCons (sC (.int 1)) (aCons (sC (.int 0)) aNil)))) (aCons (immF (fLst (aCons (sC (.int 0)) (aCons (sC (.int 0)) aNil)))) (aCons (immF (fLst (aCons (sC (.bl true)) aNil))) (aCons (sC .non) (aCons (sC (.str "0")) (aCons (sC (.int 0)) (aCons (immF (fLst (aCons (sC .non) aNil))) (aCons (immF (fLst (aCons (sC (.int 0)) (aCons (sC (.str "1")) aNil)))) aNil)))))))))))) aNil))) (gVar 5))
noncomputable abbrev rf4 : SS := (sAsg (immF (fLst (aCons (sHeard H__law_heard (sApp 2 F_rest_by (aCons (sVar 6) (aCons (sVar 4) aNil)))) (aCons (sHeard H__law_heard (sApp 2 F_with_guard (aCons (sVar 6) (aCons (sVar 2) aNil)))) aNil)))) (gVar 3))
noncomputable abbrev rf5 : SS := (sAsg (sBin addD (sVar 3) (immF (fLst (aCons (sHeard H__law_heard (sApp 2 F_rest_by (aCons (sVar 1) (aCons (sVar 4) aNil)))) (aCons (sHeard H__law_heard (sApp 2 F_with_guard (aCons (sVar 1) (aCons (sVar 4) aNil)))) aNil))))) (gVar 3))
noncomputable abbrev rf6 : SS := (sAsg (sBin addD (sVar 3) (immF (fLst (aCons (sHeard H__law_heard (sApp 2 F_changed (aCons (sVar 4) (aCons (sVar 5) aNil)))) (aCons (sHeard H__law_heard (sApp 2 F_changed (aCons (sVar 2) (aCons (sVar 5) aNil)))) aNil))))) (gVar 3))
noncomputable abbrev rf7 : SS := (sIte (tTru (sBin neD (sVar 3) (sBin addD (sBin addD (sBin mulA (immF (fLst (aCons (sTup (aCons (sC (.str "bits")) (aCons (sC (.str "guard")) aNil))) aNil))) (sC (.int 2))) (sBin mulA (immF (fLst (aCons (sTup (aCons (sC (.str "bits")) (aCons (sC (.str "bits")) aNil))) aNil))) (sC (.int 3)))) (immF (fLst (aCons (sTup (aCons (sC (.str "row")) (aCons (sC (.str "places")) aNil))) aNil)))))) (sRet (sC (.bl false))) sSkip)
noncomputable abbrev rf8 : SS := (sRet (sBin eqD (immF (fLst (aCons (sApp 2 F_changed (aCons (sVar 2) (aCons (immF (fLst aNil)) aNil))) (aCons (sApp 2 F_changed (aCons (sC (.str "")) (aCons (sTup aNil) aNil))) (aCons (sApp 2 F_rest_by (aCons (sVar 1) (aCons (sC (.str "")) aNil))) aNil))))) (immF (fLst (aCons (sVar 2) (aCons (sC (.str "")) (aCons (sBin mulA (sC (.str "0")) (sBin subD (sCall lenD (aCons (sVar 1) aNil)) (sC (.int 1)))) aNil)))))))
theorem rf_all : b__law_refused = (sSeq rf1 (sSeq rf2 (sSeq rf3 (sSeq rf4 (sSeq rf5 (sSeq rf6 (sSeq rf7 rf8))))))) := rfl
def partC : List (Nat × String) := [(2, "bits"), (5, "row")]
theorem heard_part {th : Store → R D} {S : Store} {c : Nat} {d : D} {nm : String} (hS : Own S) (hd : noCel d = true) (h : th S = .exc ⟨c, [("part", d)]⟩ S) (hc : (c, nm) ∈ partC) : H__law_heard th S = .ok (.tup [.str (Str.ofString nm), d]) S := heardH_eq fun d0 => by
  unfold s__law_heard
  rw [runB_e]
  have hs : sub c 0 = true := by
    simp only [partC, List.mem_cons, List.not_mem_nil, or_false, Prod.mk.injEq] at hc
    rcases hc with ⟨rfl, _⟩ | ⟨rfl, _⟩ <;> rfl
  have t : sTry sub cBellError 3 (sAsg (fun _ T => th T) (gVar 2)) (sAsg (sVar 3) (gVar 1)) [some d0, some .non, some .non, none, none] S = .nx [some d0, some (.exc c [("part", d)]), some .non, none, none] S :=
    try_exc (x := ⟨c, [("part", d)]⟩) (ρ1 := [some d0, some .non, some .non, none, none]) (ρ2 := [some d0, some (.exc c [("part", d)]), some .non, some (.exc c [("part", d)]), none]) (by rw [asg_e, h]; rfl) hs rfl
  have a1 : sAsg (sTup (aCons (sC .non) (aCons (sC .non) aNil))) (gSeq 2 (gsCons (gVar 1) (gsCons (gVar 2) gsNil))) [some d0, none, none, none, none] S = .nx [some d0, some .non, some .non, none, none] S := rfl
  have a2 : sIte (tTru (sBin isD (sVar 1) (sC .non))) (sRet (immF (fLst (aCons (sVar 2) aNil)))) sSkip [some d0, some (.exc c [("part", d)]), some .non, none, none] S = .nx [some d0, some (.exc c [("part", d)]), some .non, none, none] S := rfl
  have a3 : sAsg (mutF (fLst aNil)) (gVar 4) [some d0, some (.exc c [("part", d)]), some .non, none, none] S = .nx [some d0, some (.exc c [("part", d)]), some .non, none, some (.cel S.length)] (S ++ [.lst []]) := rfl
  have a4 : (sRet (sIf (tAndF (tTru (sBin eqD (sCall lenD (aCons (sVar 4) aNil)) (sC (.int 1)))) (tTru (sIsVE (sVar 1)))) (sBin ixGet (sVar 4) (sC (.int 0))) (sTup (aCons (sC (.str "odd")) (aCons (sCall lenD (aCons (sVar 4) aNil)) aNil))))) [some d0, some (.exc c [("part", d)]), some .non, none, some (.cel S.length)] (S ++ [.lst [.tup [.str (Str.ofString nm), d]]]) = .ret (.tup [.str (Str.ofString nm), d]) (S ++ [.lst [.tup [.str (Str.ofString nm), d]]]) := by
    have b1 : ixGet (.cel S.length) (.int 0) (S ++ [.lst [.tup [.str (Str.ofString nm), d]]]) = .ok (.tup [.str (Str.ofString nm), d]) (S ++ [.lst [.tup [.str (Str.ofString nm), d]]]) := ix_cell S [.tup [.str (Str.ofString nm), d]] 0 (by simp)
    have b2 : lenD [.cel S.length] (S ++ [.lst [.tup [.str (Str.ofString nm), d]]]) = .ok (.int 1) (S ++ [.lst [.tup [.str (Str.ofString nm), d]]]) := by
      show (match lookL (S ++ [Cell.lst [D.tup [.str (Str.ofString nm), d]]]) (.cel S.length) with
        | some xs => R.ok (D.int xs.length) (S ++ [Cell.lst [D.tup [.str (Str.ofString nm), d]]])
        | none => .bad) = _
      rw [look_last]
      rfl
    generalize S ++ [.lst [.tup [.str (Str.ofString nm), d]]] = S1 at *
    simp -implicitDefEqProofs [b1, b2]
  show fin S.length ((sSeq _ (sSeq _ _)) [some d0, none, none, none, none] S) = _
  rw [seqS_e, a1, seq_nx, seqS_e, t, seq_nx, seqS_e, a2, seq_nx, seqS_e, a3, seq_nx]
  have fi : fin S.length (.ret (.tup [.str (Str.ofString nm), d]) (S ++ [.lst [.tup [.str (Str.ofString nm), d]]])) = .ok (.tup [.str (Str.ofString nm), d]) S := by
    rw [fin_ret]
    exact cut_last hS _ _ (by simp [noCel, noCels, hd])
  have hl : ([] : List D).length < sizeLine := small_size (by simp)
  simp only [partC, List.mem_cons, List.not_mem_nil, or_false, Prod.mk.injEq] at hc
  rcases hc with ⟨rfl, rfl⟩ | ⟨rfl, rfl⟩
  · rw [seqS_e, tell_no rfl rfl, seq_nx, seqS_e, tell_yes (d := d) (xs := []) rfl rfl rfl rfl rfl hl, seq_nx]
    simp only [List.nil_append]
    iterate 9 rw [seqS_e, tell_no rfl rfl, seq_nx]
    rw [a4, fi]
  · iterate 4 rw [seqS_e, tell_no rfl rfl, seq_nx]
    rw [seqS_e, tell_yes (d := d) (xs := []) rfl rfl rfl rfl rfl hl, seq_nx]
    simp only [List.nil_append]
    iterate 6 rw [seqS_e, tell_no rfl rfl, seq_nx]
    rw [a4, fi]
theorem heard_ans {f : SE} {ρ : VS.Env} {S : Store} {c : Nat} {d : D} {nm : String} (hS : Own S) (hd : noCel d = true) (h : f ρ S = .exc ⟨c, [("part", d)]⟩ S) (hc : (c, nm) ∈ partC) : sHeard H__law_heard f ρ S = .ok (.tup [.str (Str.ofString nm), d]) S := by
  rw [heard_e, heard_part (th := f ρ) hS hd h hc]
theorem app2_x {F : Fn} {i j : Nat} {ρ : VS.Env} {S : Store} {a b : D} {x : Ex} (h : ρ[i]? = some (some a)) (h2 : ρ[j]? = some (some b)) (e : F [a, b] S = .exc x S) : sApp 2 F (aCons (sVar i) (aCons (sVar j) aNil)) ρ S = .exc x S := by simp -implicitDefEqProofs [h, h2, e]
abbrev bg : D := .tup [st "bits", st "guard"]
abbrev bb : D := .tup [st "bits", st "bits"]
abbrev rp : D := .tup [st "row", st "places"]
section
variable {G l : List Bool} {g : Nat} {od ba fe : D} {p : Cell}
abbrev Er (G l : List Bool) (h b f o : Option D) : VS.Env := [some (.cel 0), some (.str (bT G)), some (.str (bT l)), h, b, f, o]
theorem rf1_e {N : Nat} (hp : IsPen N p) (hN : N ≤ 800000) : ∃ (od : D) (p' : Cell), od ∈ oddD ∧ IsPen (N + 1) p' ∧ rf1 (Er G l none none none none) [p] = .nx (Er G l none none none (some od)) [p'] := by
  obtain ⟨x, p1, h1, h2, e⟩ := picks N p [] oddD hp (by omega) (by simp [oddD]) (by simp [oddD])
  refine ⟨x, p1, h1, h2, ?_⟩
  have m : mulA (.str "1") (.int 18) [p] = .ok (st "111111111111111111") [p] := rfl
  unfold oddD at e
  unfold rf1
  generalize F__law_pick = F at *
  simp -implicitDefEqProofs [m, e]
theorem rf2_e {N : Nat} (hp : IsPen N p) (hN : N ≤ 800000) : ∃ (ba : D) (p' : Cell), ba ∈ badD ∧ IsPen (N + 1) p' ∧ rf2 (Er G l none none none (some od)) [p] = .nx (Er G l none (some ba) none (some od)) [p'] := by
  obtain ⟨x, p1, h1, h2, e⟩ := picks N p [] badD hp (by omega) (by simp [badD]) (by simp [badD])
  refine ⟨x, p1, h1, h2, ?_⟩
  unfold badD at e
  unfold rf2
  generalize F__law_pick = F at *
  simp -implicitDefEqProofs [e]
theorem rf3_e {N : Nat} (hl : l.length ≤ 900) (hp : IsPen N p) (hN : N ≤ 800000) : ∃ (fe : D) (p' : Cell), fe ∈ fewD l.length ∧ IsPen (N + 1) p' ∧ rf3 (Er G l none (some ba) none (some od)) [p] = .nx (Er G l none (some ba) (some fe) (some od)) [p'] := by
  obtain ⟨x, p1, h1, h2, e⟩ := picks N p [] (fewD l.length) hp (by omega) (by simp [fewD]) (by simp [fewD])
  refine ⟨x, p1, h1, h2, ?_⟩
  have e3 := len_bT l [p] (by omega)
  clear h1
  unfold fewD at e
  unfold rf3
  generalize F__law_pick = F at *
  generalize (l.length : Int) = A at *
  simp -implicitDefEqProofs [e3, e]
theorem rf4_e (hS : Own [p]) (h1 : od ∈ oddD) : rf4 (Er G l none (some ba) (some fe) (some od)) [p] = .nx (Er G l (some (.lst [bg, bg])) (some ba) (some fe) (some od)) [p] := by
  have a1 := heard_ans (nm := "bits") hS (by rfl) (app2_x (i := 6) (j := 4) (ρ := Er G l none (some ba) (some fe) (some od)) rfl rfl (rest_by_odd h1 ba [p])) (by simp [partC])
  have a2 := heard_ans (nm := "bits") hS (by rfl) (app2_x (i := 6) (j := 2) (ρ := Er G l none (some ba) (some fe) (some od)) rfl rfl (with_guard_odd h1 (.str (bT l)) [p])) (by simp [partC])
  unfold rf4
  generalize sHeard H__law_heard (sApp 2 F_rest_by (aCons (sVar 6) (aCons (sVar 4) aNil))) = u1 at *
  generalize sHeard H__law_heard (sApp 2 F_with_guard (aCons (sVar 6) (aCons (sVar 2) aNil))) = u2 at *
  simp -implicitDefEqProofs [a1, a2]
theorem add_lists (xs ys : List D) (h : xs.length + ys.length ≤ 1000) (S : Store) : addD (.lst xs) (.lst ys) S = .ok (.lst (xs ++ ys)) S := by
  show fitL (xs ++ ys) S = _
  unfold fitL
  rw [if_pos (Nat.le_of_lt (small_size (by simp; omega)))]
theorem rf5_e (hS : Own [p]) (hG : GL G g) (h1 : ba ∈ badD) : rf5 (Er G l (some (.lst [bg, bg])) (some ba) (some fe) (some od)) [p] = .nx (Er G l (some (.lst [bg, bg, bb, bb])) (some ba) (some fe) (some od)) [p] := by
  have a1 := heard_ans (nm := "bits") hS (by rfl) (app2_x (i := 1) (j := 4) (ρ := Er G l (some (.lst [bg, bg])) (some ba) (some fe) (some od)) rfl rfl (rest_by_bad hG h1 [p])) (by simp [partC])
  have a2 := heard_ans (nm := "bits") hS (by rfl) (app2_x (i := 1) (j := 4) (ρ := Er G l (some (.lst [bg, bg])) (some ba) (some fe) (some od)) rfl rfl (with_guard_bad hG h1 [p])) (by simp [partC])
  have a3 := add_lists [bg, bg] [bb, bb] (by simp) [p]
  unfold rf5
  generalize sHeard H__law_heard (sApp 2 F_rest_by (aCons (sVar 1) (aCons (sVar 4) aNil))) = u1 at *
  generalize sHeard H__law_heard (sApp 2 F_with_guard (aCons (sVar 1) (aCons (sVar 4) aNil))) = u2 at *
  simp only [List.cons_append, List.nil_append] at a3
  simp -implicitDefEqProofs [a1, a2, a3]
theorem rf6_e (hS : Own [p]) (h1 : ba ∈ badD) (h2 : 2 ≤ l.length) (hl : l.length ≤ 900) (h3 : fe ∈ fewD l.length) : rf6 (Er G l (some (.lst [bg, bg, bb, bb])) (some ba) (some fe) (some od)) [p] = .nx (Er G l (some (.lst [bg, bg, bb, bb, bb, rp])) (some ba) (some fe) (some od)) [p] := by
  have a1 := heard_ans (nm := "bits") hS (by rfl) (app2_x (i := 4) (j := 5) (ρ := Er G l (some (.lst [bg, bg, bb, bb])) (some ba) (some fe) (some od)) rfl rfl (changed_bad h1 fe [p])) (by simp [partC])
  have a2 := heard_ans (nm := "row") hS (by rfl) (app2_x (i := 2) (j := 5) (ρ := Er G l (some (.lst [bg, bg, bb, bb])) (some ba) (some fe) (some od)) rfl rfl (changed_few h2 hl h3 [p])) (by simp [partC])
  have a3 := add_lists [bg, bg, bb, bb] [bb, rp] (by simp) [p]
  unfold rf6
  generalize sHeard H__law_heard (sApp 2 F_changed (aCons (sVar 4) (aCons (sVar 5) aNil))) = u1 at *
  generalize sHeard H__law_heard (sApp 2 F_changed (aCons (sVar 2) (aCons (sVar 5) aNil))) = u2 at *
  simp only [List.cons_append, List.nil_append] at a3
  simp -implicitDefEqProofs [a1, a2, a3]
theorem rf7_e : rf7 (Er G l (some (.lst [bg, bg, bb, bb, bb, rp])) (some ba) (some fe) (some od)) [p] = .nx (Er G l (some (.lst [bg, bg, bb, bb, bb, rp])) (some ba) (some fe) (some od)) [p] := by
  have a1 : mulA (.lst [bg]) (.int 2) [p] = .ok (.lst [bg, bg]) [p] := rfl
  have a2 : mulA (.lst [bb]) (.int 3) [p] = .ok (.lst [bb, bb, bb]) [p] := rfl
  have a3 := add_lists [bg, bg] [bb, bb, bb] (by simp) [p]
  have a4 := add_lists [bg, bg, bb, bb, bb] [rp] (by simp) [p]
  simp only [List.cons_append, List.nil_append] at a3 a4
  have a5 := ne_self (d := .lst [bg, bg, bb, bb, bb, rp]) [p] (by simp [cmpD, cmpL, ok_of]) (by simp [dpD, dpL])
  unfold rf7
  simp -implicitDefEqProofs [a1, a2, a3, a4, a5]
theorem ok_bT (l : List Bool) : PyData.strOk (bT l) = true := bT_ok l
theorem rf8_e (hS : Own [p]) (hG : GL G g) (hl : l.length ≤ 900) : rf8 (Er G l (some (.lst [bg, bg, bb, bb, bb, rp])) (some ba) (some fe) (some od)) [p] = .ret (.bl true) [p] := by
  have hf := hG.few
  have hn := hG.len
  have a1 := changed_e l true [] List.Pairwise.nil (by simp) hl (by simp) [p] hS
  have a2 := changed_e [] false [] List.Pairwise.nil (by simp) (by simp) (by simp) [p] hS
  have a3 := rest_by_e hG [] (by simp) [p]
  have a4 : RT G g [] = List.replicate g false := by
    show digs 0 g = _
    exact digs_zero g
  rw [chg_nil, show pl true [] = .lst [] from rfl] at a1
  rw [chg_nil, show pl false [] = .tup [] from rfl] at a2
  rw [a4] at a3
  have a5 := mul_bT false g [p] (by omega)
  have a6 := len_bT G [p] (by omega)
  have a7 : (G.length : Int) - 1 = (g : Int) := by omega
  have a8 := eq_self (d := .lst [.str (bT l), .str (bT []), .str (bT (List.replicate g false))]) [p] (by simp [cmpD, cmpL, ok_bT]) (by simp [dpD, dpL])
  unfold rf8
  generalize List.replicate g false = Z at *
  generalize (G.length : Int) = A at *
  generalize F_changed = F1 at *
  generalize F_rest_by = F2 at *
  simp -implicitDefEqProofs [bT_nil, bT_0, a1, a2, a3, a5, a6, a7, a8]
end
theorem refused_e {G l : List Bool} {g N : Nat} {p : Cell} (hG : GL G g) (h2 : 2 ≤ l.length) (hl : l.length ≤ 900) (hp : IsPen N p) (hN : N ≤ 600000) : ∃ p', IsPen (N + 3) p' ∧ F__law_refused [.cel 0, .str (bT G), .str (bT l)] [p] = .ok (.bl true) [p'] := by
  obtain ⟨od, p1, h1, hp1, e1⟩ := rf1_e (G := G) (l := l) hp (by omega)
  obtain ⟨ba, p2, h3, hp2, e2⟩ := rf2_e (G := G) (l := l) (od := od) hp1 (by omega)
  obtain ⟨fe, p3, h4, hp3, e3⟩ := rf3_e (G := G) (l := l) (od := od) (ba := ba) hl hp2 (by omega)
  have hS : Own [p3] := own_pen hp3
  have e4 := rf4_e (G := G) (l := l) (ba := ba) (fe := fe) hS h1
  have e5 := rf5_e (l := l) (od := od) (fe := fe) hS hG h3
  have e6 := rf6_e (G := G) (od := od) hS h3 h2 hl h4
  have e7 := rf7_e (G := G) (l := l) (od := od) (ba := ba) (fe := fe) (p := p3)
  have e8 := rf8_e (od := od) (ba := ba) (fe := fe) hS hG hl
  refine ⟨p3, hp3, ?_⟩
  unfold F__law_refused
  rw [runB_e, rf_all]
  show fin 1 (sSeq rf1 _ (Er G l none none none none) [p]) = _
  rw [seqS_e, e1, seq_nx, seqS_e, e2, seq_nx, seqS_e, e3, seq_nx, seqS_e, e4, seq_nx, seqS_e, e5, seq_nx, seqS_e, e6, seq_nx, seqS_e, e7, seq_nx, e8, fin_ret]
  exact cut_self (S := [p3]) _
end K05
end
section
set_option Elab.async false
set_option linter.all false
set_option maxRecDepth 100000
set_option maxHeartbeats 4000000
/-! a turn of the law, whole -/
namespace K05
open PySem PySem.Spec PyProof.Rows L2 VS
theorem lr19_e {G W : List Bool} {d N : Nat} {b at' q z o nr ld wd : D} {il : Bool} {p : Cell} (h : GL G d) (h2 : 2 ≤ W.length) (hW : W.length ≤ 900) (hp : IsPen N p) (hN : N ≤ 600000) : ∃ p', IsPen (N + 3) p' ∧
    lr19 (Ez (some (.str (bT G))) (some (.int (d : Int))) (some b) (some (.str (bT W))) (some at') (some q) (some z) (some o) (some nr) (some ld) (some wd) (some (.bl il)) (some (.lst [.bl false, .bl (!il)]))) [p] = .ret (.bl true) [p'] := by
  obtain ⟨p1, hp1, e⟩ := refused_e h h2 hW hp hN
  refine ⟨p1, hp1, ?_⟩
  have e2 := eq_self (d := .lst [.bl false, .bl (!il)]) [p] (by simp [cmpD, cmpL]) (by simp [dpD, dpL])
  unfold lr19
  generalize F__law_refused = F at *
  simp -implicitDefEqProofs [e, e2]
theorem right_e {N : Nat} {p : Cell} (hp : IsPen N p) (hN : N ≤ 500000) : ∃ p', IsPen (N + 1000) p' ∧ F__law_right [.cel 0] [p] = .ok (.bl true) [p'] := by
  obtain ⟨G, d, p1, hG, hp1, e1⟩ := lr1_e hp (by omega)
  have e2 := lr2_e hG p1
  have hd := hG.gd.one
  have hf := hG.few
  obtain ⟨l, p3, hl, hp3, e3⟩ := lr3_e hG hp1 (by omega)
  have e4 := lr4_e hG hl p3 (own_pen hp3)
  have e5 := lr5_e hG hl p3
  have e6 := lr6_e hG hl p3
  have hw : (WG G d (l ++ [true])).length = l.length + 1 + d := by rw [WG_len]; simp
  obtain ⟨qs, p7, q1, q2, q3, hp7, e7⟩ := lr7_e (g := .str (bT G)) (d := .int (d : Int)) (b := .str (bT l)) (W := WG G d (l ++ [true])) (by omega) hp3 (by omega)
  have e8 := lr8_e (g := .str (bT G)) (d := .int (d : Int)) (b := .str (bT l)) (q := pl true qs) (W := WG G d (l ++ [true])) (p := p7) (by omega)
  have e9 := lr9_e (g := .str (bT G)) (d := .int (d : Int)) (b := .str (bT l)) (z := some (.str (bT (List.replicate (WG G d (l ++ [true])).length false)))) (W := WG G d (l ++ [true])) (p := p7) (by omega) q1 q2 (by omega) (own_pen hp7)
  have e10 := lr10_e (l := l ++ [true]) (b := .str (bT l)) hG (by simp; omega) q1 q2 (by omega) (own_pen hp7)
  have e11 := lr11_e (t := .str (bT (WG G d (l ++ [true])))) (q := pl true qs) (z := .str (bT (List.replicate (WG G d (l ++ [true])).length false))) (o := .str (bT (chg (WG G d (l ++ [true])) qs))) (p := p7) hG hl
  obtain ⟨ps, f, p12, hps, l12, hp12, e12⟩ := lr12_e (g := .str (bT G)) (b := .str (bT l)) (q := pl true qs) (z := .str (bT (List.replicate (WG G d (l ++ [true])).length false))) (o := .str (bT (chg (WG G d (l ++ [true])) qs))) (W := WG G d (l ++ [true])) hd hf (by omega) (by omega) hp7 (by omega)
  have e13 := lr13_e (l := l ++ [true]) (b := .str (bT l)) (q := pl true qs) (z := .str (bT (List.replicate (WG G d (l ++ [true])).length false))) (o := .str (bT (chg (WG G d (l ++ [true])) qs))) hG (by simp; omega) hps (by omega) (own_pen hp12)
  obtain ⟨a, p14, ha, hp14, e14⟩ := lr14_e (g := .str (bT G)) (b := .str (bT l)) (q := pl true qs) (z := .str (bT (List.replicate (WG G d (l ++ [true])).length false))) (o := .str (bT (chg (WG G d (l ++ [true])) qs))) (nr := pl true ps) (W := WG G d (l ++ [true])) (d := d) (by omega) (by omega) hp12 (by omega)
  have e15 := lr15_e (a := a) (b := .str (bT l)) (t := .str (bT (WG G d (l ++ [true])))) (q := pl true qs) (z := .str (bT (List.replicate (WG G d (l ++ [true])).length false))) (o := .str (bT (chg (WG G d (l ++ [true])) qs))) (nr := pl true ps) (p := p14) hG (by omega)
  obtain ⟨ws, f2, p16, hws, l16, hp16, e16⟩ := lr16_e (g := .str (bT G)) (b := .str (bT l)) (q := pl true qs) (z := .str (bT (List.replicate (WG G d (l ++ [true])).length false))) (o := .str (bT (chg (WG G d (l ++ [true])) qs))) (nr := pl true ps) (ld := pl true (ones G a)) (a := .int (a : Int)) (W := WG G d (l ++ [true])) hf (by omega) (by omega) hp14 (by omega)
  have e17 := lr17_e (b := .str (bT l)) (t := .str (bT (WG G d (l ++ [true])))) (a := .int (a : Int)) (q := pl true qs) (z := .str (bT (List.replicate (WG G d (l ++ [true])).length false))) (o := .str (bT (chg (WG G d (l ++ [true])) qs))) (nr := pl true ps) (ld := pl true (ones G a)) (p := p16) hG hws
  have e18 := lr18_e (a := a) (l := l ++ [true]) (b := .str (bT l)) (at' := .int (a : Int)) (q := pl true qs) (z := .str (bT (List.replicate (WG G d (l ++ [true])).length false))) (o := .str (bT (chg (WG G d (l ++ [true])) qs))) (nr := pl true ps) (il := .bl (decide (ws = ones G f2))) hG (by simp; omega) ha hws (by omega) (own_pen hp16)
  obtain ⟨p19, hp19, e19⟩ := lr19_e (b := .str (bT l)) (at' := .int (a : Int)) (q := pl true qs) (z := .str (bT (List.replicate (WG G d (l ++ [true])).length false))) (o := .str (bT (chg (WG G d (l ++ [true])) qs))) (nr := pl true ps) (ld := pl true (ones G a)) (wd := pl true ws) (il := decide (ws = ones G f2)) (W := WG G d (l ++ [true])) hG (by omega) (by omega) hp16 (by omega)
  refine ⟨p19, hp19.mono (by omega), ?_⟩
  unfold F__law_right
  rw [runB_e, lr_all]
  show fin 1 (sSeq lr1 _ (Ev none none none none) [p]) = _
  rw [seqS_e, e1, seq_nx, seqS_e, e2, seq_nx, seqS_e, e3, seq_nx, seqS_e, e4, seq_nx, seqS_e, e5, seq_nx, seqS_e, e6, seq_nx, seqS_e, e7, seq_nx, seqS_e, e8, seq_nx, seqS_e, e9, seq_nx, seqS_e, e10, seq_nx, seqS_e]
  rw [show Ew (some (.str (bT G))) (some (.int (d : Int))) (some (.str (bT l))) (some (.str (bT (WG G d (l ++ [true]))))) (some (pl true qs)) (some (.str (bT (List.replicate (WG G d (l ++ [true])).length false)))) (some (.str (bT (chg (WG G d (l ++ [true])) qs)))) = Ex9 (some (.str (bT G))) (some (.int (d : Int))) (some (.str (bT l))) (some (.str (bT (WG G d (l ++ [true]))))) none (some (pl true qs)) (some (.str (bT (List.replicate (WG G d (l ++ [true])).length false)))) (some (.str (bT (chg (WG G d (l ++ [true])) qs)))) none from rfl]
  rw [e11, seq_nx, seqS_e, e12, seq_nx, seqS_e, e13, seq_nx, seqS_e, e14, seq_nx, seqS_e, e15, seq_nx, seqS_e, e16, seq_nx, seqS_e, e17, seq_nx, seqS_e, e18, seq_nx, e19, fin_ret]
  exact cut_self (S := [p19]) _
end K05
end
section
set_option Elab.async false
set_option linter.all false
set_option maxRecDepth 100000
set_option maxHeartbeats 4000000
/-! the law holds -/
namespace K05
open PySem PySem.Spec PyProof.Rows L2 VS
theorem law_true (ns : List Int) (hl : ns.length ≤ 63) (hb : ∀ z ∈ ns, Builtin.Int.intBits z ≤ 1048576) : ∃ S', runB N_law.length b_law [.scr (ns.map D.int)] [] = .ok (.bl true) S' := by
  obtain ⟨p, hp, e0⟩ := pen_e ns []
  obtain ⟨ρ', S', e, x2, p1, h1, h2, hp1⟩ := for_rng (gt := gVar 2) (body := (sIte (tNotF (tTru (sApp 1 F__law_right (aCons (sVar 1) aNil)))) (sRet (sC (.bl false))) sSkip)) (fun i ρ S => ∃ x2 p, ρ = [some (.scr (ns.map D.int)), some (.cel 0), x2] ∧ S = [p] ∧ IsPen (1000 * i) p) 4
    (fun i ρ S hi ⟨x2, p, h1, h2, hp⟩ => by
      subst h1 h2
      obtain ⟨p1, hp1, e1⟩ := right_e hp (by omega)
      refine ⟨_, _, rfl, [some (.scr (ns.map D.int)), some (.cel 0), some (.int (i : Int))], [p1], ?_, _, p1, rfl, rfl, hp1.mono (by rw [Nat.mul_succ]; omega)⟩
      revert e1
      generalize F__law_right = F1
      intro e1
      simp -implicitDefEqProofs [e1])
    (ρ := [some (.scr (ns.map D.int)), some (.cel 0), none]) (S := [p]) ⟨none, p, rfl, rfl, by simpa using hp⟩
  subst h1 h2
  have s1 : sAsg (sApp 1 F__law_pen (aCons (sVar 0) aNil)) (gVar 1) [some (.scr (ns.map D.int)), none, none] [] = .nx [some (.scr (ns.map D.int)), some (.cel 0), none] [p] := by
    revert e0
    generalize F__law_pen = F
    intro e0
    simp -implicitDefEqProofs [e0]
  refine ⟨[], ?_⟩
  · show runB 3 b_law [.scr (ns.map D.int)] [] = _
    unfold b_law
    rw [runB_e]
    show fin 0 ((sSeq _ (sSeq _ _)) [some (.scr (ns.map D.int)), none, none] []) = _
    rw [seqS_e, s1, seq_nx, seqS_e]
    revert e
    generalize (sIte (tNotF (tTru (sApp 1 F__law_right (aCons (sVar 1) aNil)))) (sRet (sC (.bl false))) sSkip) = B
    intro e
    simp -implicitDefEqProofs [Src.len, e]
    rfl
end K05
end
section
set_option Elab.async false
set_option pp.maxSteps 100
set_option linter.all false
set_option maxRecDepth 100000
set_option maxHeartbeats 8000000
/-! printed by gen.py: what the top has left, the end -/
namespace K05
open PySem PySem.Spec PyProof.Rows L2 VS
theorem all_mk {P : Program} {w : World} {K : PySem.W.Frag} {h : Heap} {mg : Str → Option Value} {fa : Addr} (X : K.In h) (G : h.Ns mainGlobals mg) (hfa : mg "law" = some (.ref fa)) (hsup : (P.main.scope.names.lookup ("super" : Str)).isSome = false)
    {C_BellError C_BadNumber C_BadBits C_BadTable C_BadBook C_BadRow C_BadPattern C_BadPaper C_Misfit C_BadText C_BadWord C_TooMany : Addr}
    {f__law_pen f_degree_of f_rest_number f_bits_of_rest f_rest_of f_is_bits f_is_guard f_need_guard f_need_bits f_rest_by f_guarded f_with_guard f_with_changes f_is_integer f_is_within f_is_listed f_is_change f_changed f__law_draw f__law_pick f__law_rest f__law_with_guard f__law_guard f__law_bits f__law_change f__law_sum f__law_places f__law_heard f__law_refused f__law_right f_law : Addr}
    {cL_law cL__law_refused Pt__law_refused : Addr}
    (aC_BellError : PySem.W.nsIn K mainGlobals "BellError" = some (some (.ref C_BellError)))
    (aC_BadNumber : PySem.W.nsIn K mainGlobals "BadNumber" = some (some (.ref C_BadNumber)))
    (aC_BadBits : PySem.W.nsIn K mainGlobals "BadBits" = some (some (.ref C_BadBits)))
    (aC_BadTable : PySem.W.nsIn K mainGlobals "BadTable" = some (some (.ref C_BadTable)))
    (aC_BadBook : PySem.W.nsIn K mainGlobals "BadBook" = some (some (.ref C_BadBook)))
    (aC_BadRow : PySem.W.nsIn K mainGlobals "BadRow" = some (some (.ref C_BadRow)))
    (aC_BadPattern : PySem.W.nsIn K mainGlobals "BadPattern" = some (some (.ref C_BadPattern)))
    (aC_BadPaper : PySem.W.nsIn K mainGlobals "BadPaper" = some (some (.ref C_BadPaper)))
    (aC_Misfit : PySem.W.nsIn K mainGlobals "Misfit" = some (some (.ref C_Misfit)))
    (aC_BadText : PySem.W.nsIn K mainGlobals "BadText" = some (some (.ref C_BadText)))
    (aC_BadWord : PySem.W.nsIn K mainGlobals "BadWord" = some (some (.ref C_BadWord)))
    (aC_TooMany : PySem.W.nsIn K mainGlobals "TooMany" = some (some (.ref C_TooMany)))
    {od__law_pen an__law_pen : Option Addr} {sl__law_pen : Array (Option Value)} {oc__law_pen kV__law_pen dc__law_pen pm__law_pen cd__law_pen ct__law_pen : Value}
    (a__law_pen : PySem.W.nsIn K mainGlobals "_law_pen" = some (some (.ref f__law_pen)))
    (l__law_pen : K.lookup f__law_pen = some ⟨oc__law_pen, od__law_pen, .func (PySem.W.fnOf "_law_pen" "_law_pen" (defArgs st__law_pen) (defBody st__law_pen) (defScope st__law_pen) .none kV__law_pen dc__law_pen pm__law_pen an__law_pen cd__law_pen ct__law_pen), sl__law_pen⟩)
    (c__law_pen : PySem.W.codeIn K cd__law_pen "_law_pen" = true)
    (k__law_pen : PySem.W.keepIn K (.ref f__law_pen) = true)
    {od_degree_of an_degree_of : Option Addr} {sl_degree_of : Array (Option Value)} {oc_degree_of kV_degree_of dc_degree_of pm_degree_of cd_degree_of ct_degree_of : Value}
    (a_degree_of : PySem.W.nsIn K mainGlobals "degree_of" = some (some (.ref f_degree_of)))
    (l_degree_of : K.lookup f_degree_of = some ⟨oc_degree_of, od_degree_of, .func (PySem.W.fnOf "degree_of" "degree_of" (defArgs st_degree_of) (defBody st_degree_of) (defScope st_degree_of) .none kV_degree_of dc_degree_of pm_degree_of an_degree_of cd_degree_of ct_degree_of), sl_degree_of⟩)
    (c_degree_of : PySem.W.codeIn K cd_degree_of "degree_of" = true)
    (k_degree_of : PySem.W.keepIn K (.ref f_degree_of) = true)
    {od_rest_number an_rest_number : Option Addr} {sl_rest_number : Array (Option Value)} {oc_rest_number kV_rest_number dc_rest_number pm_rest_number cd_rest_number ct_rest_number : Value}
    (a_rest_number : PySem.W.nsIn K mainGlobals "rest_number" = some (some (.ref f_rest_number)))
    (l_rest_number : K.lookup f_rest_number = some ⟨oc_rest_number, od_rest_number, .func (PySem.W.fnOf "rest_number" "rest_number" (defArgs st_rest_number) (defBody st_rest_number) (defScope st_rest_number) .none kV_rest_number dc_rest_number pm_rest_number an_rest_number cd_rest_number ct_rest_number), sl_rest_number⟩)
    (c_rest_number : PySem.W.codeIn K cd_rest_number "rest_number" = true)
    (k_rest_number : PySem.W.keepIn K (.ref f_rest_number) = true)
    {od_bits_of_rest an_bits_of_rest : Option Addr} {sl_bits_of_rest : Array (Option Value)} {oc_bits_of_rest kV_bits_of_rest dc_bits_of_rest pm_bits_of_rest cd_bits_of_rest ct_bits_of_rest : Value}
    (a_bits_of_rest : PySem.W.nsIn K mainGlobals "bits_of_rest" = some (some (.ref f_bits_of_rest)))
    (l_bits_of_rest : K.lookup f_bits_of_rest = some ⟨oc_bits_of_rest, od_bits_of_rest, .func (PySem.W.fnOf "bits_of_rest" "bits_of_rest" (defArgs st_bits_of_rest) (defBody st_bits_of_rest) (defScope st_bits_of_rest) .none kV_bits_of_rest dc_bits_of_rest pm_bits_of_rest an_bits_of_rest cd_bits_of_rest ct_bits_of_rest), sl_bits_of_rest⟩)
    (c_bits_of_rest : PySem.W.codeIn K cd_bits_of_rest "bits_of_rest" = true)
    (k_bits_of_rest : PySem.W.keepIn K (.ref f_bits_of_rest) = true)
    {od_rest_of an_rest_of : Option Addr} {sl_rest_of : Array (Option Value)} {oc_rest_of kV_rest_of dc_rest_of pm_rest_of cd_rest_of ct_rest_of : Value}
    (a_rest_of : PySem.W.nsIn K mainGlobals "rest_of" = some (some (.ref f_rest_of)))
    (l_rest_of : K.lookup f_rest_of = some ⟨oc_rest_of, od_rest_of, .func (PySem.W.fnOf "rest_of" "rest_of" (defArgs st_rest_of) (defBody st_rest_of) (defScope st_rest_of) .none kV_rest_of dc_rest_of pm_rest_of an_rest_of cd_rest_of ct_rest_of), sl_rest_of⟩)
    (c_rest_of : PySem.W.codeIn K cd_rest_of "rest_of" = true)
    (k_rest_of : PySem.W.keepIn K (.ref f_rest_of) = true)
    {od_is_bits an_is_bits : Option Addr} {sl_is_bits : Array (Option Value)} {oc_is_bits kV_is_bits dc_is_bits pm_is_bits cd_is_bits ct_is_bits : Value}
    (a_is_bits : PySem.W.nsIn K mainGlobals "is_bits" = some (some (.ref f_is_bits)))
    (l_is_bits : K.lookup f_is_bits = some ⟨oc_is_bits, od_is_bits, .func (PySem.W.fnOf "is_bits" "is_bits" (defArgs st_is_bits) (defBody st_is_bits) (defScope st_is_bits) .none kV_is_bits dc_is_bits pm_is_bits an_is_bits cd_is_bits ct_is_bits), sl_is_bits⟩)
    (c_is_bits : PySem.W.codeIn K cd_is_bits "is_bits" = true)
    (k_is_bits : PySem.W.keepIn K (.ref f_is_bits) = true)
    {od_is_guard an_is_guard : Option Addr} {sl_is_guard : Array (Option Value)} {oc_is_guard kV_is_guard dc_is_guard pm_is_guard cd_is_guard ct_is_guard : Value}
    (a_is_guard : PySem.W.nsIn K mainGlobals "is_guard" = some (some (.ref f_is_guard)))
    (l_is_guard : K.lookup f_is_guard = some ⟨oc_is_guard, od_is_guard, .func (PySem.W.fnOf "is_guard" "is_guard" (defArgs st_is_guard) (defBody st_is_guard) (defScope st_is_guard) .none kV_is_guard dc_is_guard pm_is_guard an_is_guard cd_is_guard ct_is_guard), sl_is_guard⟩)
    (c_is_guard : PySem.W.codeIn K cd_is_guard "is_guard" = true)
    (k_is_guard : PySem.W.keepIn K (.ref f_is_guard) = true)
    {od_need_guard an_need_guard : Option Addr} {sl_need_guard : Array (Option Value)} {oc_need_guard kV_need_guard dc_need_guard pm_need_guard cd_need_guard ct_need_guard : Value}
    (a_need_guard : PySem.W.nsIn K mainGlobals "need_guard" = some (some (.ref f_need_guard)))
    (l_need_guard : K.lookup f_need_guard = some ⟨oc_need_guard, od_need_guard, .func (PySem.W.fnOf "need_guard" "need_guard" (defArgs st_need_guard) (defBody st_need_guard) (defScope st_need_guard) .none kV_need_guard dc_need_guard pm_need_guard an_need_guard cd_need_guard ct_need_guard), sl_need_guard⟩)
    (c_need_guard : PySem.W.codeIn K cd_need_guard "need_guard" = true)
    (k_need_guard : PySem.W.keepIn K (.ref f_need_guard) = true)
    {od_need_bits an_need_bits : Option Addr} {sl_need_bits : Array (Option Value)} {oc_need_bits kV_need_bits dc_need_bits pm_need_bits cd_need_bits ct_need_bits : Value}
    (a_need_bits : PySem.W.nsIn K mainGlobals "need_bits" = some (some (.ref f_need_bits)))
    (l_need_bits : K.lookup f_need_bits = some ⟨oc_need_bits, od_need_bits, .func (PySem.W.fnOf "need_bits" "need_bits" (defArgs st_need_bits) (defBody st_need_bits) (defScope st_need_bits) .none kV_need_bits dc_need_bits pm_need_bits an_need_bits cd_need_bits ct_need_bits), sl_need_bits⟩)
    (c_need_bits : PySem.W.codeIn K cd_need_bits "need_bits" = true)
    (k_need_bits : PySem.W.keepIn K (.ref f_need_bits) = true)
    {od_rest_by an_rest_by : Option Addr} {sl_rest_by : Array (Option Value)} {oc_rest_by kV_rest_by dc_rest_by pm_rest_by cd_rest_by ct_rest_by : Value}
    (a_rest_by : PySem.W.nsIn K mainGlobals "rest_by" = some (some (.ref f_rest_by)))
    (l_rest_by : K.lookup f_rest_by = some ⟨oc_rest_by, od_rest_by, .func (PySem.W.fnOf "rest_by" "rest_by" (defArgs st_rest_by) (defBody st_rest_by) (defScope st_rest_by) .none kV_rest_by dc_rest_by pm_rest_by an_rest_by cd_rest_by ct_rest_by), sl_rest_by⟩)
    (c_rest_by : PySem.W.codeIn K cd_rest_by "rest_by" = true)
    (k_rest_by : PySem.W.keepIn K (.ref f_rest_by) = true)
    {od_guarded an_guarded : Option Addr} {sl_guarded : Array (Option Value)} {oc_guarded kV_guarded dc_guarded pm_guarded cd_guarded ct_guarded : Value}
    (a_guarded : PySem.W.nsIn K mainGlobals "guarded" = some (some (.ref f_guarded)))
    (l_guarded : K.lookup f_guarded = some ⟨oc_guarded, od_guarded, .func (PySem.W.fnOf "guarded" "guarded" (defArgs st_guarded) (defBody st_guarded) (defScope st_guarded) .none kV_guarded dc_guarded pm_guarded an_guarded cd_guarded ct_guarded), sl_guarded⟩)
    (c_guarded : PySem.W.codeIn K cd_guarded "guarded" = true)
    (k_guarded : PySem.W.keepIn K (.ref f_guarded) = true)
    {od_with_guard an_with_guard : Option Addr} {sl_with_guard : Array (Option Value)} {oc_with_guard kV_with_guard dc_with_guard pm_with_guard cd_with_guard ct_with_guard : Value}
    (a_with_guard : PySem.W.nsIn K mainGlobals "with_guard" = some (some (.ref f_with_guard)))
    (l_with_guard : K.lookup f_with_guard = some ⟨oc_with_guard, od_with_guard, .func (PySem.W.fnOf "with_guard" "with_guard" (defArgs st_with_guard) (defBody st_with_guard) (defScope st_with_guard) .none kV_with_guard dc_with_guard pm_with_guard an_with_guard cd_with_guard ct_with_guard), sl_with_guard⟩)
    (c_with_guard : PySem.W.codeIn K cd_with_guard "with_guard" = true)
    (k_with_guard : PySem.W.keepIn K (.ref f_with_guard) = true)
    {od_with_changes an_with_changes : Option Addr} {sl_with_changes : Array (Option Value)} {oc_with_changes kV_with_changes dc_with_changes pm_with_changes cd_with_changes ct_with_changes : Value}
    (a_with_changes : PySem.W.nsIn K mainGlobals "with_changes" = some (some (.ref f_with_changes)))
    (l_with_changes : K.lookup f_with_changes = some ⟨oc_with_changes, od_with_changes, .func (PySem.W.fnOf "with_changes" "with_changes" (defArgs st_with_changes) (defBody st_with_changes) (defScope st_with_changes) .none kV_with_changes dc_with_changes pm_with_changes an_with_changes cd_with_changes ct_with_changes), sl_with_changes⟩)
    (c_with_changes : PySem.W.codeIn K cd_with_changes "with_changes" = true)
    (k_with_changes : PySem.W.keepIn K (.ref f_with_changes) = true)
    {od_is_integer an_is_integer : Option Addr} {sl_is_integer : Array (Option Value)} {oc_is_integer kV_is_integer dc_is_integer pm_is_integer cd_is_integer ct_is_integer : Value}
    (a_is_integer : PySem.W.nsIn K mainGlobals "is_integer" = some (some (.ref f_is_integer)))
    (l_is_integer : K.lookup f_is_integer = some ⟨oc_is_integer, od_is_integer, .func (PySem.W.fnOf "is_integer" "is_integer" (defArgs st_is_integer) (defBody st_is_integer) (defScope st_is_integer) .none kV_is_integer dc_is_integer pm_is_integer an_is_integer cd_is_integer ct_is_integer), sl_is_integer⟩)
    (c_is_integer : PySem.W.codeIn K cd_is_integer "is_integer" = true)
    (k_is_integer : PySem.W.keepIn K (.ref f_is_integer) = true)
    {od_is_within an_is_within : Option Addr} {sl_is_within : Array (Option Value)} {oc_is_within kV_is_within dc_is_within pm_is_within cd_is_within ct_is_within : Value}
    (a_is_within : PySem.W.nsIn K mainGlobals "is_within" = some (some (.ref f_is_within)))
    (l_is_within : K.lookup f_is_within = some ⟨oc_is_within, od_is_within, .func (PySem.W.fnOf "is_within" "is_within" (defArgs st_is_within) (defBody st_is_within) (defScope st_is_within) .none kV_is_within dc_is_within pm_is_within an_is_within cd_is_within ct_is_within), sl_is_within⟩)
    (c_is_within : PySem.W.codeIn K cd_is_within "is_within" = true)
    (k_is_within : PySem.W.keepIn K (.ref f_is_within) = true)
    {od_is_listed an_is_listed : Option Addr} {sl_is_listed : Array (Option Value)} {oc_is_listed kV_is_listed dc_is_listed pm_is_listed cd_is_listed ct_is_listed : Value}
    (a_is_listed : PySem.W.nsIn K mainGlobals "is_listed" = some (some (.ref f_is_listed)))
    (l_is_listed : K.lookup f_is_listed = some ⟨oc_is_listed, od_is_listed, .func (PySem.W.fnOf "is_listed" "is_listed" (defArgs st_is_listed) (defBody st_is_listed) (defScope st_is_listed) .none kV_is_listed dc_is_listed pm_is_listed an_is_listed cd_is_listed ct_is_listed), sl_is_listed⟩)
    (c_is_listed : PySem.W.codeIn K cd_is_listed "is_listed" = true)
    (k_is_listed : PySem.W.keepIn K (.ref f_is_listed) = true)
    {od_is_change an_is_change : Option Addr} {sl_is_change : Array (Option Value)} {oc_is_change kV_is_change dc_is_change pm_is_change cd_is_change ct_is_change : Value}
    (a_is_change : PySem.W.nsIn K mainGlobals "is_change" = some (some (.ref f_is_change)))
    (l_is_change : K.lookup f_is_change = some ⟨oc_is_change, od_is_change, .func (PySem.W.fnOf "is_change" "is_change" (defArgs st_is_change) (defBody st_is_change) (defScope st_is_change) .none kV_is_change dc_is_change pm_is_change an_is_change cd_is_change ct_is_change), sl_is_change⟩)
    (c_is_change : PySem.W.codeIn K cd_is_change "is_change" = true)
    (k_is_change : PySem.W.keepIn K (.ref f_is_change) = true)
    {od_changed an_changed : Option Addr} {sl_changed : Array (Option Value)} {oc_changed kV_changed dc_changed pm_changed cd_changed ct_changed : Value}
    (a_changed : PySem.W.nsIn K mainGlobals "changed" = some (some (.ref f_changed)))
    (l_changed : K.lookup f_changed = some ⟨oc_changed, od_changed, .func (PySem.W.fnOf "changed" "changed" (defArgs st_changed) (defBody st_changed) (defScope st_changed) .none kV_changed dc_changed pm_changed an_changed cd_changed ct_changed), sl_changed⟩)
    (c_changed : PySem.W.codeIn K cd_changed "changed" = true)
    (k_changed : PySem.W.keepIn K (.ref f_changed) = true)
    {od__law_draw an__law_draw : Option Addr} {sl__law_draw : Array (Option Value)} {oc__law_draw kV__law_draw dc__law_draw pm__law_draw cd__law_draw ct__law_draw : Value}
    (a__law_draw : PySem.W.nsIn K mainGlobals "_law_draw" = some (some (.ref f__law_draw)))
    (l__law_draw : K.lookup f__law_draw = some ⟨oc__law_draw, od__law_draw, .func (PySem.W.fnOf "_law_draw" "_law_draw" (defArgs st__law_draw) (defBody st__law_draw) (defScope st__law_draw) .none kV__law_draw dc__law_draw pm__law_draw an__law_draw cd__law_draw ct__law_draw), sl__law_draw⟩)
    (c__law_draw : PySem.W.codeIn K cd__law_draw "_law_draw" = true)
    (k__law_draw : PySem.W.keepIn K (.ref f__law_draw) = true)
    {od__law_pick an__law_pick : Option Addr} {sl__law_pick : Array (Option Value)} {oc__law_pick kV__law_pick dc__law_pick pm__law_pick cd__law_pick ct__law_pick : Value}
    (a__law_pick : PySem.W.nsIn K mainGlobals "_law_pick" = some (some (.ref f__law_pick)))
    (l__law_pick : K.lookup f__law_pick = some ⟨oc__law_pick, od__law_pick, .func (PySem.W.fnOf "_law_pick" "_law_pick" (defArgs st__law_pick) (defBody st__law_pick) (defScope st__law_pick) .none kV__law_pick dc__law_pick pm__law_pick an__law_pick cd__law_pick ct__law_pick), sl__law_pick⟩)
    (c__law_pick : PySem.W.codeIn K cd__law_pick "_law_pick" = true)
    (k__law_pick : PySem.W.keepIn K (.ref f__law_pick) = true)
    {od__law_rest an__law_rest : Option Addr} {sl__law_rest : Array (Option Value)} {oc__law_rest kV__law_rest dc__law_rest pm__law_rest cd__law_rest ct__law_rest : Value}
    (a__law_rest : PySem.W.nsIn K mainGlobals "_law_rest" = some (some (.ref f__law_rest)))
    (l__law_rest : K.lookup f__law_rest = some ⟨oc__law_rest, od__law_rest, .func (PySem.W.fnOf "_law_rest" "_law_rest" (defArgs st__law_rest) (defBody st__law_rest) (defScope st__law_rest) .none kV__law_rest dc__law_rest pm__law_rest an__law_rest cd__law_rest ct__law_rest), sl__law_rest⟩)
    (c__law_rest : PySem.W.codeIn K cd__law_rest "_law_rest" = true)
    (k__law_rest : PySem.W.keepIn K (.ref f__law_rest) = true)
    {od__law_with_guard an__law_with_guard : Option Addr} {sl__law_with_guard : Array (Option Value)} {oc__law_with_guard kV__law_with_guard dc__law_with_guard pm__law_with_guard cd__law_with_guard ct__law_with_guard : Value}
    (a__law_with_guard : PySem.W.nsIn K mainGlobals "_law_with_guard" = some (some (.ref f__law_with_guard)))
    (l__law_with_guard : K.lookup f__law_with_guard = some ⟨oc__law_with_guard, od__law_with_guard, .func (PySem.W.fnOf "_law_with_guard" "_law_with_guard" (defArgs st__law_with_guard) (defBody st__law_with_guard) (defScope st__law_with_guard) .none kV__law_with_guard dc__law_with_guard pm__law_with_guard an__law_with_guard cd__law_with_guard ct__law_with_guard), sl__law_with_guard⟩)
    (c__law_with_guard : PySem.W.codeIn K cd__law_with_guard "_law_with_guard" = true)
    (k__law_with_guard : PySem.W.keepIn K (.ref f__law_with_guard) = true)
    {od__law_guard an__law_guard : Option Addr} {sl__law_guard : Array (Option Value)} {oc__law_guard kV__law_guard dc__law_guard pm__law_guard cd__law_guard ct__law_guard : Value}
    (a__law_guard : PySem.W.nsIn K mainGlobals "_law_guard" = some (some (.ref f__law_guard)))
    (l__law_guard : K.lookup f__law_guard = some ⟨oc__law_guard, od__law_guard, .func (PySem.W.fnOf "_law_guard" "_law_guard" (defArgs st__law_guard) (defBody st__law_guard) (defScope st__law_guard) .none kV__law_guard dc__law_guard pm__law_guard an__law_guard cd__law_guard ct__law_guard), sl__law_guard⟩)
    (c__law_guard : PySem.W.codeIn K cd__law_guard "_law_guard" = true)
    (k__law_guard : PySem.W.keepIn K (.ref f__law_guard) = true)
    {od__law_bits an__law_bits : Option Addr} {sl__law_bits : Array (Option Value)} {oc__law_bits kV__law_bits dc__law_bits pm__law_bits cd__law_bits ct__law_bits : Value}
    (a__law_bits : PySem.W.nsIn K mainGlobals "_law_bits" = some (some (.ref f__law_bits)))
    (l__law_bits : K.lookup f__law_bits = some ⟨oc__law_bits, od__law_bits, .func (PySem.W.fnOf "_law_bits" "_law_bits" (defArgs st__law_bits) (defBody st__law_bits) (defScope st__law_bits) .none kV__law_bits dc__law_bits pm__law_bits an__law_bits cd__law_bits ct__law_bits), sl__law_bits⟩)
    (c__law_bits : PySem.W.codeIn K cd__law_bits "_law_bits" = true)
    (k__law_bits : PySem.W.keepIn K (.ref f__law_bits) = true)
    {od__law_change an__law_change : Option Addr} {sl__law_change : Array (Option Value)} {oc__law_change kV__law_change dc__law_change pm__law_change cd__law_change ct__law_change : Value}
    (a__law_change : PySem.W.nsIn K mainGlobals "_law_change" = some (some (.ref f__law_change)))
    (l__law_change : K.lookup f__law_change = some ⟨oc__law_change, od__law_change, .func (PySem.W.fnOf "_law_change" "_law_change" (defArgs st__law_change) (defBody st__law_change) (defScope st__law_change) .none kV__law_change dc__law_change pm__law_change an__law_change cd__law_change ct__law_change), sl__law_change⟩)
    (c__law_change : PySem.W.codeIn K cd__law_change "_law_change" = true)
    (k__law_change : PySem.W.keepIn K (.ref f__law_change) = true)
    {od__law_sum an__law_sum : Option Addr} {sl__law_sum : Array (Option Value)} {oc__law_sum kV__law_sum dc__law_sum pm__law_sum cd__law_sum ct__law_sum : Value}
    (a__law_sum : PySem.W.nsIn K mainGlobals "_law_sum" = some (some (.ref f__law_sum)))
    (l__law_sum : K.lookup f__law_sum = some ⟨oc__law_sum, od__law_sum, .func (PySem.W.fnOf "_law_sum" "_law_sum" (defArgs st__law_sum) (defBody st__law_sum) (defScope st__law_sum) .none kV__law_sum dc__law_sum pm__law_sum an__law_sum cd__law_sum ct__law_sum), sl__law_sum⟩)
    (c__law_sum : PySem.W.codeIn K cd__law_sum "_law_sum" = true)
    (k__law_sum : PySem.W.keepIn K (.ref f__law_sum) = true)
    {od__law_places an__law_places : Option Addr} {sl__law_places : Array (Option Value)} {oc__law_places kV__law_places dc__law_places pm__law_places cd__law_places ct__law_places : Value}
    (a__law_places : PySem.W.nsIn K mainGlobals "_law_places" = some (some (.ref f__law_places)))
    (l__law_places : K.lookup f__law_places = some ⟨oc__law_places, od__law_places, .func (PySem.W.fnOf "_law_places" "_law_places" (defArgs st__law_places) (defBody st__law_places) (defScope st__law_places) .none kV__law_places dc__law_places pm__law_places an__law_places cd__law_places ct__law_places), sl__law_places⟩)
    (c__law_places : PySem.W.codeIn K cd__law_places "_law_places" = true)
    (k__law_places : PySem.W.keepIn K (.ref f__law_places) = true)
    {od__law_heard an__law_heard : Option Addr} {sl__law_heard : Array (Option Value)} {oc__law_heard kV__law_heard dc__law_heard pm__law_heard cd__law_heard ct__law_heard : Value}
    (a__law_heard : PySem.W.nsIn K mainGlobals "_law_heard" = some (some (.ref f__law_heard)))
    (l__law_heard : K.lookup f__law_heard = some ⟨oc__law_heard, od__law_heard, .func (PySem.W.fnOf "_law_heard" "_law_heard" (defArgs st__law_heard) (defBody st__law_heard) (defScope st__law_heard) .none kV__law_heard dc__law_heard pm__law_heard an__law_heard cd__law_heard ct__law_heard), sl__law_heard⟩)
    (c__law_heard : PySem.W.codeIn K cd__law_heard "_law_heard" = true)
    (k__law_heard : PySem.W.keepIn K (.ref f__law_heard) = true)
    {od__law_refused an__law_refused : Option Addr} {sl__law_refused : Array (Option Value)} {oc__law_refused kV__law_refused dc__law_refused pm__law_refused  ct__law_refused : Value}
    (a__law_refused : PySem.W.nsIn K mainGlobals "_law_refused" = some (some (.ref f__law_refused)))
    (l__law_refused : K.lookup f__law_refused = some ⟨oc__law_refused, od__law_refused, .func (PySem.W.fnOf "_law_refused" "_law_refused" (defArgs st__law_refused) (defBody st__law_refused) (defScope st__law_refused) .none kV__law_refused dc__law_refused pm__law_refused an__law_refused (.ref cL__law_refused) ct__law_refused), sl__law_refused⟩)
    (c__law_refused : PySem.W.codeIn K (.ref cL__law_refused) "_law_refused" = true)
    (k__law_refused : PySem.W.keepIn K (.ref f__law_refused) = true)
    {od__law_right an__law_right : Option Addr} {sl__law_right : Array (Option Value)} {oc__law_right kV__law_right dc__law_right pm__law_right cd__law_right ct__law_right : Value}
    (a__law_right : PySem.W.nsIn K mainGlobals "_law_right" = some (some (.ref f__law_right)))
    (l__law_right : K.lookup f__law_right = some ⟨oc__law_right, od__law_right, .func (PySem.W.fnOf "_law_right" "_law_right" (defArgs st__law_right) (defBody st__law_right) (defScope st__law_right) .none kV__law_right dc__law_right pm__law_right an__law_right cd__law_right ct__law_right), sl__law_right⟩)
    (c__law_right : PySem.W.codeIn K cd__law_right "_law_right" = true)
    (k__law_right : PySem.W.keepIn K (.ref f__law_right) = true)
    {od_law an_law : Option Addr} {sl_law : Array (Option Value)} {oc_law kV_law dc_law pm_law  ct_law : Value}
    (a_law : PySem.W.nsIn K mainGlobals "law" = some (some (.ref f_law)))
    (l_law : K.lookup f_law = some ⟨oc_law, od_law, .func (PySem.W.fnOf "law" "law" (defArgs st_law) (defBody st_law) (defScope st_law) .none kV_law dc_law pm_law an_law (.ref cL_law) ct_law), sl_law⟩)
    (c_law : PySem.W.codeIn K (.ref cL_law) "law" = true)
    (k_law : PySem.W.keepIn K (.ref f_law) = true)
    {eL__law_refused : Value} {ddL__law_refused : Option Addr} {vsL__law_refused : Array Value} {slL__law_refused : Array (Option Value)}
    (q__law_refused : K.lookup cL__law_refused = some ⟨eL__law_refused, ddL__law_refused, .fields vsL__law_refused, slL__law_refused⟩)
    (v__law_refused : vsL__law_refused[11]? = some (.ref Pt__law_refused))
    (n__law_refused : K.lookup Pt__law_refused = none)
    {t_MOST_DEGREE : PySem.Tok}
    (v_MOST_DEGREE : PySem.W.nsIn K mainGlobals "MOST_DEGREE" = some (some (.int 16 t_MOST_DEGREE)))
    {t_ONE : PySem.Tok}
    (v_ONE : PySem.W.nsIn K mainGlobals "ONE" = some (some (.str "1" t_ONE)))
    (z_ValueError : PySem.W.nsIn K mainGlobals "ValueError" = some none)
    (z_abs : PySem.W.nsIn K mainGlobals "abs" = some none)
    (z_all : PySem.W.nsIn K mainGlobals "all" = some none)
    (z_bool : PySem.W.nsIn K mainGlobals "bool" = some none)
    (z_int : PySem.W.nsIn K mainGlobals "int" = some none)
    (z_isinstance : PySem.W.nsIn K mainGlobals "isinstance" = some none)
    (z_len : PySem.W.nsIn K mainGlobals "len" = some none)
    (z_list : PySem.W.nsIn K mainGlobals "list" = some none)
    (z_min : PySem.W.nsIn K mainGlobals "min" = some none)
    (z_range : PySem.W.nsIn K mainGlobals "range" = some none)
    (z_sorted : PySem.W.nsIn K mainGlobals "sorted" = some none)
    (z_str : PySem.W.nsIn K mainGlobals "str" = some none)
    (z_tuple : PySem.W.nsIn K mainGlobals "tuple" = some none)
    (zsup : PySem.W.nsIn K mainGlobals "super" = some none)
    (hcl : clB K sub isX ["line", "most", "part", "what", "word"] [(0, C_BellError)] [(0, C_BellError), (1, C_BadNumber), (2, C_BadBits), (3, C_BadTable), (4, C_BadBook), (5, C_BadRow), (6, C_BadPattern), (7, C_BadPaper), (8, C_Misfit), (9, C_BadText), (10, C_BadWord), (11, C_TooMany)] = true)
    (hve : veB K [(0, C_BellError), (1, C_BadNumber), (2, C_BadBits), (3, C_BadTable), (4, C_BadBook), (5, C_BadRow), (6, C_BadPattern), (7, C_BadPaper), (8, C_Misfit), (9, C_BadText), (10, C_BadWord), (11, C_TooMany)] = true)
    {fI_BadBits cda_BadBits cc_BadBits : Addr} {nm_BadBits q_BadBits : Str} {N_BadBits : Addr} {bs_BadBits bm_BadBits sub_BadBits : List Value} {sn_BadBits : List Str} {ab_BadBits : Bool} {col_BadBits : Option Bool} {dd_BadBits : Option Addr} {m0_BadBits m1_BadBits m2_BadBits m3_BadBits m5_BadBits : Option Value}
    {oi_BadBits di_BadBits pi_BadBits ti_BadBits ccl_BadBits cl_BadBits : Value} {odi_BadBits ai_BadBits cdd_BadBits cld_BadBits : Option Addr} {sli_BadBits ccs_BadBits csl_BadBits : Array (Option Value)} {vs_BadBits : Array Value} {file_BadBits : Str} {tf_BadBits : PySem.Tok}
    (i_BadBits : PySem.W.findIn K (.ref C_BadBits) "__init__" = some (some (.ref fI_BadBits)))
    (x_BadBits : K.lookup C_BadBits = some (excClassObj nm_BadBits q_BadBits C_BadBits N_BadBits bs_BadBits bm_BadBits true sn_BadBits sub_BadBits ab_BadBits col_BadBits dd_BadBits m0_BadBits m1_BadBits m2_BadBits m3_BadBits m5_BadBits "ValueError.__new__"))
    (r_BadBits : PySem.HandSPX.refsVE bm_BadBits = true)
    (eb_BadBits : errB K C_BadBits fI_BadBits fsBadBits = true)
    (y_BadBits : K.lookup fI_BadBits = some ⟨oi_BadBits, odi_BadBits, .func (PySem.W.ksFn "__init__" "BadBits.__init__" (defArgs (clsStmt (top 3) 0)) (defBody (clsStmt (top 3) 0)) (defScope (clsStmt (top 3) 0)) .none .none di_BadBits pi_BadBits ai_BadBits (.ref cda_BadBits) ti_BadBits cc_BadBits), sli_BadBits⟩)
    (cy_BadBits : PySem.W.codeIn K (.ref cda_BadBits) "BadBits.__init__" = true)
    (qy_BadBits : K.lookup cda_BadBits = some ⟨ccl_BadBits, cdd_BadBits, .fields vs_BadBits, ccs_BadBits⟩)
    (v2_BadBits : vs_BadBits[2]? = some (.str file_BadBits tf_BadBits))
    (fl_BadBits : ((P.main.file : Str) == file_BadBits) = true)
    (ce_BadBits : K.lookup cc_BadBits = some ⟨cl_BadBits, cld_BadBits, .cell (some (.ref C_BadBits)), csl_BadBits⟩)
    {fI_BadRow cda_BadRow cc_BadRow : Addr} {nm_BadRow q_BadRow : Str} {N_BadRow : Addr} {bs_BadRow bm_BadRow sub_BadRow : List Value} {sn_BadRow : List Str} {ab_BadRow : Bool} {col_BadRow : Option Bool} {dd_BadRow : Option Addr} {m0_BadRow m1_BadRow m2_BadRow m3_BadRow m5_BadRow : Option Value}
    {oi_BadRow di_BadRow pi_BadRow ti_BadRow ccl_BadRow cl_BadRow : Value} {odi_BadRow ai_BadRow cdd_BadRow cld_BadRow : Option Addr} {sli_BadRow ccs_BadRow csl_BadRow : Array (Option Value)} {vs_BadRow : Array Value} {file_BadRow : Str} {tf_BadRow : PySem.Tok}
    (i_BadRow : PySem.W.findIn K (.ref C_BadRow) "__init__" = some (some (.ref fI_BadRow)))
    (x_BadRow : K.lookup C_BadRow = some (excClassObj nm_BadRow q_BadRow C_BadRow N_BadRow bs_BadRow bm_BadRow true sn_BadRow sub_BadRow ab_BadRow col_BadRow dd_BadRow m0_BadRow m1_BadRow m2_BadRow m3_BadRow m5_BadRow "ValueError.__new__"))
    (r_BadRow : PySem.HandSPX.refsVE bm_BadRow = true)
    (eb_BadRow : errB K C_BadRow fI_BadRow fsBadRow = true)
    (y_BadRow : K.lookup fI_BadRow = some ⟨oi_BadRow, odi_BadRow, .func (PySem.W.ksFn "__init__" "BadRow.__init__" (defArgs (clsStmt (top 6) 0)) (defBody (clsStmt (top 6) 0)) (defScope (clsStmt (top 6) 0)) .none .none di_BadRow pi_BadRow ai_BadRow (.ref cda_BadRow) ti_BadRow cc_BadRow), sli_BadRow⟩)
    (cy_BadRow : PySem.W.codeIn K (.ref cda_BadRow) "BadRow.__init__" = true)
    (qy_BadRow : K.lookup cda_BadRow = some ⟨ccl_BadRow, cdd_BadRow, .fields vs_BadRow, ccs_BadRow⟩)
    (v2_BadRow : vs_BadRow[2]? = some (.str file_BadRow tf_BadRow))
    (fl_BadRow : ((P.main.file : Str) == file_BadRow) = true)
    (ce_BadRow : K.lookup cc_BadRow = some ⟨cl_BadRow, cld_BadRow, .cell (some (.ref C_BadRow)), csl_BadRow⟩) : ∃ cs : List (Addr × Addr), (∀ p ∈ cs, ∃ x ∈ (["_law_refused"] : List Str), ∃ f, mg x = some (.ref f) ∧ DefCode K f p.1 p.2) ∧ LawRunT P w K mg 63 fa cs := by
  have e := hfa.symm.trans (PySem.W.mg_of X G a_law)
  cases e
  have hms : mg "super" = none := PySem.W.mg_none_of X G zsup
  have Y_BadBits : ErrI P K C_BadBits fI_BadBits "BadBits.__init__" ["self", "part"] (clsStmt (top 3) 0) := ⟨⟨_, _, _, _, _, _, _, _, _, _, _, _, _, _, _, _, _, _, y_BadBits, cy_BadBits, qy_BadBits, v2_BadBits, fl_BadBits, ce_BadBits⟩, fun _ _ _ _ _ _ us h => match us, h with | [_, _], _ => rfl, rfl, by decide +kernel, by decide +kernel, rfl, rfl, rfl, rfl, rfl, hsup⟩
  obtain ⟨E_BadBits, no_BadBits⟩ := errC_of (P := P) (x := "BadBits") (PySem.W.mg_of X G aC_BadBits) eb_BadBits ⟨_, _, _, _, _, _, _, _, _, _, _, _, _, _, _, x_BadBits, r_BadBits⟩
  have Y_BadRow : ErrI P K C_BadRow fI_BadRow "BadRow.__init__" ["self", "part"] (clsStmt (top 6) 0) := ⟨⟨_, _, _, _, _, _, _, _, _, _, _, _, _, _, _, _, _, _, y_BadRow, cy_BadRow, qy_BadRow, v2_BadRow, fl_BadRow, ce_BadRow⟩, fun _ _ _ _ _ _ us h => match us, h with | [_, _], _ => rfl, rfl, by decide +kernel, by decide +kernel, rfl, rfl, rfl, rfl, rfl, hsup⟩
  obtain ⟨E_BadRow, no_BadRow⟩ := errC_of (P := P) (x := "BadRow") (PySem.W.mg_of X G aC_BadRow) eb_BadRow ⟨_, _, _, _, _, _, _, _, _, _, _, _, _, _, _, x_BadRow, r_BadRow⟩
  have LT__law_refused : ∀ base : Heap, (∀ p ∈ ([(cL__law_refused, Pt__law_refused)] : List (Addr × Addr)), LamX.TabB base mg p.1 p.2) → LamT base mg (cmOf [(0, C_BellError), (1, C_BadNumber), (2, C_BadBits), (3, C_BadTable), (4, C_BadBook), (5, C_BadRow), (6, C_BadPattern), (7, C_BadPaper), (8, C_Misfit), (9, C_BadText), (10, C_BadWord), (11, C_TooMany)] [(Pt__law_refused, ("_law_refused.<locals>.<lambda>" : Str))]) "_law_refused.<locals>.<lambda>" cL__law_refused Pt__law_refused := fun base TB => ⟨TB (cL__law_refused, Pt__law_refused) (by simp), by show _ ∈ [(Pt__law_refused, ("_law_refused.<locals>.<lambda>" : Str))]; simp, fun p hp e => by
      have hp1 : p ∈ [(Pt__law_refused, ("_law_refused.<locals>.<lambda>" : Str))] := hp
      simp only [List.mem_cons, List.not_mem_nil, or_false] at hp1
      rcases hp1 with rfl <;> first | rfl | (exfalso; simp at ud; simp_all)⟩
  have T : ∀ base : Heap, Mod K mg base → (∀ p ∈ ([(cL__law_refused, Pt__law_refused)] : List (Addr × Addr)), LamX.TabB base mg p.1 p.2) → Txt P w K mg base (cmOf [(0, C_BellError), (1, C_BadNumber), (2, C_BadBits), (3, C_BadTable), (4, C_BadBook), (5, C_BadRow), (6, C_BadPattern), (7, C_BadPaper), (8, C_Misfit), (9, C_BadText), (10, C_BadWord), (11, C_TooMany)] [(Pt__law_refused, ("_law_refused.<locals>.<lambda>" : Str))]) := fun base hM TB =>
    { n_ValueError := PySem.W.mg_none_of X G z_ValueError,
      n_abs := PySem.W.mg_none_of X G z_abs,
      n_all := PySem.W.mg_none_of X G z_all,
      n_bool := PySem.W.mg_none_of X G z_bool,
      n_int := PySem.W.mg_none_of X G z_int,
      n_isinstance := PySem.W.mg_none_of X G z_isinstance,
      n_len := PySem.W.mg_none_of X G z_len,
      n_list := PySem.W.mg_none_of X G z_list,
      n_min := PySem.W.mg_none_of X G z_min,
      n_range := PySem.W.mg_none_of X G z_range,
      n_sorted := PySem.W.mg_none_of X G z_sorted,
      n_str := PySem.W.mg_none_of X G z_str,
      n_tuple := PySem.W.mg_none_of X G z_tuple,
      k_MOST_DEGREE := ⟨_, PySem.W.mg_of X G v_MOST_DEGREE⟩,
      k_ONE := ⟨_, PySem.W.mg_of X G v_ONE⟩,
      d__law_pen := ⟨_, _, fun_mk (st := st__law_pen) l__law_pen c__law_pen k__law_pen, PySem.W.mg_of X G a__law_pen⟩,
      d_degree_of := ⟨_, _, fun_mk (st := st_degree_of) l_degree_of c_degree_of k_degree_of, PySem.W.mg_of X G a_degree_of⟩,
      d_rest_number := ⟨_, _, fun_mk (st := st_rest_number) l_rest_number c_rest_number k_rest_number, PySem.W.mg_of X G a_rest_number⟩,
      d_bits_of_rest := ⟨_, _, fun_mk (st := st_bits_of_rest) l_bits_of_rest c_bits_of_rest k_bits_of_rest, PySem.W.mg_of X G a_bits_of_rest⟩,
      d_rest_of := ⟨_, _, fun_mk (st := st_rest_of) l_rest_of c_rest_of k_rest_of, PySem.W.mg_of X G a_rest_of⟩,
      d_is_bits := ⟨_, _, fun_mk (st := st_is_bits) l_is_bits c_is_bits k_is_bits, PySem.W.mg_of X G a_is_bits⟩,
      d_is_guard := ⟨_, _, fun_mk (st := st_is_guard) l_is_guard c_is_guard k_is_guard, PySem.W.mg_of X G a_is_guard⟩,
      d_need_guard := ⟨_, _, fun_mk (st := st_need_guard) l_need_guard c_need_guard k_need_guard, PySem.W.mg_of X G a_need_guard⟩,
      d_need_bits := ⟨_, _, fun_mk (st := st_need_bits) l_need_bits c_need_bits k_need_bits, PySem.W.mg_of X G a_need_bits⟩,
      d_rest_by := ⟨_, _, fun_mk (st := st_rest_by) l_rest_by c_rest_by k_rest_by, PySem.W.mg_of X G a_rest_by⟩,
      d_guarded := ⟨_, _, fun_mk (st := st_guarded) l_guarded c_guarded k_guarded, PySem.W.mg_of X G a_guarded⟩,
      d_with_guard := ⟨_, _, fun_mk (st := st_with_guard) l_with_guard c_with_guard k_with_guard, PySem.W.mg_of X G a_with_guard⟩,
      d_with_changes := ⟨_, _, fun_mk (st := st_with_changes) l_with_changes c_with_changes k_with_changes, PySem.W.mg_of X G a_with_changes⟩,
      d_is_integer := ⟨_, _, fun_mk (st := st_is_integer) l_is_integer c_is_integer k_is_integer, PySem.W.mg_of X G a_is_integer⟩,
      d_is_within := ⟨_, _, fun_mk (st := st_is_within) l_is_within c_is_within k_is_within, PySem.W.mg_of X G a_is_within⟩,
      d_is_listed := ⟨_, _, fun_mk (st := st_is_listed) l_is_listed c_is_listed k_is_listed, PySem.W.mg_of X G a_is_listed⟩,
      d_is_change := ⟨_, _, fun_mk (st := st_is_change) l_is_change c_is_change k_is_change, PySem.W.mg_of X G a_is_change⟩,
      d_changed := ⟨_, _, fun_mk (st := st_changed) l_changed c_changed k_changed, PySem.W.mg_of X G a_changed⟩,
      d__law_draw := ⟨_, _, fun_mk (st := st__law_draw) l__law_draw c__law_draw k__law_draw, PySem.W.mg_of X G a__law_draw⟩,
      d__law_pick := ⟨_, _, fun_mk (st := st__law_pick) l__law_pick c__law_pick k__law_pick, PySem.W.mg_of X G a__law_pick⟩,
      d__law_rest := ⟨_, _, fun_mk (st := st__law_rest) l__law_rest c__law_rest k__law_rest, PySem.W.mg_of X G a__law_rest⟩,
      d__law_with_guard := ⟨_, _, fun_mk (st := st__law_with_guard) l__law_with_guard c__law_with_guard k__law_with_guard, PySem.W.mg_of X G a__law_with_guard⟩,
      d__law_guard := ⟨_, _, fun_mk (st := st__law_guard) l__law_guard c__law_guard k__law_guard, PySem.W.mg_of X G a__law_guard⟩,
      d__law_bits := ⟨_, _, fun_mk (st := st__law_bits) l__law_bits c__law_bits k__law_bits, PySem.W.mg_of X G a__law_bits⟩,
      d__law_change := ⟨_, _, fun_mk (st := st__law_change) l__law_change c__law_change k__law_change, PySem.W.mg_of X G a__law_change⟩,
      d__law_sum := ⟨_, _, fun_mk (st := st__law_sum) l__law_sum c__law_sum k__law_sum, PySem.W.mg_of X G a__law_sum⟩,
      d__law_places := ⟨_, _, fun_mk (st := st__law_places) l__law_places c__law_places k__law_places, PySem.W.mg_of X G a__law_places⟩,
      d__law_heard := ⟨_, _, fun_mk (st := st__law_heard) l__law_heard c__law_heard k__law_heard, PySem.W.mg_of X G a__law_heard⟩,
      d__law_refused := ⟨_, _, _, _, funC_mk (st := st__law_refused) l__law_refused c__law_refused k__law_refused, PySem.W.mg_of X G a__law_refused, LT__law_refused base TB⟩,
      d__law_right := ⟨_, _, fun_mk (st := st__law_right) l__law_right c__law_right k__law_right, PySem.W.mg_of X G a__law_right⟩,
      m_BellError := ⟨_, rfl, PySem.W.mg_of X G aC_BellError⟩,
      m_BadNumber := ⟨_, rfl, PySem.W.mg_of X G aC_BadNumber⟩,
      m_BadBits := ⟨_, rfl, PySem.W.mg_of X G aC_BadBits⟩,
      e_BadBits := ⟨_, rfl, mk1 hM E_BadBits Y_BadBits hms (no_BadBits _ (by decide)) (by decide) (by decide) rfl (fun _ => ⟨_, rfl⟩) (fun _ => rfl) (fun _ => rfl), PySem.W.mg_of X G aC_BadBits, E_BadBits.kC, E_BadBits.exC, E_BadBits.tyC⟩,
      m_BadTable := ⟨_, rfl, PySem.W.mg_of X G aC_BadTable⟩,
      m_BadBook := ⟨_, rfl, PySem.W.mg_of X G aC_BadBook⟩,
      m_BadRow := ⟨_, rfl, PySem.W.mg_of X G aC_BadRow⟩,
      e_BadRow := ⟨_, rfl, mk1 hM E_BadRow Y_BadRow hms (no_BadRow _ (by decide)) (by decide) (by decide) rfl (fun _ => ⟨_, rfl⟩) (fun _ => rfl) (fun _ => rfl), PySem.W.mg_of X G aC_BadRow, E_BadRow.kC, E_BadRow.exC, E_BadRow.tyC⟩,
      m_BadPattern := ⟨_, rfl, PySem.W.mg_of X G aC_BadPattern⟩,
      m_BadPaper := ⟨_, rfl, PySem.W.mg_of X G aC_BadPaper⟩,
      m_Misfit := ⟨_, rfl, PySem.W.mg_of X G aC_Misfit⟩,
      m_BadText := ⟨_, rfl, PySem.W.mg_of X G aC_BadText⟩,
      m_BadWord := ⟨_, rfl, PySem.W.mg_of X G aC_BadWord⟩,
      m_TooMany := ⟨_, rfl, PySem.W.mg_of X G aC_TooMany⟩,
      t_BellError := ⟨_, xf_of hcl (by simp), PySem.W.mg_of X G aC_BellError⟩,
      cf := cf_of hcl,
      ve := ve_of hve,
      x_line := xfld_of hcl (by simp),
      x_most := xfld_of hcl (by simp),
      x_part := xfld_of hcl (by simp),
      x_what := xfld_of hcl (by simp),
      x_word := xfld_of hcl (by simp) }
  refine ⟨([(cL__law_refused, Pt__law_refused)] : List (Addr × Addr)), ?_, law_runT (cm := cmOf [(0, C_BellError), (1, C_BadNumber), (2, C_BadBits), (3, C_BadTable), (4, C_BadBook), (5, C_BadRow), (6, C_BadPattern), (7, C_BadPaper), (8, C_Misfit), (9, C_BadText), (10, C_BadWord), (11, C_TooMany)] [(Pt__law_refused, ("_law_refused.<locals>.<lambda>" : Str))]) (k := 9) l_law c_law sc_law (fun s u => .of_eq rfl) ⟨rfl, by decide, by decide⟩ ?_ (fun base s H hM TB hr => vs_law (T base hM TB) hr) law_true⟩
  · intro p hp
    simp only [List.mem_cons, List.not_mem_nil, or_false] at hp
    rcases hp with rfl
    · exact ⟨"_law_refused", by simp, _, PySem.W.mg_of X G a__law_refused, ⟨_, _, _, _, _, _, l__law_refused, rfl, rfl, q__law_refused, v__law_refused⟩, n__law_refused⟩
  · intro p hp
    have hp' : p ∈ [(Pt__law_refused, ("_law_refused.<locals>.<lambda>" : Str))] := hp
    simp only [List.mem_cons, List.not_mem_nil, or_false] at hp'
    rcases hp' with rfl
    · exact ⟨(cL__law_refused, Pt__law_refused), by simp, rfl⟩
end K05
open PySem PySem.W PyProof.Rows
set_option maxRecDepth 100000 in
set_option maxHeartbeats 0 in
theorem PySem.Challenge.cw_everrang_k05_rests_and_changes_holds : PySem.Challenge.rw_everrang_k05_rests_and_changes.Holds :=
  hd (by
  k_fill
  refine VS.walk_GT (l := PySem.Challenge.rw_everrang_k05_rests_and_changes) (n := 63) rfl (by decide) rfl ["_law_refused"] (by decide +kernel) (fun w h Y => PySem.W.km_in_of Y) ?F
  case F =>
    intro w mg fa h Y KX G hmg
    refine' K05.all_mk KX G hmg rfl ?aC_BellError ?aC_BadNumber ?aC_BadBits ?aC_BadTable ?aC_BadBook ?aC_BadRow ?aC_BadPattern ?aC_BadPaper ?aC_Misfit ?aC_BadText ?aC_BadWord ?aC_TooMany ?a__law_pen ?l__law_pen ?c__law_pen ?k__law_pen ?a_degree_of ?l_degree_of ?c_degree_of ?k_degree_of ?a_rest_number ?l_rest_number ?c_rest_number ?k_rest_number ?a_bits_of_rest ?l_bits_of_rest ?c_bits_of_rest ?k_bits_of_rest ?a_rest_of ?l_rest_of ?c_rest_of ?k_rest_of ?a_is_bits ?l_is_bits ?c_is_bits ?k_is_bits ?a_is_guard ?l_is_guard ?c_is_guard ?k_is_guard ?a_need_guard ?l_need_guard ?c_need_guard ?k_need_guard ?a_need_bits ?l_need_bits ?c_need_bits ?k_need_bits ?a_rest_by ?l_rest_by ?c_rest_by ?k_rest_by ?a_guarded ?l_guarded ?c_guarded ?k_guarded ?a_with_guard ?l_with_guard ?c_with_guard ?k_with_guard ?a_with_changes ?l_with_changes ?c_with_changes ?k_with_changes ?a_is_integer ?l_is_integer ?c_is_integer ?k_is_integer ?a_is_within ?l_is_within ?c_is_within ?k_is_within ?a_is_listed ?l_is_listed ?c_is_listed ?k_is_listed ?a_is_change ?l_is_change ?c_is_change ?k_is_change ?a_changed ?l_changed ?c_changed ?k_changed ?a__law_draw ?l__law_draw ?c__law_draw ?k__law_draw ?a__law_pick ?l__law_pick ?c__law_pick ?k__law_pick ?a__law_rest ?l__law_rest ?c__law_rest ?k__law_rest ?a__law_with_guard ?l__law_with_guard ?c__law_with_guard ?k__law_with_guard ?a__law_guard ?l__law_guard ?c__law_guard ?k__law_guard ?a__law_bits ?l__law_bits ?c__law_bits ?k__law_bits ?a__law_change ?l__law_change ?c__law_change ?k__law_change ?a__law_sum ?l__law_sum ?c__law_sum ?k__law_sum ?a__law_places ?l__law_places ?c__law_places ?k__law_places ?a__law_heard ?l__law_heard ?c__law_heard ?k__law_heard ?a__law_refused ?l__law_refused ?c__law_refused ?k__law_refused ?a__law_right ?l__law_right ?c__law_right ?k__law_right ?a_law ?l_law ?c_law ?k_law ?q__law_refused ?v__law_refused ?n__law_refused ?v_MOST_DEGREE ?v_ONE ?z_ValueError ?z_abs ?z_all ?z_bool ?z_int ?z_isinstance ?z_len ?z_list ?z_min ?z_range ?z_sorted ?z_str ?z_tuple ?zsup ?hcl ?hve ?i_BadBits ?x_BadBits ?r_BadBits ?eb_BadBits ?y_BadBits ?cy_BadBits ?qy_BadBits ?v2_BadBits ?fl_BadBits ?ce_BadBits ?i_BadRow ?x_BadRow ?r_BadRow ?eb_BadRow ?y_BadRow ?cy_BadRow ?qy_BadRow ?v2_BadRow ?fl_BadRow ?ce_BadRow
    (case aC_BellError => k_is)
    (case aC_BadNumber => k_is)
    (case aC_BadBits => k_is)
    (case aC_BadTable => k_is)
    (case aC_BadBook => k_is)
    (case aC_BadRow => k_is)
    (case aC_BadPattern => k_is)
    (case aC_BadPaper => k_is)
    (case aC_Misfit => k_is)
    (case aC_BadText => k_is)
    (case aC_BadWord => k_is)
    (case aC_TooMany => k_is)
    (case a__law_pen => k_is)
    (case l__law_pen => k_is)
    (case c__law_pen => k_is)
    (case k__law_pen => k_is)
    (case a_degree_of => k_is)
    (case l_degree_of => k_is)
    (case c_degree_of => k_is)
    (case k_degree_of => k_is)
    (case a_rest_number => k_is)
    (case l_rest_number => k_is)
    (case c_rest_number => k_is)
    (case k_rest_number => k_is)
    (case a_bits_of_rest => k_is)
    (case l_bits_of_rest => k_is)
    (case c_bits_of_rest => k_is)
    (case k_bits_of_rest => k_is)
    (case a_rest_of => k_is)
    (case l_rest_of => k_is)
    (case c_rest_of => k_is)
    (case k_rest_of => k_is)
    (case a_is_bits => k_is)
    (case l_is_bits => k_is)
    (case c_is_bits => k_is)
    (case k_is_bits => k_is)
    (case a_is_guard => k_is)
    (case l_is_guard => k_is)
    (case c_is_guard => k_is)
    (case k_is_guard => k_is)
    (case a_need_guard => k_is)
    (case l_need_guard => k_is)
    (case c_need_guard => k_is)
    (case k_need_guard => k_is)
    (case a_need_bits => k_is)
    (case l_need_bits => k_is)
    (case c_need_bits => k_is)
    (case k_need_bits => k_is)
    (case a_rest_by => k_is)
    (case l_rest_by => k_is)
    (case c_rest_by => k_is)
    (case k_rest_by => k_is)
    (case a_guarded => k_is)
    (case l_guarded => k_is)
    (case c_guarded => k_is)
    (case k_guarded => k_is)
    (case a_with_guard => k_is)
    (case l_with_guard => k_is)
    (case c_with_guard => k_is)
    (case k_with_guard => k_is)
    (case a_with_changes => k_is)
    (case l_with_changes => k_is)
    (case c_with_changes => k_is)
    (case k_with_changes => k_is)
    (case a_is_integer => k_is)
    (case l_is_integer => k_is)
    (case c_is_integer => k_is)
    (case k_is_integer => k_is)
    (case a_is_within => k_is)
    (case l_is_within => k_is)
    (case c_is_within => k_is)
    (case k_is_within => k_is)
    (case a_is_listed => k_is)
    (case l_is_listed => k_is)
    (case c_is_listed => k_is)
    (case k_is_listed => k_is)
    (case a_is_change => k_is)
    (case l_is_change => k_is)
    (case c_is_change => k_is)
    (case k_is_change => k_is)
    (case a_changed => k_is)
    (case l_changed => k_is)
    (case c_changed => k_is)
    (case k_changed => k_is)
    (case a__law_draw => k_is)
    (case l__law_draw => k_is)
    (case c__law_draw => k_is)
    (case k__law_draw => k_is)
    (case a__law_pick => k_is)
    (case l__law_pick => k_is)
    (case c__law_pick => k_is)
    (case k__law_pick => k_is)
    (case a__law_rest => k_is)
    (case l__law_rest => k_is)
    (case c__law_rest => k_is)
    (case k__law_rest => k_is)
    (case a__law_with_guard => k_is)
    (case l__law_with_guard => k_is)
    (case c__law_with_guard => k_is)
    (case k__law_with_guard => k_is)
    (case a__law_guard => k_is)
    (case l__law_guard => k_is)
    (case c__law_guard => k_is)
    (case k__law_guard => k_is)
    (case a__law_bits => k_is)
    (case l__law_bits => k_is)
    (case c__law_bits => k_is)
    (case k__law_bits => k_is)
    (case a__law_change => k_is)
    (case l__law_change => k_is)
    (case c__law_change => k_is)
    (case k__law_change => k_is)
    (case a__law_sum => k_is)
    (case l__law_sum => k_is)
    (case c__law_sum => k_is)
    (case k__law_sum => k_is)
    (case a__law_places => k_is)
    (case l__law_places => k_is)
    (case c__law_places => k_is)
    (case k__law_places => k_is)
    (case a__law_heard => k_is)
    (case l__law_heard => k_is)
    (case c__law_heard => k_is)
    (case k__law_heard => k_is)
    (case a__law_refused => k_is)
    (case l__law_refused => k_is)
    (case c__law_refused => k_is)
    (case k__law_refused => k_is)
    (case a__law_right => k_is)
    (case l__law_right => k_is)
    (case c__law_right => k_is)
    (case k__law_right => k_is)
    (case a_law => k_is)
    (case l_law => k_is)
    (case c_law => k_is)
    (case k_law => k_is)
    (case q__law_refused => k_is)
    (case v__law_refused => first | rfl | kernel_rfl)
    (case n__law_refused => first | rfl | kernel_rfl)
    (case v_MOST_DEGREE => k_is)
    (case v_ONE => k_is)
    (case z_ValueError => k_is)
    (case z_abs => k_is)
    (case z_all => k_is)
    (case z_bool => k_is)
    (case z_int => k_is)
    (case z_isinstance => k_is)
    (case z_len => k_is)
    (case z_list => k_is)
    (case z_min => k_is)
    (case z_range => k_is)
    (case z_sorted => k_is)
    (case z_str => k_is)
    (case z_tuple => k_is)
    (case zsup => k_is)
    (case hcl => first | kernel_rfl | rfl)
    (case hve => first | kernel_rfl | rfl)
    (case i_BadBits => k_is)
    (case x_BadBits => k_is)
    (case r_BadBits => first | rfl | kernel_rfl)
    (case eb_BadBits => first | kernel_rfl | rfl)
    (case y_BadBits => k_is)
    (case cy_BadBits => k_is)
    (case qy_BadBits => k_is)
    (case v2_BadBits => first | rfl | kernel_rfl)
    (case fl_BadBits => first | rfl | kernel_rfl | decide)
    (case ce_BadBits => k_is)
    (case i_BadRow => k_is)
    (case x_BadRow => k_is)
    (case r_BadRow => first | rfl | kernel_rfl)
    (case eb_BadRow => first | kernel_rfl | rfl)
    (case y_BadRow => k_is)
    (case cy_BadRow => k_is)
    (case qy_BadRow => k_is)
    (case v2_BadRow => first | rfl | kernel_rfl)
    (case fl_BadRow => first | rfl | kernel_rfl | decide)
    (case ce_BadRow => k_is))
end
