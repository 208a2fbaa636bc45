import PyProof.Rows.All
import Wide.All
import OpenK.AllK
import Wide.FinOn
import HandS.ForMost
import HandS.Exc
import HandS.TryOnly
import HandS.TryMany
import HandS.ExcOwn
import HandS.WordsExc
import HandS.CallSlots
import HandS.Walk
import HandS.Evl
import KE.KDictKeyed
import KE.KeyNested
import HandS.Conv
import HandS.TupLen
import HandS.SetKeys
import PyProof.Rows.TupDisplay
import KE.KDictDisplayH
import HandS.Replace
import HandS.Text
import HandS.Zip
import HandS.DictComp
import PyProof.Draws
import PyProof.EnumMake
import PyProof.StrLawsFirst
import KE.KDictList
import PyProof.EqLayable
import PyProof.ReprRoads
import KE.KIndexOf
import HandS.Ends
import KE.RegKTryMore
import PySem.Challenge.RW_hallofwords_k77_turnings_and_members
set_option Elab.async false
set_option linter.all false
set_option maxRecDepth 100000
set_option autoImplicit false
/-! Data, their standing in a heap, a monad of results, and the judgements. -/
namespace HW
open PySem L2
open Evl (Ex)

/-! ### data -/
inductive D where
  | non | bl (b : Bool) | int (i : Int) | str (s : List Nat)
  | lst (xs : List D) | tup (xs : List D) | dct (ks vs : List D) | dcn (ks vs : List D) | scr (xs : List Int)

inductive Err where
  | stuck
  | exc (n : String) (p : List D)
abbrev M (α : Type) := Except Err α
/-- weakest precondition: stuck is never shown -/
def WP {α : Type} (m : M α) (Qk : α → Prop) (Qx : String → List D → Prop) : Prop :=
  match m with
  | .ok a => Qk a
  | .error (.exc n p) => Qx n p
  | .error .stuck => False
def M.bind {α β : Type} (m : M α) (k : α → M β) : M β :=
  match m with
  | .ok a => k a
  | .error e => .error e
theorem M.bind_ok {α β : Type} (a : α) (k : α → M β) : M.bind (.ok a) k = k a := Eq.trans (show M.bind (.ok a) k = k a from rfl) rfl
theorem wp_bind {α β : Type} {m : M α} {k : α → M β} {Qk : β → Prop} {Qx : String → List D → Prop} : WP (M.bind m k) Qk Qx ↔ WP m (fun a => WP (k a) Qk Qx) Qx := by
  cases m with
  | ok a => exact Iff.rfl
  | error e => cases e <;> exact Iff.rfl
theorem WP.imp {α : Type} {m : M α} {Qk Qk' : α → Prop} {Qx Qx' : String → List D → Prop} (h : WP m Qk Qx) (hk : ∀ a, Qk a → Qk' a) (hx : ∀ n p, Qx n p → Qx' n p) : WP m Qk' Qx' := by
  cases m with
  | ok a => exact hk a h
  | error e =>
    cases e with
    | stuck => exact h
    | exc n p => exact hx n p h
/-- an exception where none may leave -/
def noX {α : Type} (m : M α) : M α :=
  match m with
  | .ok a => .ok a
  | .error _ => .error .stuck

def keyD : Key → D
  | .inl i => .int i
  | .inr s => .str s.cps.toList

/-- what the relations lean on -/
structure Kx where
  fr : PySem.W.Frag
  P : Program
  w : World
/-- the entries of a dict whose keys are tuples -/
abbrev NEnt := NestedKey × Addr × Value
/-- such a dict, as it stands at a -/
def nO (K : Kx) (a : Addr) (xs : List NEnt) : HO := .ext fun h => xs.length ≤ sizeLine ∧ (a == sysModules) = false ∧
  ∃ o es ep, h.get? a = some o ∧ o.ExactDict ∧ o.data = .dict es ep ∧ es.toList = xs.map (entryOfKey (nestedKind K.P K.w)) ∧ (xs.map (·.1)).Nodup
mutual
def keyN : NestedKey → D
  | .none => .non
  | .num i => .int i
  | .text x => .str x.cps.toList
  | .tup ks => .tup (keyNs ks)
def keyNs : List NestedKey → List D
  | [] => []
  | k :: ks => keyN k :: keyNs ks
end
/-! ### data in a heap -/
mutual
inductive Rep (K : Kx) (F : Hp) : V → D → Prop
  | non : Rep K F .non .non
  | bl {b : Bool} : Rep K F (.bl b) (.bl b)
  | int {i : Int} : Rep K F (.int i) (.int i)
  | str {s : List Nat} : Rep K F (.str ⟨s.toArray⟩) (.str s)
  | lst {a : Addr} {xs : List V} {ds : List D} : F a = some (.lst xs) → Reps K F xs ds → Rep K F (.ref a) (.lst ds)
  | tup {a : Addr} {xs : List V} {ds : List D} : F a = some (.tup xs) → Reps K F xs ds → Rep K F (.ref a) (.tup ds)
  | dK {a : Addr} {kvs : List (Key × V)} {ks vs : List D} : F a = some (.dK kvs) → ks = kvs.map (fun kv => keyD kv.1) → Reps K F (kvs.map (·.2)) vs → Rep K F (.ref a) (.dct ks vs)
  | scr {a : Addr} {xs : List Int} : SqL K.fr F a (xs.map V.int) → Rep K F (.ref a) (.scr xs)
  | dN {a : Addr} {xs : List NEnt} {ks vs : List D} {us : List V} : F a = some (nO K a xs) → ks = xs.map (fun x => keyN x.1) → Reps K F (xs.map fun x => V.ref x.2.1) ks → Vals us (xs.map (·.2.2)) → Reps K F us vs → Rep K F (.ref a) (.dcn ks vs)
inductive Reps (K : Kx) (F : Hp) : List V → List D → Prop
  | nil : Reps K F [] []
  | cons {x : V} {d : D} {xs : List V} {ds : List D} : Rep K F x d → Reps K F xs ds → Reps K F (x :: xs) (d :: ds)
end
section
variable {K : Kx} {F F' : Hp}
mutual
theorem Rep.mono (e : Ex F F') : ∀ {v : V} {d : D}, Rep K F v d → Rep K F' v d
  | _, _, .non => .non
  | _, _, .bl => .bl
  | _, _, .int => .int
  | _, _, .str => .str
  | _, _, .lst h r => .lst (e _ _ h) (Reps.mono e r)
  | _, _, .tup h r => .tup (e _ _ h) (Reps.mono e r)
  | _, _, .dK h q r => .dK (e _ _ h) q (Reps.mono e r)
  | _, _, .scr h => .scr (Evl.ex_l e h)
  | _, _, .dN h q rk rv r => .dN (e _ _ h) q (Reps.mono e rk) rv (Reps.mono e r)
theorem Reps.mono (e : Ex F F') : ∀ {vs : List V} {ds : List D}, Reps K F vs ds → Reps K F' vs ds
  | _, _, .nil => .nil
  | _, _, .cons h r => .cons (Rep.mono e h) (Reps.mono e r)
end
theorem Reps.length : ∀ {vs : List V} {ds : List D}, Reps K F vs ds → vs.length = ds.length
  | _, _, .nil => rfl
  | _, _, .cons _ r => congrArg (· + 1) (Reps.length r)
theorem Reps.get : ∀ {vs : List V} {ds : List D} {i : Nat} {v : V}, Reps K F vs ds → vs[i]? = some v → ∃ d, ds[i]? = some d ∧ Rep K F v d
  | _, _, 0, _, .cons h _, e => by
    simp at e
    subst e
    exact ⟨_, rfl, h⟩
  | _, _, i + 1, _, .cons _ r, e => by
    obtain ⟨d, q, z⟩ := Reps.get (i := i) r (by simpa using e)
    exact ⟨d, by simpa using q, z⟩
theorem Reps.getD : ∀ {vs : List V} {ds : List D} {i : Nat} {d : D}, Reps K F vs ds → ds[i]? = some d → ∃ v, vs[i]? = some v ∧ Rep K F v d
  | _, _, 0, _, .cons h _, e => by
    simp at e
    subst e
    exact ⟨_, rfl, h⟩
  | _, _, i + 1, _, .cons _ r, e => by
    obtain ⟨d, q, z⟩ := Reps.getD (i := i) r (by simpa using e)
    exact ⟨d, by simpa using q, z⟩
theorem Reps.append : ∀ {vs ws : List V} {ds es : List D}, Reps K F vs ds → Reps K F ws es → Reps K F (vs ++ ws) (ds ++ es)
  | _, _, _, _, .nil, s => s
  | _, _, _, _, .cons h r, s => .cons h (Reps.append r s)
theorem Reps.set : ∀ {vs : List V} {ds : List D} {v : V} {d : D} (i : Nat), Reps K F vs ds → Rep K F v d → Reps K F (vs.set i v) (ds.set i d)
  | _, _, _, _, _, .nil, _ => .nil
  | _, _, _, _, 0, .cons _ r, q => .cons q r
  | _, _, _, _, i + 1, .cons h r, q => .cons h (Reps.set i r q)
theorem Reps.drop : ∀ {vs : List V} {ds : List D} (i : Nat), Reps K F vs ds → Reps K F (vs.drop i) (ds.drop i)
  | _, _, 0, r => r
  | _, _, _ + 1, .nil => .nil
  | _, _, i + 1, .cons _ r => Reps.drop i r
theorem Reps.take : ∀ {vs : List V} {ds : List D} (i : Nat), Reps K F vs ds → Reps K F (vs.take i) (ds.take i)
  | _, _, 0, _ => .nil
  | _, _, _ + 1, .nil => .nil
  | _, _, i + 1, .cons h r => .cons h (Reps.take i r)
theorem Reps.one {v : V} {d : D} (h : Rep K F v d) : Reps K F [v] [d] := .cons h .nil
theorem Reps.ints : ∀ {ns : List Int}, Reps K F (ns.map V.int) (ns.map D.int)
  | [] => .nil
  | _ :: _ => .cons .int Reps.ints
theorem Reps.ints_inv : ∀ {vs : List V} {ns : List Int}, Reps K F vs (ns.map D.int) → vs = ns.map V.int
  | _, [], .nil => rfl
  | _, n :: ns, .cons h r => by
    cases h
    rw [Reps.ints_inv r]
    rfl
end

/-! ### typed data -/
class Enc (α : Type) where
  enc : α → D
abbrev enc {α : Type} [Enc α] : α → D := Enc.enc
structure Txt where
  cs : List Nat
  deriving DecidableEq, Inhabited
structure Tp (α : Type) where
  xs : List α
  deriving DecidableEq
structure T3 (α β γ : Type) where
  a : α
  b : β
  c : γ
  deriving DecidableEq
structure Dic (κ α : Type) where
  kvs : List (κ × α)
structure DicN (κ α : Type) where
  kvs : List (κ × α)
structure Scr where
  xs : List Int
@[reducible] instance : Enc Int := ⟨D.int⟩
@[reducible] instance : Enc Bool := ⟨D.bl⟩
@[reducible] instance : Enc Unit := ⟨fun _ => D.non⟩
@[reducible] instance : Enc Txt := ⟨fun t => D.str t.cs⟩
@[reducible] instance : Enc Scr := ⟨fun t => D.scr t.xs⟩
@[reducible] instance {α : Type} [Enc α] : Enc (List α) := ⟨fun xs => D.lst (xs.map enc)⟩
@[reducible] instance {α : Type} [Enc α] : Enc (Tp α) := ⟨fun t => D.tup (t.xs.map enc)⟩
@[reducible] instance {α β : Type} [Enc α] [Enc β] : Enc (α × β) := ⟨fun p => D.tup [enc p.1, enc p.2]⟩
@[reducible] instance {α β γ : Type} [Enc α] [Enc β] [Enc γ] : Enc (T3 α β γ) := ⟨fun p => D.tup [enc p.a, enc p.b, enc p.c]⟩
@[reducible] instance {α : Type} [Enc α] : Enc (Option α) := ⟨fun o => match o with | none => D.non | some a => enc a⟩
@[reducible] instance {κ α : Type} [Enc κ] [Enc α] : Enc (Dic κ α) := ⟨fun d => D.dct (d.kvs.map fun kv => enc kv.1) (d.kvs.map fun kv => enc kv.2)⟩

@[reducible] instance {κ α : Type} [Enc κ] [Enc α] : Enc (DicN κ α) := ⟨fun d => D.dcn (d.kvs.map fun kv => enc kv.1) (d.kvs.map fun kv => enc kv.2)⟩

/-! ### the state: cells by slot, the frozen heap F within the heap H -/
inductive Cell where
  | dat (d : D)
  | own (b : Bool) (d : D)
abbrev Cells := List (Option Cell)
structure Cc where
  K : Kx
  mg : Str → Option Value
  F0 : Hp
  H0 : Hp
  G : Hp
  W : WX
inductive Root (K : Kx) (F : Hp) (a : Addr) : HO → D → Prop
  | lst {xs : List V} {ds : List D} : Reps K F xs ds → Root K F a (.lst xs) (.lst ds)
  | dK {kvs : List (Key × V)} {ks vs : List D} : ks = kvs.map (fun kv => keyD kv.1) → Reps K F (kvs.map (·.2)) vs → Root K F a (.dK kvs) (.dct ks vs)
  | dN {xs : List NEnt} {ks vs : List D} {us : List V} : ks = xs.map (fun x => keyN x.1) → Reps K F (xs.map fun x => V.ref x.2.1) ks → Vals us (xs.map (·.2.2)) → Reps K F us vs → Root K F a (nO K a xs) (.dcn ks vs)
theorem Root.mono {K : Kx} {F F' : Hp} {a : Addr} {o : HO} {d : D} (e : Ex F F') (h : Root K F a o d) : Root K F' a o d := by
  cases h with
  | lst r => exact .lst (Reps.mono e r)
  | dK q r => exact .dK q (Reps.mono e r)
  | dN q rk rv r => exact .dN q (Reps.mono e rk) rv (Reps.mono e r)
/-- a root that is frozen -/
theorem Root.rep {K : Kx} {F : Hp} {o : HO} {d : D} {a : Addr} (h : Root K F a o d) (n : F a = none) : Rep K (upd F a o) (.ref a) d := by
  have e : Ex F (upd F a o) := Ex.new n
  cases h with
  | lst r => exact .lst upd_same (Reps.mono e r)
  | dK q r => exact .dK upd_same q (Reps.mono e r)
  | dN q rk rv r => exact .dN upd_same q (Reps.mono e rk) rv (Reps.mono e r)
/-- an owned root at l -/
def OwnAt (c : Cc) (F H : Hp) (v : V) (l : Addr) (b : Bool) (d : D) : Prop := v = .ref l ∧ (∃ o, H l = some o ∧ Root c.K F l o d) ∧ F l = none ∧ c.G l = none ∧ (c.H0 l = none ↔ b = true)
def CellAt (c : Cc) (F H : Hp) (v : V) : Cell → Prop
  | .dat d => Rep c.K F v d
  | .own b d => ∃ l, OwnAt c F H v l b d
structure RS (c : Cc) (env : Cells) (σ : L2.St) (F H : Hp) : Prop where
  len : σ.length = env.length
  exF : Ex F H
  exF0 : Ex c.F0 F
  newF : ∀ a, c.F0 a = none → c.H0 a ≠ none → F a = none
  exG : Ex c.G H
  grow : ∀ a, H a = none → c.H0 a = none
  gF : ∀ a, c.G a ≠ none → c.F0 a = none → F a = none
  cell : ∀ (i : Nat) (x : Cell), env[i]? = some (some x) → ∃ v, σ[i]? = some (some v) ∧ CellAt c F H v x
  dist : ∀ (i j : Nat) (b b' : Bool) (d e : D) (l : Addr), i ≠ j → env[i]? = some (some (.own b d)) → env[j]? = some (some (.own b' e)) → σ[i]? = some (some (.ref l)) → σ[j]? ≠ some (some (.ref l))

section
variable {c : Cc} {env env' : Cells} {σ : L2.St} {F H F' H' : Hp}
/-- fewer cells -/
def Le : Cells → Cells → Prop
  | [], [] => True
  | none :: xs, _ :: ys => Le xs ys
  | some x :: xs, y :: ys => some x = y ∧ Le xs ys
  | _, _ => False
theorem Le.len : ∀ {a b : Cells}, Le a b → a.length = b.length
  | [], [], _ => rfl
  | none :: xs, _ :: ys, h => congrArg (· + 1) (Le.len (a := xs) (b := ys) h)
  | some x :: xs, y :: ys, h => congrArg (· + 1) (Le.len (a := xs) (b := ys) h.2)
  | none :: _, [], h => h.elim
  | some _ :: _, [], h => h.elim
  | [], _ :: _, h => h.elim
theorem Le.get : ∀ {a b : Cells} {i : Nat} {x : Cell}, Le a b → a[i]? = some (some x) → b[i]? = some (some x)
  | none :: xs, _ :: ys, 0, _, _, e => by simp at e
  | none :: xs, _ :: ys, i + 1, x, h, e => by
    have := Le.get (a := xs) (b := ys) (i := i) (x := x) h (by simpa using e)
    simpa using this
  | some x :: xs, y :: ys, 0, z, h, e => by
    simp at e
    subst e
    simp [← h.1]
  | some _ :: xs, y :: ys, i + 1, x, h, e => by
    have := Le.get (a := xs) (b := ys) (i := i) (x := x) h.2 (by simpa using e)
    simpa using this
  | [], _, _, _, _, e => by simp at e
  | none :: _, [], _, _, h, _ => h.elim
  | some _ :: _, [], _, _, h, _ => h.elim
theorem RS.weak (R : RS c env σ F H) (h : Le env' env) : RS c env' σ F H where
  len := by rw [R.len, h.len]
  exF := R.exF
  exF0 := R.exF0
  newF := R.newF
  exG := R.exG
  grow := R.grow
  gF := R.gF
  cell := fun i x e => R.cell i x (h.get e)
  dist := fun i j k k' d e l n a b => R.dist i j k k' d e l n (h.get a) (h.get b)
theorem OwnAt.mono {v : V} {l : Addr} {b : Bool} {d : D} (o : OwnAt c F H v l b d) (eF : Ex F F') (eH : Ex H H') (nF : ∀ a, F a = none → H a ≠ none → F' a = none) : OwnAt c F' H' v l b d := by
  obtain ⟨h1, ⟨ob, h2, h3⟩, h4, h5⟩ := o
  exact ⟨h1, ⟨ob, eH _ _ h2, h3.mono eF⟩, nF l h4 (by rw [h2]; simp), h5⟩
/-- both heaps have grown -/
theorem RS.grown (R : RS c env σ F H) (eF : Ex F F') (eH : Ex H H') (eF' : Ex F' H') (nF : ∀ a, F a = none → H a ≠ none → F' a = none) (g : ∀ a, H' a = none → H a = none) : RS c env σ F' H' where
  len := R.len
  exF := eF'
  exF0 := R.exF0.trans eF
  newF := fun a h1 h2 => nF a (R.newF a h1 h2) (fun z => h2 (R.grow a z))
  exG := R.exG.trans eH
  grow := fun a h => R.grow a (g a h)
  gF := fun a h1 h2 => nF a (R.gF a h1 h2) fun z => h1 (Evl.fresh_back R.exG z)
  cell := fun i x e => by
    obtain ⟨v, h1, h2⟩ := R.cell i x e
    refine ⟨v, h1, ?_⟩
    cases x with
    | dat d => exact Rep.mono eF h2
    | own b d =>
      obtain ⟨l, o⟩ := h2
      exact ⟨l, o.mono eF eH nF⟩
  dist := R.dist
/-- both heaps have grown, what was not frozen of the known stays so -/
structure Grow (F H F' H' : Hp) : Prop where
  f : Ex F F'
  h : Ex H H'
  fh : Ex F' H'
  n : ∀ a, F a = none → H a ≠ none → F' a = none
theorem ex_none (e : Ex F H) {a : Addr} (h : H a = none) : F a = none := Evl.fresh_back e h
theorem RS.g (R : RS c env σ F H) (g : Grow F H F' H') : RS c env σ F' H' := R.grown g.f g.h g.fh g.n fun _ h => ex_none g.h h
theorem Grow.refl (e : Ex F H) : Grow F H F H := ⟨Ex.refl F, Ex.refl H, e, fun _ h _ => h⟩
theorem Grow.trans {F'' H'' : Hp} (a : Grow F H F' H') (b : Grow F' H' F'' H'') : Grow F H F'' H'' :=
  ⟨a.f.trans b.f, a.h.trans b.h, b.fh, fun x h1 h2 => b.n x (a.n x h1 h2) fun z => h2 (ex_none a.h z)⟩
theorem Grow.laid {p : Addr} {o : HO} (e : Ex F H) (hp : H p = none) : Grow F H (upd F p o) (upd H p o) := by
  have hF : F p = none := ex_none e hp
  refine ⟨Ex.new hF, Ex.new hp, fun a u h => ?_, fun a h1 h2 => ?_⟩
  · by_cases q : a = p
    · subst q
      rw [upd_same] at h ⊢
      exact h
    · rw [upd_ne q] at h ⊢
      exact e a u h
  · have q : a ≠ p := fun z => h2 (by rw [z]; exact hp)
    rw [upd_ne q]
    exact h1
theorem Grow.made {p : Addr} {o : HO} (e : Ex F H) (hp : H p = none) : Grow F H F (upd H p o) :=
  ⟨Ex.refl F, Ex.new hp, e.trans (Ex.new hp), fun _ h _ => h⟩
theorem Grow.freeze {p : Addr} {o : HO} {Hb : Hp} (g : Grow F Hb F' H) (hb : Hb p = none) (hp : H p = some o) (hF : F' p = none) : Grow F Hb (upd F' p o) H := by
  refine ⟨g.f.trans (Ex.new hF), g.h, fun a u h => ?_, fun a h1 h2 => ?_⟩
  · by_cases q : a = p
    · subst q
      rw [upd_same] at h
      cases h
      exact hp
    · rw [upd_ne q] at h
      exact g.fh a u h
  · have q : a ≠ p := fun z => h2 (by rw [z]; exact hb)
    rw [upd_ne q]
    exact g.n a h1 h2
/-- a new object, frozen at once -/
theorem RS.laid {p : Addr} {o : HO} (R : RS c env σ F H) (hp : H p = none) : RS c env σ (upd F p o) (upd H p o) := by
  have hF : F p = none := ex_none R.exF hp
  refine R.grown (Ex.new hF) (Ex.new hp) (fun a u e => ?_) (fun a h1 h2 => ?_) fun a h => ?_
  · by_cases q : a = p
    · subst q
      rw [upd_same] at e ⊢
      exact e
    · rw [upd_ne q] at e ⊢
      exact R.exF a u e
  · have q : a ≠ p := fun z => h2 (by rw [z]; exact hp)
    rw [upd_ne q]
    exact h1
  · by_cases q : a = p
    · subst q
      exact hp
    · rw [upd_ne q] at h
      exact h
/-- a new object, not frozen -/
theorem RS.made {p : Addr} {o : HO} (R : RS c env σ F H) (hp : H p = none) : RS c env σ F (upd H p o) := by
  refine R.grown (Ex.refl F) (Ex.new hp) (R.exF.trans (Ex.new hp)) (fun a h1 _ => h1) fun a h => ?_
  by_cases q : a = p
  · subst q
    exact hp
  · rw [upd_ne q] at h
    exact h
/-- frozen later -/
theorem RS.frozen {p : Addr} {o : HO} (R : RS c env σ F H) (hp : H p = some o) (hF : F p = none) (h0 : c.H0 p = none) (hG : c.G p = none) (hn : ∀ (i : Nat) (b : Bool) (d : D), env[i]? = some (some (.own b d)) → σ[i]? ≠ some (some (.ref p))) : RS c env σ (upd F p o) H where
  len := R.len
  exF := fun a u e => by
    by_cases q : a = p
    · subst q
      rw [upd_same] at e
      cases e
      exact hp
    · rw [upd_ne q] at e
      exact R.exF a u e
  exF0 := R.exF0.trans (Ex.new hF)
  newF := fun a h1 h2 => by
    have q : a ≠ p := fun z => h2 (by rw [z]; exact h0)
    rw [upd_ne q]
    exact R.newF a h1 h2
  exG := R.exG
  grow := R.grow
  gF := fun a h1 h2 => by
    have q : a ≠ p := fun z => h1 (by rw [z]; exact hG)
    rw [upd_ne q]
    exact R.gF a h1 h2
  cell := fun i x e => by
    obtain ⟨v, h1, h2⟩ := R.cell i x e
    refine ⟨v, h1, ?_⟩
    cases x with
    | dat d => exact Rep.mono (Ex.new hF) h2
    | own b d =>
      obtain ⟨l, rfl, ⟨ob, h3, h4⟩, h5, h6⟩ := h2
      have q : l ≠ p := fun z => hn i b d e (by rw [h1, z])
      exact ⟨l, rfl, ⟨ob, h3, h4.mono (Ex.new hF)⟩, by rw [upd_ne q]; exact h5, h6⟩
  dist := R.dist
/-- a slot is set to data -/
theorem RS.setD {i : Nat} {v : V} {d : D} (R : RS c env σ F H) (r : Rep c.K F v d) : RS c (env.set i (some (.dat d))) (σ.set i (some v)) F H where
  len := by rw [List.length_set, List.length_set, R.len]
  exF := R.exF
  exF0 := R.exF0
  newF := R.newF
  exG := R.exG
  grow := R.grow
  gF := R.gF
  cell := fun j x e => by
    by_cases q : i = j
    · subst q
      have hl : i < env.length := by
        have := (List.getElem?_eq_some_iff.mp e).1
        rwa [List.length_set] at this
      rw [List.getElem?_set_self hl] at e
      cases e
      exact ⟨v, List.getElem?_set_self (by rw [R.len]; exact hl), r⟩
    · rw [List.getElem?_set_ne q] at e
      rw [List.getElem?_set_ne q]
      exact R.cell j x e
  dist := fun a b k1 k2 d1 d2 l n ha hb h1 => by
    have qa : i ≠ a := fun z => by
      subst z
      have hl : i < env.length := by
        have := (List.getElem?_eq_some_iff.mp ha).1
        rwa [List.length_set] at this
      rw [List.getElem?_set_self hl] at ha
      cases ha
    have qb : i ≠ b := fun z => by
      subst z
      have hl : i < env.length := by
        have := (List.getElem?_eq_some_iff.mp hb).1
        rwa [List.length_set] at this
      rw [List.getElem?_set_self hl] at hb
      cases hb
    rw [List.getElem?_set_ne qa] at ha h1
    rw [List.getElem?_set_ne qb] at hb ⊢
    exact R.dist a b k1 k2 d1 d2 l n ha hb h1
/-- a slot is set to a new root, not frozen -/
theorem RS.setO {i : Nat} {p : Addr} {k : Bool} {d : D} (R : RS c env σ F H) (r : OwnAt c F H (.ref p) p k d) (hn : ∀ (j : Nat) (b : Bool) (e : D), env[j]? = some (some (.own b e)) → σ[j]? ≠ some (some (.ref p))) :
    RS c (env.set i (some (.own k d))) (σ.set i (some (.ref p))) F H where
  len := by rw [List.length_set, List.length_set, R.len]
  exF := R.exF
  exF0 := R.exF0
  newF := R.newF
  exG := R.exG
  grow := R.grow
  gF := R.gF
  cell := fun j x e => by
    by_cases q : i = j
    · subst q
      have hl : i < env.length := by
        have := (List.getElem?_eq_some_iff.mp e).1
        rwa [List.length_set] at this
      rw [List.getElem?_set_self hl] at e
      cases e
      exact ⟨.ref p, List.getElem?_set_self (by rw [R.len]; exact hl), p, r⟩
    · rw [List.getElem?_set_ne q] at e
      rw [List.getElem?_set_ne q]
      exact R.cell j x e
  dist := fun a b k1 k2 d1 d2 l n ha hb h1 => by
    by_cases qa : i = a
    · subst qa
      have qb : i ≠ b := n
      have hl : i < env.length := by
        have := (List.getElem?_eq_some_iff.mp ha).1
        rwa [List.length_set] at this
      rw [List.getElem?_set_self (by rw [R.len]; exact hl)] at h1
      cases h1
      rw [List.getElem?_set_ne qb] at hb ⊢
      exact hn b k2 d2 hb
    · rw [List.getElem?_set_ne qa] at ha h1
      by_cases qb : i = b
      · subst qb
        have hl : i < env.length := by
          have := (List.getElem?_eq_some_iff.mp hb).1
          rwa [List.length_set] at this
        rw [List.getElem?_set_self (by rw [R.len]; exact hl)]
        intro z
        cases z
        exact hn a k1 d1 ha h1
      · rw [List.getElem?_set_ne qb] at hb ⊢
        exact R.dist a b k1 k2 d1 d2 l n ha hb h1
/-- an owned root is written -/
theorem RS.write {i : Nat} {l : Addr} {o : HO} {k : Bool} {d d' : D} (R : RS c env σ F H) (he : env[i]? = some (some (.own k d))) (hs : σ[i]? = some (some (.ref l))) (r : Root c.K F l o d') :
    RS c (env.set i (some (.own k d'))) σ F (upd H l o) := by
  have hl : i < env.length := (List.getElem?_eq_some_iff.mp he).1
  obtain ⟨v, h1, l', e', ⟨o', h2, h3⟩, h4, h5⟩ := R.cell i _ he
  rw [hs] at h1
  cases h1
  cases e'
  refine ⟨by rw [List.length_set]; exact R.len, fun a u e => ?_, R.exF0, R.newF, fun a u e => ?_, fun a h => ?_, R.gF, fun j x e => ?_, fun a b k1 k2 d1 d2 m n ha hb h1 => ?_⟩
  · rw [upd_ne (ne_of_none e h4)]
    exact R.exF a u e
  · rw [upd_ne (ne_of_none e h5.1)]
    exact R.exG a u e
  · by_cases q : a = l
    · subst q
      rw [upd_same] at h
      cases h
    · rw [upd_ne q] at h
      exact R.grow a h
  · by_cases q : i = j
    · subst q
      rw [List.getElem?_set_self hl] at e
      cases e
      exact ⟨.ref l, hs, l, rfl, ⟨o, upd_same, r⟩, h4, h5⟩
    · rw [List.getElem?_set_ne q] at e
      obtain ⟨v, g1, g2⟩ := R.cell j x e
      refine ⟨v, g1, ?_⟩
      cases x with
      | dat e => exact g2
      | own k' e' =>
        obtain ⟨m, rfl, ⟨ob, g3, g4⟩, g5, g6⟩ := g2
        have q2 : m ≠ l := fun z => by
          subst z
          exact R.dist i j k k' d e' m q he e hs g1
        exact ⟨m, rfl, ⟨ob, by rw [upd_ne q2]; exact g3, g4⟩, g5, g6⟩
  · have fa : ∃ k1' d1', env[a]? = some (some (.own k1' d1')) := by
      by_cases q : i = a
      · subst q
        exact ⟨k, d, he⟩
      · rw [List.getElem?_set_ne q] at ha
        exact ⟨k1, d1, ha⟩
    have fb : ∃ k2' d2', env[b]? = some (some (.own k2' d2')) := by
      by_cases q : i = b
      · subst q
        exact ⟨k, d, he⟩
      · rw [List.getElem?_set_ne q] at hb
        exact ⟨k2, d2, hb⟩
    obtain ⟨k1', d1', fa⟩ := fa
    obtain ⟨k2', d2', fb⟩ := fb
    exact R.dist a b k1' k2' d1' d2' m n fa fb h1
/-- a slot is forgotten -/
theorem RS.drop {i : Nat} {x : Option V} (R : RS c env σ F H) : RS c (env.set i none) (σ.set i x) F H where
  len := by rw [List.length_set, List.length_set, R.len]
  exF := R.exF
  exF0 := R.exF0
  newF := R.newF
  exG := R.exG
  grow := R.grow
  gF := R.gF
  cell := fun j y e => by
    by_cases q : i = j
    · subst q
      have hl : i < env.length := by
        have := (List.getElem?_eq_some_iff.mp e).1
        rwa [List.length_set] at this
      rw [List.getElem?_set_self hl] at e
      cases e
    · rw [List.getElem?_set_ne q] at e
      rw [List.getElem?_set_ne q]
      exact R.cell j y e
  dist := fun a b k1 k2 d1 d2 l n ha hb h1 => by
    have qa : i ≠ a := fun z => by
      subst z
      have hl : i < env.length := by
        have := (List.getElem?_eq_some_iff.mp ha).1
        rwa [List.length_set] at this
      rw [List.getElem?_set_self hl] at ha
      cases ha
    have qb : i ≠ b := fun z => by
      subst z
      have hl : i < env.length := by
        have := (List.getElem?_eq_some_iff.mp hb).1
        rwa [List.length_set] at this
      rw [List.getElem?_set_self hl] at hb
      cases hb
    rw [List.getElem?_set_ne qa] at ha h1
    rw [List.getElem?_set_ne qb] at hb ⊢
    exact R.dist a b k1 k2 d1 d2 l n ha hb h1
end
end HW

set_option Elab.async false
set_option linter.all false
set_option maxRecDepth 100000
set_option autoImplicit false
namespace HW
open PySem L2
open Evl (Ex)

/-- how a value stands for data: frozen data; a new root; a root that is seen -/
inductive RK where
  | dat | new | see | deep
def ResIs (c : Cc) (k : RK) (Hb F H : Hp) (v : V) (d : D) : Prop :=
  match k with
  | .dat => Rep c.K F v d
  | .new => ∃ p o, v = .ref p ∧ Hb p = none ∧ H p = some o ∧ F p = none ∧ Root c.K F p o d
  | .see => ∃ p o, v = .ref p ∧ H p = some o ∧ Root c.K F p o d
  | .deep => ∃ Fd : Hp, Rep c.K Fd v d ∧ Ex Fd H ∧ ∀ a, Fd a ≠ none → Hb a = none ∧ F a = none
def ExcIs (c : Cc) (n : String) (p : List D) (cls : Value) (d : Option Addr) (F H : Hp) : Prop :=
  ∃ C, c.mg (Str.ofString n) = some (.ref C) ∧ cls = .ref C ∧
    ((p = [] ∧ d = none) ∨ ∃ dx f v x, p = [x] ∧ d = some dx ∧ H dx = some (.xd [(f, v)]) ∧ Rep c.K F v x)
def XP (c : Cc) (σ : L2.St) (F H : Hp) (n : String) (p : List D) : Prop := ∀ F' H' cls d, Grow F H F' H' → ExcIs c n p cls d F' H' → c.W cls d σ H'
theorem XP.grow {c : Cc} {σ : L2.St} {F H F' H' : Hp} {n : String} {p : List D} (x : XP c σ F H n p) (g : Grow F H F' H') : XP c σ F' H' n p := fun F2 H2 cls d g2 => x F2 H2 cls d (g.trans g2)
/-- an expression that changes nothing that is known -/
def EvP (c : Cc) (k : RK) (te : TE) (env : Cells) {α : Type} [Enc α] (m : M α) : Prop :=
  ∀ σ F H Q, RS c env σ F H → WP m (fun a => ∀ v F' H', Grow F H F' H' → ResIs c k H F' H' v (enc a) → Q v H') (XP c σ F H) → te σ H Q
def EvT (c : Cc) (tt : TT) (env : Cells) (m : M Bool) : Prop :=
  ∀ σ F H Q, RS c env σ F H → WP m (fun b => ∀ F' H', Grow F H F' H' → Q b H') (XP c σ F H) → tt σ H Q
def EvAs (c : Cc) (ta : TA) (env : Cells) (m : M (List D)) : Prop :=
  ∀ σ F H Q, RS c env σ F H → WP m (fun ds => ∀ vs F' H', Grow F H F' H' → Reps c.K F' vs ds → Q vs H') (XP c σ F H) → ta σ H Q
def EvAL (c : Cc) (ta : TA) (env : Cells) {α : Type} [Enc α] (m : M (List α)) : Prop :=
  ∀ σ F H Q, RS c env σ F H → WP m (fun ds => ∀ vs F' H', Grow F H F' H' → Reps c.K F' vs (ds.map enc) → Q vs H') (XP c σ F H) → ta σ H Q
/-- an operation by values -/
def Op2 (c : Cc) (k1 k2 k : RK) (r : R2) {α β γ : Type} [Enc α] [Enc β] [Enc γ] (f : α → β → M γ) : Prop :=
  ∀ σ F H a b x y Q, Ex F H → ResIs c k1 H F H x (enc a) → ResIs c k2 H F H y (enc b) → WP (f a b) (fun d => ∀ v F' H', Grow F H F' H' → ResIs c k H F' H' v (enc d) → Q v H') (XP c σ F H) → r x y H Q
def Op1 (c : Cc) (k1 k : RK) (r : V → Hp → VK → Prop) {α γ : Type} [Enc α] [Enc γ] (f : α → M γ) : Prop :=
  ∀ σ F H a x Q, Ex F H → ResIs c k1 H F H x (enc a) → WP (f a) (fun d => ∀ v F' H', Grow F H F' H' → ResIs c k H F' H' v (enc d) → Q v H') (XP c σ F H) → r x H Q
/-- operand kinds: not new -/
def RK.op : RK → Prop
  | .new => False
  | .deep => False
  | _ => True
section
variable {c : Cc} {env : Cells} {σ : L2.St} {F H F' H' Hb : Hp} {k k1 k2 : RK} {v : V} {d : D}
theorem ResIs.grow (h : ResIs c k Hb F H v d) (g : Grow F H F' H') : ResIs c k Hb F' H' v d := by
  cases k with
  | dat => exact Rep.mono g.f h
  | new =>
    obtain ⟨p, o, h1, h2, h3, h4, h5⟩ := h
    exact ⟨p, o, h1, h2, g.h _ _ h3, g.n p h4 (by rw [h3]; simp), h5.mono g.f⟩
  | see =>
    obtain ⟨p, o, h1, h2, h3⟩ := h
    exact ⟨p, o, h1, g.h _ _ h2, h3.mono g.f⟩
  | deep =>
    obtain ⟨Fd, h1, h2, h3⟩ := h
    refine ⟨Fd, h1, h2.trans g.h, fun a q => ⟨(h3 a q).1, g.n a (h3 a q).2 fun z => ?_⟩⟩
    cases e : Fd a with
    | none => exact q e
    | some u =>
      have := h2 a u e
      rw [z] at this
      cases this
theorem ResIs.back {H1 : Hp} (h : ResIs c k H1 F H v d) (e : Ex Hb H1) : ResIs c k Hb F H v d := by
  cases k with
  | dat => exact h
  | new =>
    obtain ⟨p, o, h1, h2, h3⟩ := h
    exact ⟨p, o, h1, ex_none e h2, h3⟩
  | see => exact h
  | deep =>
    obtain ⟨Fd, h1, h2, h3⟩ := h
    exact ⟨Fd, h1, h2, fun a q => ⟨ex_none e (h3 a q).1, (h3 a q).2⟩⟩
theorem ResIs.any {H1 : Hp} (h : ResIs c k H1 F H v d) (e : k.op) : ResIs c k Hb F H v d := by
  cases k with
  | dat => exact h
  | new => exact e.elim
  | see => exact h
  | deep => exact e.elim
end
section
variable {c : Cc} {env : Cells} {k k1 k2 : RK} {te ta tb : TE} {tt uu : TT} {α β γ : Type} [Enc α] [Enc β] [Enc γ]
/-! ### the kinds -/
theorem EvP.froz {m : M α} (h : EvP c .new te env m) : EvP c .dat te env m := fun σ F H Q R w => h σ F H Q R (w.imp (fun a q v F' H' g r => by
  obtain ⟨p, o, rfl, h2, h3, h4, h5⟩ := r
  exact q _ _ H' (g.freeze h2 h3 h4) (h5.rep h4)) fun _ _ x => x)
theorem EvP.look {m : M α} (h : EvP c .new te env m) : EvP c .see te env m := fun σ F H Q R w => h σ F H Q R (w.imp (fun a q v F' H' g r => by
  obtain ⟨p, o, h1, h2, h3, h4, h5⟩ := r
  exact q v F' H' g ⟨p, o, h1, h3, h5⟩) fun _ _ x => x)
theorem EvP.lookL {m : M (List α)} (h : EvP c .dat te env m) : EvP c .see te env m := fun σ F H Q R w => h σ F H Q R (w.imp (fun a q v F' H' g r => q v F' H' g (by
  have r' : Rep c.K F' v (D.lst (a.map enc)) := r
  cases r' with
  | lst h1 h2 => exact ⟨_, _, rfl, g.fh _ _ h1, .lst h2⟩)) fun _ _ x => x)
theorem EvP.lookD {m : M (Dic α β)} (h : EvP c .dat te env m) : EvP c .see te env m := fun σ F H Q R w => h σ F H Q R (w.imp (fun a q v F' H' g r => q v F' H' g (by
  have r' : Rep c.K F' v (D.dct (a.kvs.map fun kv => enc kv.1) (a.kvs.map fun kv => enc kv.2)) := r
  cases r' with
  | dK h1 h2 h3 => exact ⟨_, _, rfl, g.fh _ _ h1, .dK h2 h3⟩)) fun _ _ x => x)
theorem EvP.lookDN {m : M (DicN α β)} (h : EvP c .dat te env m) : EvP c .see te env m := fun σ F H Q R w => h σ F H Q R (w.imp (fun a q v F' H' g r => q v F' H' g (by
  have r' : Rep c.K F' v (D.dcn (a.kvs.map fun kv => enc kv.1) (a.kvs.map fun kv => enc kv.2)) := r
  cases r' with
  | dN h1 h2 h3 h4 h5 => exact ⟨_, _, rfl, g.fh _ _ h1, .dN h2 h3 h4 h5⟩)) fun _ _ x => x)
/-! ### names, constants -/
theorem v_dat {i : Nat} {a : α} (h : env[i]? = some (some (.dat (enc a)))) : EvP c .dat (tVar i) env (.ok a) := fun σ F H Q R w => by
  obtain ⟨v, h1, h2⟩ := R.cell i _ h
  exact ⟨v, h1, w v F H (.refl R.exF) h2⟩
theorem v_see {i : Nat} {b : Bool} {a : α} (h : env[i]? = some (some (.own b (enc a)))) : EvP c .see (tVar i) env (.ok a) := fun σ F H Q R w => by
  obtain ⟨v, h1, l, rfl, ⟨o, h3, h4⟩, _⟩ := R.cell i _ h
  exact ⟨_, h1, w _ F H (.refl R.exF) ⟨l, o, rfl, h3, h4⟩⟩
theorem c_int {i : Int} : EvP c .dat (tC (.int i)) env (.ok i) := fun _ F H _ R w => w _ F H (.refl R.exF) .int
theorem c_bl {b : Bool} : EvP c .dat (tC (.bl b)) env (.ok b) := fun _ F H _ R w => w _ F H (.refl R.exF) .bl
theorem c_non : EvP c .dat (tC .non) env (.ok ()) := fun _ F H _ R w => w _ F H (.refl R.exF) .non
theorem c_nonO : EvP c .dat (tC .non) env (.ok (none : Option α)) := fun _ F H _ R w => w _ F H (.refl R.exF) .non
theorem Rep.strOf {K : Kx} {F : Hp} {x : Str} {cs : List Nat} (h : x.cps.toList = cs) : Rep K F (.str x) (.str cs) := by
  cases x with
  | mk arr =>
    have e : arr = cs.toArray := by rw [← h]
    rw [e]
    exact .str
theorem c_txt {x : Str} {cs : List Nat} (h : x.cps.toList = cs) : EvP c .dat (tC (.str x)) env (.ok (Txt.mk cs)) := fun _ F H _ R w => w _ F H (.refl R.exF) (Rep.strOf h)
/-! ### operations -/
theorem e_op {r : R2} {ma : M α} {mb : M β} {f : α → β → M γ} (ha : EvP c k1 ta env ma) (hb : EvP c k2 tb env mb) (ho : Op2 c k1 k2 k r f) (o1 : k1.op := by trivial) (o2 : k2.op := by trivial) :
    EvP c k (tOp r ta tb) env (ma.bind fun a => mb.bind fun b => f a b) := fun σ F H Q R w => by
  refine ha σ F H _ R ((wp_bind.mp w).imp (fun a w1 x F1 H1 g1 r1 => ?_) fun _ _ x => x)
  refine hb σ F1 H1 _ (R.g g1) ((wp_bind.mp w1).imp (fun b w2 y F2 H2 g2 r2 => ?_) fun _ _ x => x.grow g1)
  exact ho σ F2 H2 a b x y Q g2.fh ((r1.grow g2).any o1) (r2.any o2) (w2.imp (fun d q v F' H' g r => q v F' H' (g1.trans (g2.trans g)) (r.back (g1.h.trans g2.h))) fun _ _ x => x.grow (g1.trans g2))
theorem e_un {r : V → Hp → VK → Prop} {ma : M α} {f : α → M γ} (ha : EvP c k1 ta env ma) (ho : Op1 c k1 k r f) (o1 : k1.op := by trivial) :
    EvP c k (tUn r ta) env (ma.bind f) := fun σ F H Q R w => by
  refine ha σ F H _ R ((wp_bind.mp w).imp (fun a w1 x F1 H1 g1 r1 => ?_) fun _ _ x => x)
  exact ho σ F1 H1 a x Q g1.fh (r1.any o1) (w1.imp (fun d q v F' H' g r => q v F' H' (g1.trans g) (r.back g1.h)) fun _ _ x => x.grow g1)
/-- a built-in's call with one argument -/
theorem e_cb1 {r : List V → Hp → VK → Prop} {ma : M α} {f : α → M γ} (ha : EvP c k1 ta env ma) (ho : Op1 c k1 k (fun x => r [x]) f) (o1 : k1.op := by trivial) :
    EvP c k (tCB r (tCons ta tNil)) env (ma.bind f) := fun σ F H Q R w => by
  refine ha σ F H _ R ((wp_bind.mp w).imp (fun a w1 x F1 H1 g1 r1 => ?_) fun _ _ x => x)
  exact ho σ F1 H1 a x Q g1.fh (r1.any o1) (w1.imp (fun d q v F' H' g r => q v F' H' (g1.trans g) (r.back g1.h)) fun _ _ x => x.grow g1)
theorem e_cb2 {r : List V → Hp → VK → Prop} {ma : M α} {mb : M β} {f : α → β → M γ} (ha : EvP c k1 ta env ma) (hb : EvP c k2 tb env mb) (ho : Op2 c k1 k2 k (fun x y => r [x, y]) f) (o1 : k1.op := by trivial) (o2 : k2.op := by trivial) :
    EvP c k (tCB r (tCons ta (tCons tb tNil))) env (ma.bind fun a => mb.bind fun b => f a b) := fun σ F H Q R w => by
  refine ha σ F H _ R ((wp_bind.mp w).imp (fun a w1 x F1 H1 g1 r1 => ?_) fun _ _ x => x)
  refine hb σ F1 H1 _ (R.g g1) ((wp_bind.mp w1).imp (fun b w2 y F2 H2 g2 r2 => ?_) fun _ _ x => x.grow g1)
  exact ho σ F2 H2 a b x y Q g2.fh ((r1.grow g2).any o1) (r2.any o2) (w2.imp (fun d q v F' H' g r => q v F' H' (g1.trans (g2.trans g)) (r.back (g1.h.trans g2.h))) fun _ _ x => x.grow (g1.trans g2))
/-- o.m(e), o.m() of a built-in type -/
theorem e_bm {T : String} {r : V → List V → Hp → VK → Prop} {ma : M α} {mb : M β} {f : α → β → M γ} (ha : EvP c k1 ta env ma) (hb : EvP c k2 tb env mb) (ht : ∀ (a : α) F H x, Ex F H → ResIs c k1 H F H x (enc a) → tyV c.K.fr T x H)
    (ho : Op2 c k1 k2 k (fun x y => r x [y]) f) (o1 : k1.op := by trivial) (o2 : k2.op := by trivial) :
    EvP c k (tBM c.K.fr T r ta (tCons tb tNil)) env (ma.bind fun a => mb.bind fun b => f a b) := fun σ F H Q R w => by
  refine ha σ F H _ R ((wp_bind.mp w).imp (fun a w1 x F1 H1 g1 r1 => ?_) fun _ _ x => x)
  refine ⟨ht a F1 H1 x g1.fh (r1.any o1), ?_⟩
  refine hb σ F1 H1 _ (R.g g1) ((wp_bind.mp w1).imp (fun b w2 y F2 H2 g2 r2 => ?_) fun _ _ x => x.grow g1)
  exact ho σ F2 H2 a b x y Q g2.fh ((r1.grow g2).any o1) (r2.any o2) (w2.imp (fun d q v F' H' g r => q v F' H' (g1.trans (g2.trans g)) (r.back (g1.h.trans g2.h))) fun _ _ x => x.grow (g1.trans g2))
/-! ### tests -/
theorem t_val {m : M Bool} (h : EvP c .dat te env m) : EvT c (tTest te) env m := fun σ F H Q R w => h σ F H _ R (w.imp (fun b q v F' H' g r => by
  have r' : Rep c.K F' v (D.bl b) := r
  cases r'
  exact ⟨b, rfl, q F' H' g⟩) fun _ _ x => x)
theorem t_B {m : M Bool} (h : EvP c .dat te env m) : EvT c (tB te) env m := t_val h
theorem t_and {m1 m2 : M Bool} (h1 : EvT c tt env m1) (h2 : EvT c uu env m2) : EvT c (tAnd tt uu) env (m1.bind fun b => if b = true then m2 else .ok false) := fun σ F H Q R w => by
  refine h1 σ F H _ R ((wp_bind.mp w).imp (fun b w1 F1 H1 g1 => ?_) fun _ _ x => x)
  cases b with
  | true => exact h2 σ F1 H1 Q (R.g g1) (WP.imp w1 (fun b q F' H' g => q F' H' (g1.trans g)) fun _ _ x => x.grow g1)
  | false => exact w1 F1 H1 g1
theorem t_or {m1 m2 : M Bool} (h1 : EvT c tt env m1) (h2 : EvT c uu env m2) : EvT c (tOr tt uu) env (m1.bind fun b => if b = true then .ok true else m2) := fun σ F H Q R w => by
  refine h1 σ F H _ R ((wp_bind.mp w).imp (fun b w1 F1 H1 g1 => ?_) fun _ _ x => x)
  cases b with
  | false => exact h2 σ F1 H1 Q (R.g g1) (WP.imp w1 (fun b q F' H' g => q F' H' (g1.trans g)) fun _ _ x => x.grow g1)
  | true => exact w1 F1 H1 g1
theorem t_not {m : M Bool} (h : EvT c tt env m) : EvT c (tNot tt) env (m.bind fun b => .ok (!b)) := fun σ F H Q R w =>
  h σ F H _ R ((wp_bind.mp w).imp (fun b q F1 H1 g1 => q F1 H1 g1) fun _ _ x => x)
theorem e_if {m : M Bool} {ma mb : M α} (h : EvT c tt env m) (ha : EvP c k ta env ma) (hb : EvP c k tb env mb) : EvP c k (tIf tt ta tb) env (m.bind fun b => if b = true then ma else mb) := fun σ F H Q R w => by
  refine h σ F H _ R ((wp_bind.mp w).imp (fun b w1 F1 H1 g1 => ?_) fun _ _ x => x)
  cases b with
  | true => exact ha σ F1 H1 Q (R.g g1) (WP.imp w1 (fun b q v F' H' g r => q v F' H' (g1.trans g) (r.back g1.h)) fun _ _ x => x.grow g1)
  | false => exact hb σ F1 H1 Q (R.g g1) (WP.imp w1 (fun b q v F' H' g r => q v F' H' (g1.trans g) (r.back g1.h)) fun _ _ x => x.grow g1)
/-- and, or, not as values -/
theorem e_andV {m1 m2 : M Bool} (h1 : EvP c .dat ta env m1) (h2 : EvP c .dat tb env m2) : EvP c .dat (tAndV ta tb) env (m1.bind fun b => if b = true then m2 else .ok false) := fun σ F H Q R w => by
  refine h1 σ F H _ R ((wp_bind.mp w).imp (fun b w1 v F1 H1 g1 r1 => ?_) fun _ _ x => x)
  have r' : Rep c.K F1 v (D.bl b) := r1
  cases r'
  refine ⟨b, rfl, ?_⟩
  cases b with
  | true => exact h2 σ F1 H1 Q (R.g g1) (WP.imp w1 (fun b q v F' H' g r => q v F' H' (g1.trans g) r) fun _ _ x => x.grow g1)
  | false => exact w1 _ F1 H1 g1 .bl
theorem e_orV {m1 m2 : M Bool} (h1 : EvP c .dat ta env m1) (h2 : EvP c .dat tb env m2) : EvP c .dat (tOrV ta tb) env (m1.bind fun b => if b = true then .ok true else m2) := fun σ F H Q R w => by
  refine h1 σ F H _ R ((wp_bind.mp w).imp (fun b w1 v F1 H1 g1 r1 => ?_) fun _ _ x => x)
  have r' : Rep c.K F1 v (D.bl b) := r1
  cases r'
  refine ⟨b, rfl, ?_⟩
  cases b with
  | false => exact h2 σ F1 H1 Q (R.g g1) (WP.imp w1 (fun b q v F' H' g r => q v F' H' (g1.trans g) r) fun _ _ x => x.grow g1)
  | true => exact w1 _ F1 H1 g1 .bl
theorem e_notV {m : M Bool} (h : EvP c .dat ta env m) : EvP c .dat (tNotV ta) env (m.bind fun b => .ok (!b)) := fun σ F H Q R w => by
  refine h σ F H _ R ((wp_bind.mp w).imp (fun b w1 v F1 H1 g1 r1 => ?_) fun _ _ x => x)
  have r' : Rep c.K F1 v (D.bl b) := r1
  cases r'
  exact ⟨b, rfl, w1 _ F1 H1 g1 .bl⟩
/-! ### argument lists, displays -/
theorem as_nil : EvAs c tNil env (.ok []) := fun _ F H _ R w => w [] F H (.refl R.exF) .nil
theorem as_cons {tr : TA} {m : M α} {ms : M (List D)} (h : EvP c .dat te env m) (hr : EvAs c tr env ms) : EvAs c (tCons te tr) env (m.bind fun a => ms.bind fun ds => .ok (enc a :: ds)) := fun σ F H Q R w => by
  refine h σ F H _ R ((wp_bind.mp w).imp (fun a w1 x F1 H1 g1 r1 => ?_) fun _ _ x => x)
  refine hr σ F1 H1 _ (R.g g1) ((wp_bind.mp w1).imp (fun ds q vs F2 H2 g2 r2 => ?_) fun _ _ x => x.grow g1)
  exact q (x :: vs) F2 H2 (g1.trans g2) (.cons (Rep.mono g2.f r1) r2)
theorem al_nil : EvAL c tNil env (.ok ([] : List α)) := fun _ F H _ R w => w [] F H (.refl R.exF) .nil
theorem al_cons {tr : TA} {m : M α} {ms : M (List α)} (h : EvP c .dat te env m) (hr : EvAL c tr env ms) : EvAL c (tCons te tr) env (m.bind fun a => ms.bind fun ds => .ok (a :: ds)) := fun σ F H Q R w => by
  refine h σ F H _ R ((wp_bind.mp w).imp (fun a w1 x F1 H1 g1 r1 => ?_) fun _ _ x => x)
  refine hr σ F1 H1 _ (R.g g1) ((wp_bind.mp w1).imp (fun ds q vs F2 H2 g2 r2 => ?_) fun _ _ x => x.grow g1)
  exact q (x :: vs) F2 H2 (g1.trans g2) (.cons (Rep.mono g2.f r1) r2)
/-- the longest list that a mirror lets grow -/
def LIM : Nat := 4000000
theorem lim_line {n : Nat} (h : n < LIM) : n < sizeLine := Nat.lt_trans h (by decide)
theorem lim_le {n : Nat} (h : n ≤ LIM) : n ≤ sizeLine := Nat.le_trans h (by decide)
@[irreducible] def chk {β : Type} (b : Bool) (m : M β) : M β := if b = true then m else .error .stuck
theorem chk_true {β : Type} (m : M β) : chk true m = m := by
  unfold chk
  rfl
theorem chk_false {β : Type} (m : M β) : chk false m = .error .stuck := by
  unfold chk
  rfl
theorem wp_chk {β : Type} {b : Bool} {m : M β} {Qk : β → Prop} {Qx : String → List D → Prop} (h : WP (chk b m) Qk Qx) : b = true ∧ WP m Qk Qx := by
  cases b with
  | true =>
    rw [chk_true] at h
    exact ⟨rfl, h⟩
  | false =>
    rw [chk_false] at h
    exact h.elim
theorem e_lst {ta : TA} {m : M (List α)} (h : EvAL c ta env m) : EvP c .new (tLst ta) env (m.bind fun xs => chk (decide (xs.length < LIM)) (.ok xs)) := fun σ F H Q R w => by
  refine h σ F H _ R ((wp_bind.mp w).imp (fun xs w1 vs F1 H1 g1 r1 => ?_) fun _ _ x => x)
  obtain ⟨hl, w2⟩ := wp_chk w1
  have hl := of_decide_eq_true hl
  have e := r1.length
  rw [List.length_map] at e
  refine ⟨by rw [e]; exact Nat.le_of_lt (lim_line hl), fun p hp => ?_⟩
  have hF : F1 p = none := ex_none g1.fh hp
  exact w2 _ F1 _ (g1.trans (.made g1.fh hp)) ⟨p, _, rfl, ex_none g1.h hp, upd_same, hF, .lst r1⟩
theorem e_lst0 : EvP c .new (tLst tNil) env (.ok ([] : List α)) := fun σ F H Q R w =>
  ⟨Nat.zero_le _, fun p hp => w _ F _ (.made R.exF hp) ⟨p, _, rfl, hp, upd_same, ex_none R.exF hp, .lst .nil⟩⟩
theorem e_dict0 : EvP c .new tDNewK env (.ok (Dic.mk ([] : List (α × β)))) := fun σ F H Q R w =>
  fun p hp => w _ F _ (.made R.exF hp) ⟨p, _, rfl, hp, upd_same, ex_none R.exF hp, .dK rfl .nil⟩
theorem e_tup {ta : TA} {m : M (List D)} {f : List D → γ} (h : EvAs c ta env m) (hf : ∀ ds, WP m (fun ds' => ds' = ds → enc (f ds) = D.tup ds ∧ ds.length ≤ 1000) (fun _ _ => True)) : EvP c .dat (tTup ta) env (m.bind fun ds => .ok (f ds)) := fun σ F H Q R w => by
  refine h σ F H _ R ?_
  have w := wp_bind.mp w
  cases m with
  | ok ds =>
    intro vs F1 H1 g1 r1
    obtain ⟨e1, e2⟩ := hf ds rfl
    have el := r1.length
    refine ⟨by rw [el]; exact Nat.le_trans e2 (by decide), fun p hp => ?_⟩
    refine w _ _ _ (g1.trans (.laid g1.fh hp)) ?_
    show Rep c.K _ _ (enc (f ds))
    rw [e1]
    exact .tup upd_same (Reps.mono (Ex.new (ex_none g1.fh hp)) r1)
  | error e => cases e <;> exact w
theorem e_tup2 {ma : M α} {mb : M β} (ha : EvP c .dat ta env ma) (hb : EvP c .dat tb env mb) : EvP c .dat (tTup (tCons ta (tCons tb tNil))) env (ma.bind fun a => mb.bind fun b => .ok (a, b)) := fun σ F H Q R w => by
  refine ha σ F H _ R ((wp_bind.mp w).imp (fun a w1 x F1 H1 g1 r1 => ?_) fun _ _ x => x)
  refine hb σ F1 H1 _ (R.g g1) ((wp_bind.mp w1).imp (fun b q y F2 H2 g2 r2 => ?_) fun _ _ x => x.grow g1)
  refine ⟨by show 2 ≤ sizeLine; decide, fun p hp => ?_⟩
  refine q _ _ _ ((g1.trans g2).trans (.laid g2.fh hp)) ?_
  have e : Ex F2 (upd F2 p (.tup [x, y])) := Ex.new (ex_none g2.fh hp)
  exact .tup upd_same (.cons (Rep.mono (g2.f.trans e) r1) (.cons (Rep.mono e r2) .nil))
theorem e_tup3 {tc : TE} {ma : M α} {mb : M β} {mc : M γ} (ha : EvP c .dat ta env ma) (hb : EvP c .dat tb env mb) (hc : EvP c .dat tc env mc) : EvP c .dat (tTup (tCons ta (tCons tb (tCons tc tNil)))) env (ma.bind fun a => mb.bind fun b => mc.bind fun d => .ok (T3.mk a b d)) := fun σ F H Q R w => by
  refine ha σ F H _ R ((wp_bind.mp w).imp (fun a w1 x F1 H1 g1 r1 => ?_) fun _ _ x => x)
  refine hb σ F1 H1 _ (R.g g1) ((wp_bind.mp w1).imp (fun b w2 y F2 H2 g2 r2 => ?_) fun _ _ x => x.grow g1)
  refine hc σ F2 H2 _ (R.g (g1.trans g2)) ((wp_bind.mp w2).imp (fun d q z F3 H3 g3 r3 => ?_) fun _ _ x => x.grow (g1.trans g2))
  refine ⟨by show 3 ≤ sizeLine; decide, fun p hp => ?_⟩
  refine q _ _ _ (((g1.trans g2).trans g3).trans (.laid g3.fh hp)) ?_
  have e : Ex F3 (upd F3 p (.tup [x, y, z])) := Ex.new (ex_none g3.fh hp)
  exact .tup upd_same (.cons (Rep.mono ((g2.f.trans g3.f).trans e) r1) (.cons (Rep.mono (g3.f.trans e) r2) (.cons (Rep.mono e r3) .nil)))
end
end HW

set_option Elab.async false
set_option linter.all false
set_option maxRecDepth 100000
set_option autoImplicit false
namespace HW
open PySem L2
open Evl (Ex)

theorem repL_inv {K : Kx} {F : Hp} {v : V} {ds : List D} (h : Rep K F v (.lst ds)) : ∃ a xs, v = .ref a ∧ F a = some (.lst xs) ∧ Reps K F xs ds := by
  cases h with
  | lst h1 h2 => exact ⟨_, _, rfl, h1, h2⟩
theorem repT_inv {K : Kx} {F : Hp} {v : V} {ds : List D} (h : Rep K F v (.tup ds)) : ∃ a xs, v = .ref a ∧ F a = some (.tup xs) ∧ Reps K F xs ds := by
  cases h with
  | tup h1 h2 => exact ⟨_, _, rfl, h1, h2⟩
theorem repI_inv {K : Kx} {F : Hp} {v : V} {i : Int} (h : Rep K F v (.int i)) : v = .int i := by
  cases h
  rfl
theorem repB_inv {K : Kx} {F : Hp} {v : V} {b : Bool} (h : Rep K F v (.bl b)) : v = .bl b := by
  cases h
  rfl
theorem repS_inv {K : Kx} {F : Hp} {v : V} {s : List Nat} (h : Rep K F v (.str s)) : v = .str ⟨s.toArray⟩ := by
  cases h
  rfl
theorem rootL_inv {K : Kx} {F : Hp} {o : HO} {ds : List D} {a : Addr} (h : Root K F a o (.lst ds)) : ∃ xs, o = .lst xs ∧ Reps K F xs ds := by
  cases h with
  | lst r => exact ⟨_, rfl, r⟩

def rLenL (K : PySem.W.Frag) : List V → Hp → VK → Prop := (fun xs H Q => ∃ p ys, xs = [.ref p] ∧ (SqL K H p ys ∨ SqT K H p ys) ∧ Q (.int ys.length) H : List V → Hp → VK → Prop)
def rLenS : List V → Hp → VK → Prop := (fun xs H Q => ∃ z : Str, xs = [.str z] ∧ z.length ≤ sizeLine ∧ Q (.int z.length) H : List V → Hp → VK → Prop)
def rInt1 : List V → Hp → VK → Prop := (fun xs H Q => (∃ i, xs = [.int i] ∧ Q (.int i) H) ∨ ∃ k, xs = [.bl k] ∧ Q (.int (if k then 1 else 0)) H : List V → Hp → VK → Prop)
def rListL (K : PySem.W.Frag) : List V → Hp → VK → Prop := (fun xs H Q => ∃ p ys, xs = [.ref p] ∧ (SqL K H p ys ∨ SqT K H p ys) ∧ ∀ l, H l = none → Q (.ref l) (upd H l (.lst ys)) : List V → Hp → VK → Prop)
def rTupL (K : PySem.W.Frag) : List V → Hp → VK → Prop := (fun xs H Q => ∃ p ys, xs = [.ref p] ∧ ((SqL K H p ys ∧ ∀ l, H l = none → Q (.ref l) (upd H l (.tup ys))) ∨ (SqT K H p ys ∧ Q (.ref p) H)) : List V → Hp → VK → Prop)
def rMin2 : List V → Hp → VK → Prop := (fun xs H Q => ∃ i j, xs = [.int i, .int j] ∧ Q (.int (if j < i then j else i)) H : List V → Hp → VK → Prop)
def rMax2 : List V → Hp → VK → Prop := (fun xs H Q => ∃ i j, xs = [.int i, .int j] ∧ Q (.int (if j > i then j else i)) H : List V → Hp → VK → Prop)
section
variable {c : Cc} {env : Cells} {k k1 k2 : RK} {te ta tb : TE} {α β γ : Type} [Enc α] [Enc β] [Enc γ]
/-! ### ints -/
theorem op_I0 {g : Int → Int → V} {f : Int → Int → γ} (h : ∀ i j F, Rep c.K F (g i j) (enc (f i j))) : Op2 c .dat .dat .dat (rI0 g) (fun (a b : Int) => .ok (f a b)) := fun σ F H a b x y Q e r1 r2 w => by
  have e1 := repI_inv (show Rep c.K F x (.int a) from r1)
  have e2 := repI_inv (show Rep c.K F y (.int b) from r2)
  exact ⟨a, b, e1, e2, w _ F H (.refl e) (h a b F)⟩
theorem op_I {C : Int → Int → Prop} {g : Int → Int → V} {f : Int → Int → γ} {t : Int → Int → Bool} (h : ∀ i j F, Rep c.K F (g i j) (enc (f i j))) (ht : ∀ i j, t i j = true → C i j) :
    Op2 c .dat .dat .dat (rI C g) (fun (a b : Int) => chk (t a b) (.ok (f a b))) := fun σ F H a b x y Q e r1 r2 w => by
  have e1 := repI_inv (show Rep c.K F x (.int a) from r1)
  have e2 := repI_inv (show Rep c.K F y (.int b) from r2)
  obtain ⟨w1, w2⟩ := wp_chk w
  exact ⟨a, b, e1, e2, ht a b w1, w2 _ F H (.refl e) (h a b F)⟩
theorem o_add : Op2 c .dat .dat .dat (rI0 fun i j => .int (i + j)) (fun (a b : Int) => .ok (a + b)) := op_I0 fun _ _ _ => .int
theorem o_sub : Op2 c .dat .dat .dat (rI0 fun i j => .int (i - j)) (fun (a b : Int) => .ok (a - b)) := op_I0 fun _ _ _ => .int
def cmulB (i j : Int) : Bool := decide ((-(2 ^ 64) < i ∧ i < 2 ^ 64) ∨ (-(2 ^ 64) < j ∧ j < 2 ^ 64))
def posB (_ j : Int) : Bool := decide (0 < j)
def divB (_ j : Int) : Bool := decide (0 < j ∧ j < 1073741824)
theorem o_mul : Op2 c .dat .dat .dat (rI CMul fun i j => .int (i * j)) (fun (a b : Int) => chk (cmulB a b) (.ok (a * b))) := op_I (fun _ _ _ => .int) fun i j h => by
  unfold cmulB at h
  have h := of_decide_eq_true h
  exact h
theorem o_mod : Op2 c .dat .dat .dat (rI (fun _ j => 0 < j) fun i j => .int (i % j)) (fun (a b : Int) => chk (posB a b) (.ok (a % b))) := op_I (fun _ _ _ => .int) fun i j h => of_decide_eq_true h
theorem o_fdiv : Op2 c .dat .dat .dat (rI CDiv fun i j => .int (i / j)) (fun (a b : Int) => chk (divB a b) (.ok (a / b))) := op_I (fun _ _ _ => .int) fun i j h => by
  unfold divB at h
  have h := of_decide_eq_true h
  exact h
theorem o_lt : Op2 c .dat .dat .dat (rI0 fun i j => .bl (decide (i < j))) (fun (a b : Int) => .ok (decide (a < b))) := op_I0 fun _ _ _ => .bl
theorem o_le : Op2 c .dat .dat .dat (rI0 fun i j => .bl (decide (i ≤ j))) (fun (a b : Int) => .ok (decide (a ≤ b))) := op_I0 fun _ _ _ => .bl
theorem o_gt : Op2 c .dat .dat .dat (rI0 fun i j => .bl (decide (j < i))) (fun (a b : Int) => .ok (decide (b < a))) := op_I0 fun _ _ _ => .bl
theorem o_ge : Op2 c .dat .dat .dat (rI0 fun i j => .bl (decide (j ≤ i))) (fun (a b : Int) => .ok (decide (b ≤ a))) := op_I0 fun _ _ _ => .bl
/-- == of scalars -/
class Scal (α : Type) [Enc α] where
  dec : DecidableEq α
  val : α → V
  rep : ∀ {K : Kx} {F : Hp} {v : V} {a : α}, Rep K F v (enc a) → v = val a
  inj : ∀ {a b : α}, val a = val b → a = b
  sc : ∀ a b : α, scal (val a) (val b) = true
instance : Scal Int where
  dec := inferInstance
  val := V.int
  rep := fun h => repI_inv h
  inj := fun h => by injection h
  sc := fun _ _ => rfl
instance : Scal Bool where
  dec := inferInstance
  val := V.bl
  rep := fun h => repB_inv h
  inj := fun h => by injection h
  sc := fun _ _ => rfl
instance : Scal Txt where
  dec := inferInstance
  val := fun t => V.str ⟨t.cs.toArray⟩
  rep := fun h => repS_inv h
  inj := fun {a b} h => by
    injection h with h
    injection h with h
    have := congrArg Array.toList h
    simp at this
    cases a
    cases b
    simp_all
  sc := fun _ _ => rfl
instance : Scal (Option Int) where
  dec := inferInstance
  val := fun o => match o with | none => .non | some i => .int i
  rep := fun {K F v a} h => by
    cases a with
    | none => cases h; rfl
    | some i => exact repI_inv h
  inj := fun {a b} h => by
    cases a <;> cases b <;> simp_all
  sc := fun a b => by cases a <;> cases b <;> rfl
@[reducible] def eqD {α : Type} [Enc α] [s : Scal α] (a b : α) : Bool := @decide (a = b) (s.dec a b)
theorem eqD_true {α : Type} [Enc α] [s : Scal α] {a b : α} (h : a = b) : eqD a b = true := @decide_eq_true _ (s.dec a b) h
theorem eqD_false {α : Type} [Enc α] [s : Scal α] {a b : α} (h : ¬ a = b) : eqD a b = false := @decide_eq_false _ (s.dec a b) h
theorem o_eq [s : Scal α] : Op2 c .dat .dat .dat rEq (fun (a b : α) => .ok (eqD a b)) := fun σ F H a b x y Q e r1 r2 w => by
  have e1 := s.rep (show Rep c.K F x (enc a) from r1)
  have e2 := s.rep (show Rep c.K F y (enc b) from r2)
  subst e1 e2
  refine ⟨s.sc a b, ?_⟩
  have q : decide (s.val a = s.val b) = eqD a b := by
    haveI := s.dec
    by_cases h : a = b
    · rw [eqD_true h, decide_eq_true (congrArg _ h)]
    · rw [eqD_false h, decide_eq_false fun z => h (s.inj z)]
  rw [q]
  exact w _ F H (.refl e) .bl
theorem o_ne [s : Scal α] : Op2 c .dat .dat .dat rNe (fun (a b : α) => .ok (!eqD a b)) := fun σ F H a b x y Q e r1 r2 w => by
  have e1 := s.rep (show Rep c.K F x (enc a) from r1)
  have e2 := s.rep (show Rep c.K F y (enc b) from r2)
  subst e1 e2
  refine ⟨s.sc a b, ?_⟩
  have q : decide (s.val a = s.val b) = eqD a b := by
    haveI := s.dec
    by_cases h : a = b
    · rw [eqD_true h, decide_eq_true (congrArg _ h)]
    · rw [eqD_false h, decide_eq_false fun z => h (s.inj z)]
  rw [q]
  exact w _ F H (.refl e) .bl
/-- is None -/
class NN (α : Type) [Enc α] : Prop where
  ne : ∀ a : α, enc a ≠ D.non
instance : NN Int := ⟨fun _ h => nomatch h⟩
instance : NN Bool := ⟨fun _ h => nomatch h⟩
instance : NN Txt := ⟨fun _ h => nomatch h⟩
instance [Enc α] : NN (List α) := ⟨fun _ h => nomatch h⟩
instance [Enc α] : NN (Tp α) := ⟨fun _ h => nomatch h⟩
instance [Enc α] [Enc β] : NN (α × β) := ⟨fun _ h => nomatch h⟩
instance [Enc α] [Enc β] : NN (Dic α β) := ⟨fun _ h => nomatch h⟩
instance [Enc α] [Enc β] [Enc γ] : NN (T3 α β γ) := ⟨fun _ h => nomatch h⟩
theorem non_iff [NN α] {F : Hp} {x : V} {a : Option α} (r : Rep c.K F x (enc a)) : decide (x = .non) = a.isNone := by
  cases a with
  | none =>
    have r' : Rep c.K F x .non := r
    cases r'
    rfl
  | some a =>
    have n := NN.ne a
    have r' : Rep c.K F x (enc a) := r
    refine decide_eq_false fun z => n ?_
    subst z
    generalize enc a = d at r'
    cases r'
    rfl
theorem o_isN [NN α] : Op2 c .dat .dat .dat (fun x y H Q => y = .non ∧ Q (.bl (decide (x = .non))) H) (fun (a : Option α) (_ : Unit) => .ok a.isNone) := fun σ F H a b x y Q e r1 r2 w => by
  have r2' : Rep c.K F y .non := r2
  cases r2'
  refine ⟨rfl, ?_⟩
  rw [non_iff r1]
  exact w _ F H (.refl e) .bl
theorem o_notN [NN α] : Op2 c .dat .dat .dat (fun x y H Q => y = .non ∧ Q (.bl (!decide (x = .non))) H) (fun (a : Option α) (_ : Unit) => .ok (!a.isNone)) := fun σ F H a b x y Q e r1 r2 w => by
  have r2' : Rep c.K F y .non := r2
  cases r2'
  refine ⟨rfl, ?_⟩
  rw [non_iff r1]
  exact w _ F H (.refl e) .bl
/-! ### texts -/
theorem o_addS : Op2 c .dat .dat .dat (fun x y H Q => ∃ i j : Str, x = .str i ∧ y = .str j ∧ i.length + j.length ≤ sizeLine ∧ Q (.str (i ++ j)) H)
    (fun (a b : Txt) => chk (decide (a.cs.length + b.cs.length < LIM)) (.ok (Txt.mk (a.cs ++ b.cs)))) := fun σ F H a b x y Q e r1 r2 w => by
  have e1 := repS_inv (show Rep c.K F x (.str a.cs) from r1)
  have e2 := repS_inv (show Rep c.K F y (.str b.cs) from r2)
  obtain ⟨w1, w2⟩ := wp_chk w
  have w1 := of_decide_eq_true w1
  refine ⟨_, _, e1, e2, ?_, w2 _ F H (.refl e) (Rep.strOf ?_)⟩
  · show a.cs.toArray.size + b.cs.toArray.size ≤ sizeLine
    rw [List.size_toArray, List.size_toArray]
    exact Nat.le_of_lt (lim_line w1)
  · show (a.cs.toArray ++ b.cs.toArray).toList = a.cs ++ b.cs
    simp
/-! ### subscripts -/
def getL {α : Type} (xs : List α) (i : Int) : M α :=
  match atI xs i with
  | some x => .ok x
  | none => .error .stuck
theorem wp_getL {α : Type} {xs : List α} {i : Int} {Qk : α → Prop} {Qx : String → List D → Prop} (w : WP (getL xs i) Qk Qx) : ∃ x, atI xs i = some x ∧ Qk x := by
  unfold getL at w
  cases h : atI xs i with
  | none =>
    rw [h] at w
    exact w.elim
  | some x =>
    rw [h] at w
    exact ⟨x, rfl, w⟩
theorem atI_map {α β : Type} (f : α → β) (xs : List α) (i : Int) : atI (xs.map f) i = (atI xs i).map f := by
  unfold atI
  rw [List.length_map]
  cases ixN xs.length i with
  | none => rfl
  | some j => simp
theorem atI_reps {K : Kx} {F : Hp} {vs : List V} {xs : List α} {i : Int} {x : α} (r : Reps K F vs (xs.map enc)) (h : atI xs i = some x) : ∃ v, atI vs i = some v ∧ Rep K F v (enc x) := by
  have e := r.length
  rw [List.length_map] at e
  unfold atI at h ⊢
  rw [e]
  cases hj : ixN xs.length i with
  | none =>
    rw [hj] at h
    cases h
  | some j =>
    rw [hj] at h
    have h' : xs[j]? = some x := h
    exact r.getD (i := j) (d := enc x) (by rw [List.getElem?_map, h']; rfl)
theorem o_ixL : Op2 c .see .dat .dat (rIxL c.K.fr) (fun (xs : List α) (i : Int) => getL xs i) := fun σ F H a b x y Q e r1 r2 w => by
  obtain ⟨p, o, rfl, hp, hr⟩ := r1
  obtain ⟨vs, rfl, hv⟩ := rootL_inv hr
  have e2 := repI_inv (show Rep c.K F y (.int b) from r2)
  obtain ⟨z, h, w⟩ := wp_getL w
  obtain ⟨v, h1, h2⟩ := atI_reps hv h
  exact ⟨p, vs, b, v, rfl, e2, SqL.of hp, h1, w v F H (.refl e) h2⟩
theorem o_ixT : Op2 c .dat .dat .dat (rIxT c.K.fr) (fun (t : Tp α) (i : Int) => getL t.xs i) := fun σ F H a b x y Q e r1 r2 w => by
  obtain ⟨p, vs, rfl, hp, hv⟩ := repT_inv (show Rep c.K F x (.tup (a.xs.map enc)) from r1)
  have e2 := repI_inv (show Rep c.K F y (.int b) from r2)
  obtain ⟨z, h, w⟩ := wp_getL w
  obtain ⟨v, h1, h2⟩ := atI_reps hv h
  exact ⟨p, vs, b, v, rfl, e2, SqT.of (e _ _ hp), h1, w v F H (.refl e) h2⟩
theorem o_ixScr : Op2 c .dat .dat .dat (rIxL c.K.fr) (fun (t : Scr) (i : Int) => getL t.xs i) := fun σ F H a b x y Q e r1 r2 w => by
  have r1' : Rep c.K F x (.scr a.xs) := r1
  cases r1' with
  | scr hp =>
    have e2 := repI_inv (show Rep c.K F y (.int b) from r2)
    obtain ⟨z, h, w⟩ := wp_getL w
    exact ⟨_, _, b, .int z, rfl, e2, Evl.ex_l e hp, by rw [atI_map, h]; rfl, w _ F H (.refl e) .int⟩
def getT (t : Txt) (i : Int) : M Txt := chk (decide (t.cs.length < LIM)) (match atI t.cs i with | some x => .ok ⟨[x]⟩ | none => .error .stuck)
theorem o_ixS : Op2 c .dat .dat .dat rIxS (fun (t : Txt) (i : Int) => getT t i) := fun σ F H a b x y Q e r1 r2 w => by
  have e1 := repS_inv (show Rep c.K F x (.str a.cs) from r1)
  have e2 := repI_inv (show Rep c.K F y (.int b) from r2)
  obtain ⟨w1, w2⟩ := wp_chk w
  have w1 := of_decide_eq_true w1
  cases h : atI a.cs b with
  | none =>
    rw [h] at w2
    exact w2.elim
  | some z =>
    rw [h] at w2
    refine ⟨_, b, z, e1, e2, ?_, ?_, w2 _ F H (.refl e) (Rep.strOf rfl)⟩
    · show a.cs.toArray.size ≤ sizeLine
      rw [List.size_toArray]
      exact Nat.le_of_lt (lim_line w1)
    · show atI a.cs.toArray.toList b = some z
      exact h
/-- p[0], p[1] of a pair -/
theorem e_fst {m : M (α × β)} (h : EvP c .dat ta env m) : EvP c .dat (tOp (rIxT c.K.fr) ta (tC (.int 0))) env (m.bind fun p => .ok p.1) := fun σ F H Q R w => by
  refine h σ F H _ R ((wp_bind.mp w).imp (fun a w1 x F1 H1 g1 r1 => ?_) fun _ _ x => x)
  obtain ⟨p, vs, rfl, hp, hv⟩ := repT_inv (show Rep c.K F1 x (.tup [enc a.1, enc a.2]) from r1)
  obtain ⟨v, h1, h2⟩ := hv.getD (i := 0) (d := enc a.1) rfl
  exact ⟨p, vs, 0, v, rfl, rfl, SqT.of (g1.fh _ _ hp), atI_nat (j := 0) h1, w1 v F1 H1 g1 h2⟩
theorem e_snd {m : M (α × β)} (h : EvP c .dat ta env m) : EvP c .dat (tOp (rIxT c.K.fr) ta (tC (.int 1))) env (m.bind fun p => .ok p.2) := fun σ F H Q R w => by
  refine h σ F H _ R ((wp_bind.mp w).imp (fun a w1 x F1 H1 g1 r1 => ?_) fun _ _ x => x)
  obtain ⟨p, vs, rfl, hp, hv⟩ := repT_inv (show Rep c.K F1 x (.tup [enc a.1, enc a.2]) from r1)
  obtain ⟨v, h1, h2⟩ := hv.getD (i := 1) (d := enc a.2) rfl
  exact ⟨p, vs, 1, v, rfl, rfl, SqT.of (g1.fh _ _ hp), atI_nat (j := 1) h1, w1 v F1 H1 g1 h2⟩
/-! ### slices, +, len, list(..), tuple(..) -/
theorem map_cut {α : Type} {β : Type} (f : α → β) (xs : List α) (a b : Nat) : ((xs.drop a).take b).map f = ((xs.map f).drop a).take b := by simp
def cutL {α : Type} (xs : List α) (lo hi : Option Int) : List α := (xs.drop (HT.sIx xs.length 0 lo)).take (HT.sIx xs.length xs.length hi - HT.sIx xs.length 0 lo)
/-- a slice's part -/
def EvO (c : Cc) (to : TO) (env : Cells) (m : M (Option Int)) : Prop :=
  ∀ σ F H Q, RS c env σ F H → WP m (fun o => ∀ F' H', Grow F H F' H' → Q o H') (XP c σ F H) → to σ H Q
theorem po_no : EvO c tNoPart env (.ok none) := fun σ F H Q R w => w F H (.refl R.exF)
theorem po_so {m : M Int} (h : EvP c .dat te env m) : EvO c (tPart te) env (m.bind fun i => .ok (some i)) := fun σ F H Q R w => by
  refine h σ F H _ R ((wp_bind.mp w).imp (fun a w1 x F1 H1 g1 r1 => ?_) fun _ _ x => x)
  exact ⟨a, repI_inv r1, w1 F1 H1 g1⟩
theorem e_slL {tl th : TO} {m : M (List α)} {ml mh : M (Option Int)} (h : EvP c .see te env m) (hl : EvO c tl env ml) (hh : EvO c th env mh) :
    EvP c .new (tSl (rSlL c.K.fr) te tl th) env (m.bind fun xs => ml.bind fun l => mh.bind fun u => .ok (cutL xs l u)) := fun σ F H Q R w => by
  refine h σ F H _ R ((wp_bind.mp w).imp (fun xs w1 x F1 H1 g1 r1 => ?_) fun _ _ x => x)
  refine hl σ F1 H1 _ (R.g g1) ((wp_bind.mp w1).imp (fun l w2 F2 H2 g2 => ?_) fun _ _ x => x.grow g1)
  refine hh σ F2 H2 _ (R.g (g1.trans g2)) ((wp_bind.mp w2).imp (fun u w3 F3 H3 g3 => ?_) fun _ _ x => x.grow (g1.trans g2))
  obtain ⟨p, o, rfl, hp, hr⟩ := r1.grow (g2.trans g3)
  obtain ⟨vs, rfl, hv⟩ := rootL_inv hr
  have e := hv.length
  rw [List.length_map] at e
  refine ⟨p, vs, rfl, SqL.of hp, fun q hq => ?_⟩
  refine w3 _ F3 _ (((g1.trans g2).trans g3).trans (.made g3.fh hq)) ⟨q, _, rfl, ex_none ((g1.h.trans g2.h).trans g3.h) hq, upd_same, ex_none g3.fh hq, ?_⟩
  show Root c.K F3 _ _ (.lst ((cutL xs l u).map enc))
  unfold cutL cutV
  rw [map_cut, e]
  exact .lst ((hv.drop _).take _)
theorem o_cat : Op2 c .see .see .new rCat (fun (a b : List α) => chk (decide (a.length + b.length < LIM)) (.ok (a ++ b))) := fun σ F H a b x y Q e r1 r2 w => by
  obtain ⟨p, o, rfl, hp, hr⟩ := r1
  obtain ⟨vs, rfl, hv⟩ := rootL_inv hr
  obtain ⟨q, o2, rfl, hq, hr2⟩ := r2
  obtain ⟨us, rfl, hu⟩ := rootL_inv hr2
  obtain ⟨w1, w2⟩ := wp_chk w
  have w1 := of_decide_eq_true w1
  have e1 := hv.length
  have e2 := hu.length
  rw [List.length_map] at e1 e2
  refine ⟨p, q, vs, us, rfl, rfl, hp, hq, by rw [e1, e2]; exact Nat.le_of_lt (lim_line w1), fun l hl => ?_⟩
  refine w2 _ F _ (.made e hl) ⟨l, _, rfl, hl, upd_same, ex_none e hl, ?_⟩
  show Root c.K F _ _ (.lst ((a ++ b).map enc))
  rw [List.map_append]
  exact .lst (hv.append hu)
theorem o_len {K : PySem.W.Frag} (hK : c.K.fr = K) : Op1 c .see .dat (fun x => rLenL K [x]) (fun (xs : List α) => .ok (xs.length : Int)) := fun σ F H a x Q e r1 w => by
  obtain ⟨p, o, rfl, hp, hr⟩ := r1
  obtain ⟨vs, rfl, hv⟩ := rootL_inv hr
  have e1 := hv.length
  rw [List.length_map] at e1
  refine ⟨p, vs, rfl, .inl (SqL.of hp), ?_⟩
  rw [e1]
  exact w _ F H (.refl e) .int
theorem o_lenT {K : PySem.W.Frag} (hK : c.K.fr = K) : Op1 c .dat .dat (fun x => rLenL K [x]) (fun (t : Tp α) => .ok (t.xs.length : Int)) := fun σ F H a x Q e r1 w => by
  obtain ⟨p, vs, rfl, hp, hv⟩ := repT_inv (show Rep c.K F x (.tup (a.xs.map enc)) from r1)
  have e1 := hv.length
  rw [List.length_map] at e1
  refine ⟨p, vs, rfl, .inr (SqT.of (e _ _ hp)), ?_⟩
  rw [e1]
  exact w _ F H (.refl e) .int
theorem o_lenScr {K : PySem.W.Frag} (hK : c.K.fr = K) : Op1 c .dat .dat (fun x => rLenL K [x]) (fun (t : Scr) => .ok (t.xs.length : Int)) := fun σ F H a x Q e r1 w => by
  have r1' : Rep c.K F x (.scr a.xs) := r1
  cases r1' with
  | scr hp =>
    refine ⟨_, _, rfl, .inl (by rw [← hK]; exact Evl.ex_l e hp), ?_⟩
    rw [List.length_map]
    exact w _ F H (.refl e) .int
theorem o_lenS : Op1 c .dat .dat (fun x => rLenS [x]) (fun (t : Txt) => chk (decide (t.cs.length < LIM)) (.ok (t.cs.length : Int))) := fun σ F H a x Q e r1 w => by
  have e1 := repS_inv (show Rep c.K F x (.str a.cs) from r1)
  obtain ⟨w1, w2⟩ := wp_chk w
  have w1 := of_decide_eq_true w1
  have el : (⟨a.cs.toArray⟩ : Str).length = a.cs.length := List.size_toArray
  refine ⟨_, by rw [e1], ?_, ?_⟩
  · rw [el]
    exact Nat.le_of_lt (lim_line w1)
  · rw [el]
    exact w2 _ F H (.refl e) .int
theorem o_int : Op1 c .dat .dat (fun x => rInt1 [x]) (fun (i : Int) => .ok i) := fun σ F H a x Q e r1 w => by
  have e1 := repI_inv (show Rep c.K F x (.int a) from r1)
  exact .inl ⟨a, by rw [e1], w _ F H (.refl e) .int⟩
theorem o_intB : Op1 c .dat .dat (fun x => rInt1 [x]) (fun (b : Bool) => .ok (if b then (1 : Int) else 0)) := fun σ F H a x Q e r1 w => by
  have e1 := repB_inv (show Rep c.K F x (.bl a) from r1)
  exact .inr ⟨a, by rw [e1], w _ F H (.refl e) .int⟩
theorem o_list {K : PySem.W.Frag} : Op1 c .see .new (fun x => rListL K [x]) (fun (xs : List α) => .ok xs) := fun σ F H a x Q e r1 w => by
  obtain ⟨p, o, rfl, hp, hr⟩ := r1
  obtain ⟨vs, rfl, hv⟩ := rootL_inv hr
  exact ⟨p, vs, rfl, .inl (SqL.of hp), fun l hl => w _ F _ (.made e hl) ⟨l, _, rfl, hl, upd_same, ex_none e hl, .lst hv⟩⟩
theorem o_listT {K : PySem.W.Frag} : Op1 c .dat .new (fun x => rListL K [x]) (fun (t : Tp α) => .ok t.xs) := fun σ F H a x Q e r1 w => by
  obtain ⟨p, vs, rfl, hp, hv⟩ := repT_inv (show Rep c.K F x (.tup (a.xs.map enc)) from r1)
  exact ⟨p, vs, rfl, .inr (SqT.of (e _ _ hp)), fun l hl => w _ F _ (.made e hl) ⟨l, _, rfl, hl, upd_same, ex_none e hl, .lst hv⟩⟩
theorem o_tuple {K : PySem.W.Frag} : Op1 c .see .dat (fun x => rTupL K [x]) (fun (xs : List α) => .ok (Tp.mk xs)) := fun σ F H a x Q e r1 w => by
  obtain ⟨p, o, rfl, hp, hr⟩ := r1
  obtain ⟨vs, rfl, hv⟩ := rootL_inv hr
  refine ⟨p, vs, rfl, .inl ⟨SqL.of hp, fun l hl => w _ _ _ (.laid e hl) ?_⟩⟩
  exact .tup upd_same (Reps.mono (Ex.new (ex_none e hl)) hv)
/-- min(i, j), max(i, j) -/
theorem o_min2 : Op2 c .dat .dat .dat (fun x y => rMin2 [x, y]) (fun (a b : Int) => .ok (if b < a then b else a)) := fun σ F H a b x y Q e r1 r2 w => by
  have e1 := repI_inv (show Rep c.K F x (.int a) from r1)
  have e2 := repI_inv (show Rep c.K F y (.int b) from r2)
  exact ⟨a, b, by rw [e1, e2], w _ F H (.refl e) .int⟩
theorem o_max2 : Op2 c .dat .dat .dat (fun x y => rMax2 [x, y]) (fun (a b : Int) => .ok (if b > a then b else a)) := fun σ F H a b x y Q e r1 r2 w => by
  have e1 := repI_inv (show Rep c.K F x (.int a) from r1)
  have e2 := repI_inv (show Rep c.K F y (.int b) from r2)
  exact ⟨a, b, by rw [e1, e2], w _ F H (.refl e) .int⟩
/-! ### in, not in: flat items -/
class Flat (α : Type) [Enc α] where
  dec : DecidableEq α
  val : α → V
  rep : ∀ {K : Kx} {F : Hp} {v : V} {a : α}, Rep K F v (enc a) → v = val a
  flat : ∀ a : α, flatV (val a) = true
  eqv : ∀ a b : α, eqV (val a) (val b) = @decide (a = b) (dec a b)
instance : Flat Int where
  dec := inferInstance
  val := V.int
  rep := fun h => repI_inv h
  flat := fun _ => rfl
  eqv := fun a b => rfl
instance : Flat Txt where
  dec := inferInstance
  val := fun t => V.str ⟨t.cs.toArray⟩
  rep := fun h => repS_inv h
  flat := fun _ => rfl
  eqv := fun a b => by
    show ((⟨a.cs.toArray⟩ : Str) == ⟨b.cs.toArray⟩) = decide (a = b)
    by_cases h : a = b
    · subst h
      simp
    · rw [decide_eq_false h]
      refine beq_eq_false_iff_ne.mpr fun z => h ?_
      injection z with z
      have := congrArg Array.toList z
      simp at this
      cases a
      cases b
      simp_all
@[reducible] def memB {α : Type} [Enc α] [f : Flat α] (a : α) (xs : List α) : Bool := xs.any fun y => @decide (y = a) (f.dec y a)
theorem reps_flat [f : Flat α] {K : Kx} {F : Hp} : ∀ {vs : List V} {xs : List α}, Reps K F vs (xs.map enc) → vs = xs.map f.val
  | _, [], .nil => rfl
  | _, x :: xs, .cons h r => by
    rw [f.rep h, reps_flat r]
    rfl
theorem inV_flat [f : Flat α] (a : α) (xs : List α) : inV (f.val a) (xs.map f.val) = memB a xs := by
  unfold inV memB
  rw [List.any_map]
  congr 1
  funext y
  exact f.eqv y a
theorem all_flat [f : Flat α] (xs : List α) : (xs.map f.val).all flatV = true := by
  rw [List.all_map]
  exact List.all_eq_true.mpr fun x _ => f.flat x
theorem o_in [f : Flat α] : Op2 c .dat .see .dat (rIn c.K.fr false) (fun (a : α) (xs : List α) => .ok (memB a xs)) := fun σ F H a b x y Q e r1 r2 w => by
  obtain ⟨p, o, rfl, hp, hr⟩ := r2
  obtain ⟨vs, rfl, hv⟩ := rootL_inv hr
  have e1 := f.rep (show Rep c.K F x (enc a) from r1)
  have e2 := reps_flat hv
  subst e1 e2
  refine ⟨p, _, rfl, .inl (SqL.of hp), f.flat a, all_flat b, ?_⟩
  rw [inV_flat]
  exact w _ F H (.refl e) .bl
theorem o_notIn [f : Flat α] : Op2 c .dat .see .dat (rIn c.K.fr true) (fun (a : α) (xs : List α) => .ok (!memB a xs)) := fun σ F H a b x y Q e r1 r2 w => by
  obtain ⟨p, o, rfl, hp, hr⟩ := r2
  obtain ⟨vs, rfl, hv⟩ := rootL_inv hr
  have e1 := f.rep (show Rep c.K F x (enc a) from r1)
  have e2 := reps_flat hv
  subst e1 e2
  refine ⟨p, _, rfl, .inl (SqL.of hp), f.flat a, all_flat b, ?_⟩
  rw [inV_flat]
  exact w _ F H (.refl e) .bl
end
end HW

set_option Elab.async false
set_option linter.all false
set_option maxRecDepth 100000
set_option autoImplicit false
namespace HW
open PySem L2
open Evl (Ex)

/-! ### a list's length is bounded wherever it stands -/
def tBd (K : PySem.W.Frag) (tl : TE) : TE := fun σ H Q => tl σ H fun x H1 => (∀ a xs, x = .ref a → SqL K H1 a xs ∨ SqT K H1 a xs → xs.length ≤ sizeLine) → Q x H1
theorem pe_bd {X : Cx} {e : Expr} {te : TE} (h : PE X e te) : PE X e (tBd X.K te) := ⟨fun pins s σ H Q I w => thn (h.run pins s σ H _ I w) fun u s' ⟨v, H', I', r, q⟩ =>
  ⟨v, H', I', r, q fun a xs _ z => by
    rcases z with z | z
    · obtain ⟨_, _, _, h⟩ := I'.list z
      exact h
    · obtain ⟨_, _, _, h⟩ := I'.tuple z
      exact h⟩⟩

/-! ### what is walked -/
def ItIs (c : Cc) (F : Hp) (J : It) (ds : List D) : Prop := ∃ G Y, Walk J ds.length G Y ∧ (∀ H, Ex F H → G H) ∧
  ∀ i d H0 x H1, ds[i]? = some d → Y i H0 x H1 → ∀ F0, Ex F F0 → Ex F0 H0 → ∃ F1, Grow F0 H0 F1 H1 ∧ Rep c.K F1 x d
def EvIt (c : Cc) (wi : TI) (env : Cells) {α : Type} [Enc α] (m : M (List α)) : Prop :=
  ∀ σ F H R, RS c env σ F H → WP m (fun xs => ∀ J F' H', Grow F H F' H' → xs.length ≤ sizeLine → ItIs c F' J (xs.map enc) → R J H') (XP c σ F H) → wi σ H R
theorem itis_list {c : Cc} {F : Hp} {a : Addr} {xs : List V} {ds : List D} {K : PySem.W.Frag} (h : F a = some (.lst xs)) (r : Reps c.K F xs ds) : ItIs c F (Itl K a) ds := by
  refine ⟨fun H => SqL K H a xs, YAt xs, ?_, fun H e => SqL.of (e _ _ h), fun i d H0 x H1 hd y F0 e e0 => ?_⟩
  · rw [← r.length]
    exact walk_list
  · obtain ⟨rfl, hx⟩ := y
    obtain ⟨d', h1, h2⟩ := r.get hx
    rw [hd] at h1
    cases h1
    exact ⟨F0, .refl e0, Rep.mono e h2⟩
theorem itis_tup {c : Cc} {F : Hp} {a : Addr} {xs : List V} {ds : List D} {K : PySem.W.Frag} (h : F a = some (.tup xs)) (r : Reps c.K F xs ds) : ItIs c F (Itt K a) ds := by
  refine ⟨fun H => SqT K H a xs, YAt xs, ?_, fun H e => SqT.of (e _ _ h), fun i d H0 x H1 hd y F0 e e0 => ?_⟩
  · rw [← r.length]
    exact walk_tup
  · obtain ⟨rfl, hx⟩ := y
    obtain ⟨d', h1, h2⟩ := r.get hx
    rw [hd] at h1
    cases h1
    exact ⟨F0, .refl e0, Rep.mono e h2⟩
def rng (lo hi : Int) : List Int := (List.range (hi - lo).toNat).map fun i : Nat => lo + (i : Int)
theorem itis_rng {c : Cc} {F : Hp} {lo hi : Int} : ItIs c F (Itr lo (hi - lo).toNat) ((rng lo hi).map enc) := by
  refine ⟨fun _ => True, YFn fun i => .int (lo + i), ?_, fun H e => trivial, fun i d H0 x H1 hd y F0 e e0 => ?_⟩
  · have : ((rng lo hi).map enc).length = (hi - lo).toNat := by simp [rng]
    rw [this]
    exact walk_range
  · obtain ⟨rfl, rfl⟩ := y
    have hl : i < (rng lo hi).length := by
      have := (List.getElem?_eq_some_iff.mp hd).1
      simpa using this
    have hq : (rng lo hi)[i]? = some (lo + (i : Int)) := by
      rw [List.getElem?_eq_getElem hl]
      simp [rng]
    rw [List.getElem?_map, hq] at hd
    cases hd
    exact ⟨F0, .refl e0, .int⟩
section
variable {c : Cc} {env : Cells} {te ta tb : TE} {α β γ : Type} [Enc α] [Enc β] [Enc γ]
theorem it_list {K : PySem.W.Frag} {m : M (List α)} (h : EvP c .dat te env m) : EvIt c (iList K (tBd K te)) env m := fun σ F H R S w => h σ F H _ S (w.imp (fun xs q v F' H' g r hb => by
  obtain ⟨a, vs, rfl, h1, h2⟩ := repL_inv (show Rep c.K F' v (.lst (xs.map enc)) from r)
  have hl := hb a vs rfl (.inl (SqL.of (g.fh _ _ h1)))
  have e := h2.length
  rw [List.length_map] at e
  exact ⟨a, rfl, ⟨vs, SqL.of (g.fh _ _ h1)⟩, q _ F' H' g (by rw [← e]; exact hl) (itis_list h1 h2)⟩) fun _ _ x => x)
theorem it_tup {K : PySem.W.Frag} {m : M (Tp α)} (h : EvP c .dat te env m) : EvIt c (iTup K (tBd K te)) env (m.bind fun t => .ok t.xs) := fun σ F H R S w => h σ F H _ S ((wp_bind.mp w).imp (fun t q v F' H' g r hb => by
  obtain ⟨a, vs, rfl, h1, h2⟩ := repT_inv (show Rep c.K F' v (.tup (t.xs.map enc)) from r)
  have hl := hb a vs rfl (.inr (SqT.of (g.fh _ _ h1)))
  have e := h2.length
  rw [List.length_map] at e
  exact ⟨a, rfl, ⟨vs, SqT.of (g.fh _ _ h1)⟩, q _ F' H' g (by rw [← e]; exact hl) (itis_tup h1 h2)⟩) fun _ _ x => x)
def rngB (lo hi : Int) : Bool := decide (-4000000 < lo ∧ lo < 4000000 ∧ -4000000 < hi ∧ hi < 4000000)
theorem rng_len (lo hi : Int) : (rng lo hi).length = (hi - lo).toNat := by simp [rng]
theorem it_rng1 {m : M Int} (h : EvP c .dat te env m) : EvIt c (iRng1 (tCons te tNil)) env (m.bind fun n => chk (rngB 0 n) (.ok (rng 0 n))) := fun σ F H R S w => h σ F H _ S ((wp_bind.mp w).imp (fun n q v F' H' g r => by
  have e1 := repI_inv (show Rep c.K F' v (.int n) from r)
  obtain ⟨w1, w2⟩ := wp_chk q
  have w1 := of_decide_eq_true w1
  refine ⟨n, by rw [e1], by omega, by omega, ?_⟩
  have e2 : (n - 0).toNat = n.toNat := by omega
  have z : ItIs c F' (Itr 0 (n - 0).toNat) ((rng 0 n).map enc) := itis_rng
  rw [e2] at z
  refine w2 _ F' H' g ?_ z
  rw [rng_len]
  exact lim_le (by show _ ≤ 4000000; omega)) fun _ _ x => x)
theorem it_rng2 {ma mb : M Int} (ha : EvP c .dat ta env ma) (hb : EvP c .dat tb env mb) : EvIt c (iRng2 (tCons ta (tCons tb tNil))) env (ma.bind fun a => mb.bind fun b => chk (rngB a b) (.ok (rng a b))) := fun σ F H R S w => by
  refine ha σ F H _ S ((wp_bind.mp w).imp (fun a w1 x F1 H1 g1 r1 => ?_) fun _ _ x => x)
  refine hb σ F1 H1 _ (S.g g1) ((wp_bind.mp w1).imp (fun b q y F2 H2 g2 r2 => ?_) fun _ _ x => x.grow g1)
  have e1 := repI_inv (show Rep c.K F1 x (.int a) from r1)
  have e2 := repI_inv (show Rep c.K F2 y (.int b) from r2)
  obtain ⟨w1, w2⟩ := wp_chk q
  have w1 := of_decide_eq_true w1
  refine ⟨a, b, by rw [e1, e2], ⟨by omega, by omega, by omega, by omega⟩, ?_⟩
  refine w2 _ F2 H2 (g1.trans g2) ?_ itis_rng
  rw [rng_len]
  have : (b - a).toNat ≤ 8000000 := by omega
  exact Nat.le_trans this (by decide)
def signs (t : Txt) : List Txt := t.cs.map fun ch => Txt.mk [ch]
theorem it_str {m : M Txt} (h : EvP c .dat te env m) : EvIt c (iStr te) env (m.bind fun t => chk (decide (t.cs.length < LIM)) (.ok (signs t))) := fun σ F H R S w => h σ F H _ S ((wp_bind.mp w).imp (fun t q v F' H' g r => by
  have e1 := repS_inv (show Rep c.K F' v (.str t.cs) from r)
  obtain ⟨w1, w2⟩ := wp_chk q
  have w1 := of_decide_eq_true w1
  refine ⟨_, e1, w2 _ F' H' g (by unfold signs; rw [List.length_map]; exact Nat.le_of_lt (lim_line w1)) ⟨fun _ => True, fun i H v H' => H' = H ∧ ∃ ch, (⟨t.cs.toArray⟩ : Str).cps[i]? = some ch ∧ v = .str ⟨#[ch]⟩, ?_, fun _ _ => trivial, fun i d H0 x H1 hd y F0 e e0 => ?_⟩⟩
  · have z : ((signs t).map enc).length = (⟨t.cs.toArray⟩ : Str).cps.size := by simp [signs]
    rw [z]
    exact walk_str
  · obtain ⟨rfl, ch, hc, rfl⟩ := y
    refine ⟨F0, .refl e0, ?_⟩
    have hc' : t.cs[i]? = some ch := by simpa using hc
    have hd' : ((signs t).map enc)[i]? = some (D.str [ch]) := by
      rw [List.getElem?_map]
      unfold signs
      rw [List.getElem?_map, hc']
      rfl
    rw [hd'] at hd
    cases hd
    exact Rep.strOf rfl) fun _ _ x => x)
def enumL {α : Type} (xs : List α) : List (Int × α) := xs.mapIdx fun i x => ((i : Int), x)
theorem itis_pair {F : Hp} {J : It} {G : Hp → Prop} {us ws : Nat → Option V} {ds : List D} (wk : Walk J ds.length G (YPair us ws)) (hG : ∀ H, Ex F H → G H)
    (h : ∀ i d u w, ds[i]? = some d → us i = some u → ws i = some w → ∃ d1 d2, d = .tup [d1, d2] ∧ Rep c.K F u d1 ∧ Rep c.K F w d2) : ItIs c F J ds := by
  refine ⟨G, _, wk, hG, fun i d H0 x H1 hd y F0 e e0 => ?_⟩
  obtain ⟨T, u, w, rfl, hT, rfl, hu, hw⟩ := y
  obtain ⟨d1, d2, rfl, r1, r2⟩ := h i d u w hd hu hw
  refine ⟨_, .laid e0 hT, ?_⟩
  have ee : Ex F (upd F0 T (.tup [u, w])) := e.trans (Ex.new (ex_none e0 hT))
  exact .tup upd_same (.cons (Rep.mono ee r1) (.cons (Rep.mono ee r2) .nil))
theorem it_enum {K : PySem.W.Frag} {m : M (List α)} (h : EvP c .dat te env m) : EvIt c (iEnum K (tCons (tBd K te) tNil)) env (m.bind fun xs => .ok (enumL xs)) := fun σ F H R S w => h σ F H _ S ((wp_bind.mp w).imp (fun xs q v F' H' g r hb => by
  obtain ⟨a, vs, rfl, h1, h2⟩ := repL_inv (show Rep c.K F' v (.lst (xs.map enc)) from r)
  have hl := hb a vs rfl (.inl (SqL.of (g.fh _ _ h1)))
  have e := h2.length
  rw [List.length_map] at e
  refine ⟨a, vs, rfl, SqL.of (g.fh _ _ h1), q _ F' H' g (by unfold enumL; rw [List.length_mapIdx, ← e]; exact hl) ?_⟩
  have wk : Walk (Ite K a) ((enumL xs).map enc).length (fun H => SqL K H a vs) (YPair (fun i => some (.int (i : Nat))) (fun i => vs[i]?)) := by
    have z : ((enumL xs).map enc).length = vs.length := by simp [enumL, e]
    rw [z]
    exact walk_enum
  refine itis_pair wk (fun H e => SqL.of (e _ _ h1)) fun i d u w hd hu hw => ?_
  cases hu
  have hi : i < xs.length := by
    have := (List.getElem?_eq_some_iff.mp hd).1
    simpa [enumL] using this
  have hx : xs[i]? = some xs[i] := List.getElem?_eq_getElem hi
  have hd' : ((enumL xs).map enc)[i]? = some (D.tup [.int (i : Int), enc xs[i]]) := by
    rw [List.getElem?_map]
    unfold enumL
    rw [List.getElem?_mapIdx, hx]
    rfl
  rw [hd'] at hd
  cases hd
  obtain ⟨d', g1, g2⟩ := h2.get hw
  rw [List.getElem?_map, hx] at g1
  cases g1
  exact ⟨_, _, rfl, .int, g2⟩) fun _ _ x => x)
theorem it_zip {K : PySem.W.Frag} {ma : M (List α)} {mb : M (List β)} (ha : EvP c .dat ta env ma) (hb : EvP c .dat tb env mb) :
    EvIt c (iZip K (tCons (tBd K ta) (tCons tb tNil))) env (ma.bind fun xs => mb.bind fun ys => .ok (xs.zip ys)) := fun σ F H R S w => by
  refine ha σ F H _ S ((wp_bind.mp w).imp (fun xs w1 x F1 H1 g1 r1 hbd => ?_) fun _ _ x => x)
  refine hb σ F1 H1 _ (S.g g1) ((wp_bind.mp w1).imp (fun ys q y F2 H2 g2 r2 => ?_) fun _ _ x => x.grow g1)
  obtain ⟨a, vs, rfl, h1, h2⟩ := repL_inv (show Rep c.K F1 x (.lst (xs.map enc)) from r1)
  obtain ⟨b, us, rfl, h3, h4⟩ := repL_inv (show Rep c.K F2 y (.lst (ys.map enc)) from r2)
  have hl := hbd a vs rfl (.inl (SqL.of (g1.fh _ _ h1)))
  have e := h2.length
  have e' := h4.length
  rw [List.length_map] at e e'
  have h1' := g2.f _ _ h1
  refine ⟨a, b, vs, us, rfl, SqL.of (g2.fh _ _ h1'), SqL.of (g2.fh _ _ h3), q _ F2 H2 (g1.trans g2) (by rw [List.length_zip]; omega) ?_⟩
  have wk : Walk (Itz K a b) ((xs.zip ys).map enc).length (fun H => SqL K H a vs ∧ SqL K H b us) (YPair (fun i => vs[i]?) (fun i => us[i]?)) := walk_zip (by simp [e, e'])
  refine itis_pair wk (fun H e => ⟨SqL.of (e _ _ h1'), SqL.of (e _ _ h3)⟩) fun i d u w hd hu hw => ?_
  have h2' := Reps.mono g2.f h2
  obtain ⟨d1, p1, p2⟩ := h2'.get hu
  obtain ⟨d2, p3, p4⟩ := h4.get hw
  rw [List.getElem?_map] at p1 p3 hd
  cases hx : xs[i]? with
  | none => rw [hx] at p1; cases p1
  | some x =>
    cases hy : ys[i]? with
    | none => rw [hy] at p3; cases p3
    | some y =>
      rw [hx] at p1
      rw [hy] at p3
      cases p1
      cases p3
      have hz : (xs.zip ys)[i]? = some (x, y) := List.getElem?_zip_eq_some.mpr ⟨hx, hy⟩
      rw [hz] at hd
      cases hd
      exact ⟨_, _, rfl, p2, p4⟩
end

/-! ### targets -/
theorem wipe_get (σ : L2.St) : ∀ (vs : List Nat) (i : Nat), (wipe σ vs)[i]? = if i ∈ vs ∧ i < σ.length then some none else σ[i]?
  | [], i => by simp [wipe]
  | v :: vs, i => by
    show ((wipe σ vs).set v none)[i]? = _
    by_cases h : v = i
    · subst h
      by_cases hl : v < σ.length
      · rw [List.getElem?_set_self (by rw [wipe_length]; exact hl)]
        simp [hl]
      · have : σ.length ≤ v := by omega
        rw [List.getElem?_eq_none (by rw [List.length_set, wipe_length]; exact this), if_neg (by omega), List.getElem?_eq_none this]
    · rw [List.getElem?_set_ne h, wipe_get σ vs i]
      have : (i ∈ v :: vs) ↔ i ∈ vs := by
        simp [Ne.symm h]
      simp [this]
theorem wipe_set {σ : L2.St} {vs : List Nat} {i : Nat} {x : Option V} (h : i ∈ vs) : wipe (σ.set i x) vs = wipe σ vs := by
  apply List.ext_getElem?
  intro j
  rw [wipe_get, wipe_get, List.length_set]
  by_cases hj : i = j
  · subst hj
    by_cases hl : i < σ.length
    · simp [h, hl]
    · rw [if_neg (by omega), if_neg (by omega)]
      rw [List.getElem?_eq_none (by rw [List.length_set]; omega), List.getElem?_eq_none (by omega)]
  · rw [List.getElem?_set_ne hj]
theorem wipe_wipe (σ : L2.St) (vs : List Nat) : wipe (wipe σ vs) vs = wipe σ vs := by
  apply List.ext_getElem?
  intro j
  rw [wipe_get, wipe_get, wipe_length]
  split
  · rfl
  · rfl
def wipeE (env : Cells) : List Nat → Cells
  | [] => env
  | v :: vs => (wipeE env vs).set v none
theorem RS.wiped {c : Cc} {env : Cells} {σ : L2.St} {F H : Hp} (R : RS c env σ F H) : ∀ vs : List Nat, RS c (wipeE env vs) (wipe σ vs) F H
  | [] => R
  | v :: vs => (RS.wiped R vs).drop
/-- a target: it stores data into slots of vs -/
def TgIs (c : Cc) (g : TG) (vs : List Nat) {α : Type} [Enc α] (f : α → Cells → Cells) : Prop :=
  ∀ (x : α) v env σ F H Q, RS c env σ F H → Rep c.K F v (enc x) → (∀ σ', RS c (f x env) σ' F H → wipe σ' vs = wipe σ vs → Q σ' H) → g v σ H Q
section
variable {c : Cc} {α β γ : Type} [Enc α] [Enc β] [Enc γ] {vs : List Nat} {i j k : Nat}
theorem tg_name (h : i ∈ vs) : TgIs c (gName i) vs (fun (x : α) env => env.set i (some (.dat (enc x)))) := fun x v env σ F H Q R r q => q _ (R.setD r) (wipe_set h)
theorem tg_2 (hi : i ∈ vs) (hj : j ∈ vs) : TgIs c (gTup c.K.fr 2 (gCons (gName i) (gCons (gName j) gNil))) vs (fun (p : α × β) env => (env.set i (some (.dat (enc p.1)))).set j (some (.dat (enc p.2)))) := fun x v env σ F H Q R r q => by
  obtain ⟨a, xs, rfl, h1, h2⟩ := repT_inv (show Rep c.K F v (.tup [enc x.1, enc x.2]) from r)
  cases h2 with
  | cons r1 h2 =>
    cases h2 with
    | cons r2 h2 =>
      cases h2
      exact ⟨a, _, rfl, SqT.of (R.exF _ _ h1), rfl, _, _, rfl, _, _, rfl, rfl, q _ ((R.setD r1).setD r2) (by rw [wipe_set hj, wipe_set hi])⟩
theorem tg_3 (hi : i ∈ vs) (hj : j ∈ vs) (hk : k ∈ vs) : TgIs c (gTup c.K.fr 3 (gCons (gName i) (gCons (gName j) (gCons (gName k) gNil)))) vs (fun (p : T3 α β γ) env => ((env.set i (some (.dat (enc p.a)))).set j (some (.dat (enc p.b)))).set k (some (.dat (enc p.c)))) := fun x v env σ F H Q R r q => by
  obtain ⟨a, xs, rfl, h1, h2⟩ := repT_inv (show Rep c.K F v (.tup [enc x.a, enc x.b, enc x.c]) from r)
  cases h2 with
  | cons r1 h2 =>
    cases h2 with
    | cons r2 h2 =>
      cases h2 with
      | cons r3 h2 =>
        cases h2
        exact ⟨a, _, rfl, SqT.of (R.exF _ _ h1), rfl, _, _, rfl, _, _, rfl, _, _, rfl, rfl, q _ (((R.setD r1).setD r2).setD r3) (by rw [wipe_set hk, wipe_set hj, wipe_set hi])⟩
end

/-! ### list comprehensions -/
def lcF {α β : Type} (p : α → M Bool) (f : α → M β) : List α → M (List β)
  | [] => .ok []
  | x :: xs => (noX (p x)).bind fun b => if b = true then (noX (f x)).bind fun y => (lcF p f xs).bind fun ys => .ok (y :: ys) else lcF p f xs
def lcM {α β : Type} (f : α → M β) : List α → M (List β)
  | [] => .ok []
  | x :: xs => (noX (f x)).bind fun y => (lcM f xs).bind fun ys => .ok (y :: ys)
/-- no exception is wished for -/
abbrev Cc.nx (c : Cc) : Cc := { c with W := fun _ _ _ _ => False }
theorem RS.nx {c : Cc} {env : Cells} {σ : L2.St} {F H : Hp} (R : RS c env σ F H) : RS c.nx env σ F H := ⟨R.len, R.exF, R.exF0, R.newF, R.exG, R.grow, R.gF, R.cell, R.dist⟩
theorem RS.ofnx {c : Cc} {env : Cells} {σ : L2.St} {F H : Hp} (R : RS c.nx env σ F H) : RS c env σ F H := ⟨R.len, R.exF, R.exF0, R.newF, R.exG, R.grow, R.gF, R.cell, R.dist⟩
theorem wp_noX {α : Type} {m : M α} {Qk : α → Prop} {Qx Qx' : String → List D → Prop} (h : WP (noX m) Qk Qx) : WP m Qk Qx' := by
  cases m with
  | ok a => exact h
  | error e => exact h.elim
theorem drop_cons {α : Type} {xs : List α} {i : Nat} (h : i < xs.length) : xs.drop i = xs[i] :: xs.drop (i + 1) := List.drop_eq_getElem_cons h
section
variable {c : Cc} {env : Cells} {te : TE} {tt : TT} {wi : TI} {g : TG} {vs : List Nat} {α β : Type} [Enc α] [Enc β]
theorem e_lcF {mxs : M (List α)} {mp : α → M Bool} {me : α → M β} {f : α → Cells → Cells} (hi : EvIt c wi env mxs) (ht : TgIs c.nx g vs f)
    (hp : ∀ x, EvT c.nx tt (f x (wipeE env vs)) (mp x)) (he : ∀ x, EvP c.nx .dat te (f x (wipeE env vs)) (me x)) : EvP c .new (tLc wi g tt te vs) env (mxs.bind fun xs => lcF mp me xs) := fun σ F H Q R w => by
  refine hi σ F H _ R ((wp_bind.mp w).imp (fun xs w1 J F1 H1 g1 hz it D hD => ?_) fun _ _ x => x)
  obtain ⟨G, Y, wk, hG, hY⟩ := it
  have e : (xs.map enc).length = xs.length := List.length_map _
  rw [e] at wk
  refine lc_it wk (fun i H' => i ≤ xs.length ∧ ∃ F' acc ys, Grow F1 H1 F' H' ∧ H' D = some (.lst acc) ∧ F' D = none ∧ acc.length ≤ i ∧ Reps c.K F' acc (ys.map enc) ∧
    WP (lcF mp me (xs.drop i)) (fun zs => ∀ v F' H', Grow F H F' H' → ResIs c .new H F' H' v (enc (ys ++ zs)) → Q v H') (XP c σ F H)) ?_ ?_ ?_ ?_
  · exact ⟨Nat.zero_le _, F1, [], [], .made g1.fh hD, upd_same, ex_none g1.fh hD, Nat.le_refl _, .nil, w1⟩
  · rintro i H' _ ⟨_, F', acc, ys, g2, _⟩
    exact hG H' (g2.f.trans g2.fh)
  · rintro i x H' H2 hlt ⟨_, F', acc, ys, g2, hacc, hFD, hle, hr, hw⟩ hy
    have hx : xs[i]? = some xs[i] := List.getElem?_eq_getElem hlt
    obtain ⟨F2, g3, r3⟩ := hY i (enc xs[i]) H' x H2 (by rw [List.getElem?_map, hx]; rfl) hy F' g2.f g2.fh
    have g23 := g2.trans g3
    have R2 : RS c.nx (wipeE env vs) (wipe σ vs) F2 H2 := ((R.g (g1.trans g23)).wiped vs).nx
    refine ht xs[i] x _ _ F2 H2 _ R2 r3 fun σ' R3 hwp => ⟨by rw [hwp, wipe_wipe], ?_⟩
    rw [drop_cons hlt] at hw
    have hw2 := wp_bind.mp hw
    refine hp xs[i] σ' F2 H2 _ R3 ((wp_noX hw2).imp (fun b hw3 F3 H3 g4 => ?_) fun _ _ z => z)
    have g234 := g23.trans g4
    have hD2 : H2 D = some (.lst acc) := g3.h _ _ hacc
    have hFD2 : F2 D = none := g3.n D hFD (by rw [hacc]; simp)
    have hD3 : H3 D = some (.lst acc) := g4.h _ _ hD2
    have hFD3 : F3 D = none := g4.n D hFD2 (by rw [hD2]; simp)
    cases b with
    | true =>
      rw [if_pos rfl]
      rw [if_pos rfl] at hw3
      refine he xs[i] σ' F3 H3 _ (R3.g g4) ((wp_noX (wp_bind.mp hw3)).imp (fun z hw4 v F4 H4 g5 r5 => ?_) fun _ _ z => z)
      have hD4 : H4 D = some (.lst acc) := g5.h _ _ hD3
      have hFD4 : F4 D = none := g5.n D hFD3 (by rw [hD3]; simp)
      have g2345 := g234.trans g5
      refine ⟨acc, hD4, by omega, by omega, F4, acc ++ [v], ys ++ [z], ⟨g2345.f, Ex.mut g2345.h hD, Ex.mut g2345.fh hFD4, g2345.n⟩, upd_same, hFD4, by simp; omega, ?_, ?_⟩
      · rw [List.map_append]
        exact (Reps.mono (g3.f.trans (g4.f.trans g5.f)) hr).append (.cons r5 .nil)
      · refine (wp_bind.mp hw4).imp (fun zs q => ?_) fun _ _ z => z
        have q' : ∀ v F' H', Grow F H F' H' → ResIs c .new H F' H' v (enc (ys ++ z :: zs)) → Q v H' := q
        rw [show ys ++ z :: zs = (ys ++ [z]) ++ zs by simp] at q'
        exact q'
    | false =>
      rw [if_neg (by decide)]
      rw [if_neg (by decide)] at hw3
      exact ⟨by omega, F3, acc, ys, g234, hD3, hFD3, by omega, Reps.mono (g3.f.trans g4.f) hr, hw3⟩
  · rintro H' ⟨_, F', acc, ys, g2, hacc, hFD, hle, hr, hw⟩
    rw [List.drop_eq_nil_of_le (Nat.le_refl _)] at hw
    have q : ∀ v F' H', Grow F H F' H' → ResIs c .new H F' H' v (enc (ys ++ [])) → Q v H' := hw
    rw [List.append_nil] at q
    exact q _ F' H' (g1.trans g2) ⟨D, _, rfl, ex_none g1.h hD, hacc, hFD, .lst hr⟩
theorem e_lc {mxs : M (List α)} {me : α → M β} {f : α → Cells → Cells} (hi : EvIt c wi env mxs) (ht : TgIs c.nx g vs f)
    (he : ∀ x, EvP c.nx .dat te (f x (wipeE env vs)) (me x)) : EvP c .new (tLc wi g tYes te vs) env (mxs.bind fun xs => lcM me xs) := by
  have z : ∀ xs : List α, lcM me xs = lcF (fun _ => .ok true) me xs := by
    intro xs
    induction xs with
    | nil => rfl
    | cons x xs ih =>
      show (noX (me x)).bind _ = (noX (me x)).bind _
      rw [ih]
  simp only [z]
  exact e_lcF hi ht (fun x σ F H Q R w => w F H (.refl R.exF)) he
end
end HW

set_option Elab.async false
set_option linter.all false
set_option maxRecDepth 100000
set_option autoImplicit false
namespace HW
open PySem L2
open Evl (Ex)

inductive Fl (N B R : Type) where
  | nx (n : N) | bk (b : B) | ct (b : B) | rt (r : R)
def bindF {N N' B R : Type} (m : M (Fl N B R)) (k : N → M (Fl N' B R)) : M (Fl N' B R) :=
  match m with
  | .ok (.nx n) => k n
  | .ok (.bk b) => .ok (.bk b)
  | .ok (.ct b) => .ok (.ct b)
  | .ok (.rt r) => .ok (.rt r)
  | .error e => .error e
/-- the heaps' part of a state -/
structure RB (c : Cc) (F H : Hp) : Prop where
  exF : Ex F H
  exF0 : Ex c.F0 F
  newF : ∀ a, c.F0 a = none → c.H0 a ≠ none → F a = none
  exG : Ex c.G H
  grow : ∀ a, H a = none → c.H0 a = none
  gF : ∀ a, c.G a ≠ none → c.F0 a = none → F a = none
theorem RS.rb {c : Cc} {env : Cells} {σ : L2.St} {F H : Hp} (R : RS c env σ F H) : RB c F H := ⟨R.exF, R.exF0, R.newF, R.exG, R.grow, R.gF⟩
def XE (c : Cc) (xe : Cells) (n : String) (p : List D) : Prop := ∀ σ' F' H' cls d, RS c xe σ' F' H' → ExcIs c n p cls d F' H' → c.W cls d σ' H'
theorem XE.xp {c : Cc} {xe env : Cells} {σ : L2.St} {F H : Hp} {n : String} {p : List D} (x : XE c xe n p) (R : RS c env σ F H) (l : Le xe env) : XP c σ F H n p := fun F' H' cls d g e => x σ F' H' cls d ((R.g g).weak l) e
abbrev RetP (R : Type) := R → Hp → Hp → V → Prop
def RetOf (c : Cc) (k : RK) {R : Type} [Enc R] : RetP R := fun r F' H' v => ResIs c k c.H0 F' H' v (enc r)
def Post (c : Cc) {N B R : Type} (pn : N → Cells) (pb : B → Cells) (ret : RetP R) (Dn : Ends) : Fl N B R → Prop
  | .nx n => ∀ σ' F' H', RS c (pn n) σ' F' H' → Dn.nx σ' H'
  | .bk b => ∀ σ' F' H', RS c (pb b) σ' F' H' → Dn.bk σ' H'
  | .ct b => ∀ σ' F' H', RS c (pb b) σ' F' H' → Dn.ct σ' H'
  | .rt r => ∀ v F' H', RB c F' H' → ret r F' H' v → Dn.rt v H'
def StX (c : Cc) (xe : Cells) (ts : TS) (env : Cells) {N B R : Type} (m : M (Fl N B R)) (pn : N → Cells) (pb : B → Cells) (ret : RetP R) : Prop :=
  ∀ σ F H Dn, RS c env σ F H → WP m (Post c pn pb ret Dn) (XE c xe) → ts Dn σ H
theorem wp_bindF {N N' B R : Type} {m : M (Fl N B R)} {k : N → M (Fl N' B R)} {Qk : Fl N' B R → Prop} {Qx : String → List D → Prop} (h : WP (bindF m k) Qk Qx) :
    WP m (fun f => match f with | .nx n => WP (k n) Qk Qx | .bk b => Qk (.bk b) | .ct b => Qk (.ct b) | .rt r => Qk (.rt r)) Qx := by
  cases m with
  | ok f => cases f <;> exact h
  | error e => cases e <;> exact h

theorem bindF_wp {N N' B R : Type} {m : M (Fl N B R)} {k : N → M (Fl N' B R)} {Qk : Fl N' B R → Prop} {Qx : String → List D → Prop}
    (h : WP m (fun f => match f with | .nx n => WP (k n) Qk Qx | .bk b => Qk (.bk b) | .ct b => Qk (.ct b) | .rt r => Qk (.rt r)) Qx) : WP (bindF m k) Qk Qx := by
  cases m with
  | ok f => cases f <;> exact h
  | error e => cases e <;> exact h
/-- another ground for the frozen heap -/
abbrev Cc.f0 (c : Cc) (F0 : Hp) : Cc := { c with F0 := F0 }
theorem RS.f0 {c : Cc} {env : Cells} {σ : L2.St} {F F1 H : Hp} (R : RS c env σ F H) (e : Ex F1 F) (e0 : Ex c.F0 F1) : RS (c.f0 F1) env σ F H :=
  ⟨R.len, R.exF, e, fun a h1 h2 => R.newF a (ex_none e0 h1) h2, R.exG, R.grow, fun a h1 h2 => R.gF a h1 (ex_none e0 h2), R.cell, R.dist⟩
theorem RS.off0 {c : Cc} {env : Cells} {σ : L2.St} {F F1 H H1 : Hp} (b : RB c F1 H1) (R : RS (c.f0 F1) env σ F H) : RS c env σ F H :=
  ⟨R.len, R.exF, b.exF0.trans R.exF0, fun a h1 h2 => R.newF a (b.newF a h1 h2) h2, R.exG, R.grow, fun a h1 h2 => R.gF a h1 (b.gF a h1 h2), R.cell, R.dist⟩
theorem RB.off0 {c : Cc} {F F1 H H1 : Hp} (b : RB c F1 H1) (R : RB (c.f0 F1) F H) : RB c F H :=
  ⟨R.exF, b.exF0.trans R.exF0, fun a h1 h2 => R.newF a (b.newF a h1 h2) h2, R.exG, R.grow, fun a h1 h2 => R.gF a h1 (b.gF a h1 h2)⟩
section
variable {c : Cc} {xe env : Cells} {N N' B R : Type} {pn : N → Cells} {pb : B → Cells} {ret : RetP R} {t u : TS} {te ti ta : TE} {tt : TT} {α β γ κ : Type} [Enc α] [Enc β] [Enc γ] {i j : Nat}
theorem s_nil {n : N} (h : Le (pn n) env) : StX c xe tNext env (.ok (.nx n) : M (Fl N B R)) pn pb ret := fun σ F H Dn S w => w σ F H (S.weak h)
/-- name = data -/
theorem s_set {me : M α} {k : α → M (Fl N B R)} (h : EvP c .dat te env me) (hx : Le xe env) (hu : ∀ a, StX c xe u (env.set i (some (.dat (enc a)))) (k a) pn pb ret) : StX c xe (tSeq (tAsg te (gName i)) u) env (M.bind me k) pn pb ret := fun σ F H Dn S w =>
  h σ F H _ S ((wp_bind.mp w).imp (fun a w1 v F' H' g r => hu a _ F' H' Dn ((S.g g).setD r) w1) fun n p x => x.xp S hx)
/-- name = a new root, to be written -/
theorem s_own {me : M α} {k : α → M (Fl N B R)} (h : EvP c .new te env me) (hx : Le xe env) (hu : ∀ a, StX c xe u (env.set i (some (.own true (enc a)))) (k a) pn pb ret) : StX c xe (tSeq (tAsg te (gName i)) u) env (M.bind me k) pn pb ret := fun σ F H Dn S w =>
  h σ F H _ S ((wp_bind.mp w).imp (fun a w1 v F' H' g r => by
    obtain ⟨p, o, rfl, h2, h3, h4, h5⟩ := r
    have S' := S.g g
    refine hu a _ F' H' Dn (S'.setO ⟨rfl, ⟨o, h3, h5⟩, h4, ex_none S.exG h2, fun _ => rfl, fun _ => S.grow p h2⟩ fun j b e he hs => ?_) w1
    obtain ⟨v, q1, l, q2, ⟨o', q3, _⟩, _⟩ := S.cell j _ he
    rw [hs] at q1
    cases q1
    cases q2
    rw [h2] at q3
    cases q3) fun n p x => x.xp S hx)
/-- an owned root is frozen (no code) -/
theorem s_froz {m : M (Fl N B R)} {a : α} (he : env[i]? = some (some (.own true (enc a)))) (hu : StX c xe u (env.set i (some (.dat (enc a)))) m pn pb ret) : StX c xe u env m pn pb ret := fun σ F H Dn S w => by
  obtain ⟨v, h1, l, rfl, ⟨o, h3, h4⟩, h5, h6, h7⟩ := S.cell i _ he
  have hi : i < env.length := (List.getElem?_eq_some_iff.mp he).1
  have S2 : RS c (env.set i none) (σ.set i (some (.ref l))) F H := S.drop
  have e : σ.set i (some (.ref l)) = σ := by
    apply List.ext_getElem?
    intro j
    by_cases q : i = j
    · subst q
      rw [List.getElem?_set_self (by rw [S.len]; exact hi), h1]
    · rw [List.getElem?_set_ne q]
  rw [e] at S2
  have S3 : RS c (env.set i none) σ (upd F l o) H := S2.frozen h3 h5 (h7.mpr rfl) h6 fun j b d hj hs => by
    by_cases q : i = j
    · subst q
      rw [List.getElem?_set_self hi] at hj
      cases hj
    · rw [List.getElem?_set_ne q] at hj
      exact S.dist i j true b _ d l q he hj h1 hs
  have S4 := S3.setD (i := i) (h4.rep h5)
  rw [e, List.set_set] at S4
  exact hu σ _ H Dn S4 w
theorem s_ret {k : RK} {me : M α} [Enc R] (h : EvP c k te env me) (f : α → R) (hx : Le xe env) (hf : ∀ a, enc (f a) = enc a := by intro _; rfl) : StX c xe (tSeq (tRet te) u) env (M.bind me fun a => .ok (.rt (f a)) : M (Fl N B R)) pn pb (RetOf c k) := fun σ F H Dn S w =>
  h σ F H _ S ((wp_bind.mp w).imp (fun a w1 v F' H' g r => w1 v F' H' (S.g g).rb (by
    show ResIs c k c.H0 F' H' v (enc (f a))
    rw [hf]
    cases k with
    | dat => exact r
    | new =>
      obtain ⟨p, o, h1, h2, h3⟩ := r
      exact ⟨p, o, h1, S.grow p h2, h3⟩
    | see => exact r
    | deep =>
      obtain ⟨Fd, h1, h2, h3⟩ := r
      exact ⟨Fd, h1, h2, fun a q => ⟨S.grow a (h3 a q).1, (h3 a q).2⟩⟩)) fun n p x => x.xp S hx)
/-- return an owned name: a new root -/
theorem s_retO [Enc R] {a : R} (he : env[i]? = some (some (.own true (enc a)))) : StX c xe (tSeq (tRet (tVar i)) u) env (.ok (.rt a) : M (Fl N B R)) pn pb (RetOf c .new) := fun σ F H Dn S w => by
  obtain ⟨v, h1, l, rfl, ⟨o, h3, h4⟩, h5, h6, h7⟩ := S.cell i _ he
  exact ⟨_, h1, w _ F H S.rb ⟨l, o, rfl, h7.mpr rfl, h3, h5, h4⟩⟩
theorem s_retN [Enc R] {a : R} (hf : enc a = D.non) : StX c xe (tSeq tRetN u) env (.ok (.rt a) : M (Fl N B R)) pn pb (RetOf c .dat) := fun σ F H Dn S w => w .non F H S.rb (by
  show Rep c.K F .non (enc a)
  rw [hf]
  exact .non)
/-- a docstring, pass -/
theorem s_doc {m : M (Fl N B R)} (hu : StX c xe u env m pn pb ret) : StX c xe (tSeq tNext u) env m pn pb ret := fun σ F H Dn S w => hu σ F H Dn S w
/-- raise X() -/
theorem s_raise {n : String} {C : Addr} (hm : c.mg (Str.ofString n) = some (.ref C)) (hx : Le xe env) : StX c xe (tSeq (fun _ σ H => c.W (.ref C) none σ H) u) env (.error (.exc n []) : M (Fl N B R)) pn pb ret := fun σ F H Dn S w =>
  w σ F H (.ref C) none (S.weak hx) ⟨C, hm, rfl, .inl ⟨rfl, rfl⟩⟩
theorem s_brk {b : B} (h : Le (pb b) env) : StX c xe (tSeq tBreak u) env (.ok (.bk b) : M (Fl N B R)) pn pb ret := fun σ F H Dn S w => w σ F H (S.weak h)
theorem s_cont {b : B} (h : Le (pb b) env) : StX c xe (tSeq tCont u) env (.ok (.ct b) : M (Fl N B R)) pn pb ret := fun σ F H Dn S w => w σ F H (S.weak h)
/-- if, what follows taken into both branches -/
theorem s_ifD {mb : M Bool} {m1 m2 : M (Fl N B R)} {v : TS} (h : EvT c tt env mb) (hx : Le xe env) (h1 : StX c xe (tSeq t v) env m1 pn pb ret) (h2 : StX c xe (tSeq u v) env m2 pn pb ret) :
    StX c xe (tSeq (tIfS tt t u) v) env (M.bind mb fun b => if b = true then m1 else m2) pn pb ret := fun σ F H Dn S w =>
  h σ F H _ S ((wp_bind.mp w).imp (fun b w1 F' H' g => by
    cases b with
    | true => exact h1 σ F' H' Dn (S.g g) w1
    | false => exact h2 σ F' H' Dn (S.g g) w1) fun n p x => x.xp S hx)
/-- if, what follows behind both branches -/
theorem s_ifM {mb : M Bool} {m1 m2 : M (Fl N' B R)} {pn' : N' → Cells} {k : N' → M (Fl N B R)} {v : TS} (h : EvT c tt env mb) (hx : Le xe env) (h1 : StX c xe t env m1 pn' pb ret) (h2 : StX c xe u env m2 pn' pb ret)
    (hv : ∀ n, StX c xe v (pn' n) (k n) pn pb ret) : StX c xe (tSeq (tIfS tt t u) v) env (bindF (M.bind mb fun b => if b = true then m1 else m2) k) pn pb ret := fun σ F H Dn S w => by
  refine h σ F H _ S ((wp_bind.mp (wp_bindF w)).imp (fun b w1 F' H' g => ?_) fun n p x => x.xp S hx)
  have z : ∀ m : M (Fl N' B R), WP m (fun f => match f with | .nx n => WP (k n) (Post c pn pb ret Dn) (XE c xe) | .bk b => Post c pn pb ret Dn (.bk b) | .ct b => Post c pn pb ret Dn (.ct b) | .rt r => Post c pn pb ret Dn (.rt r)) (XE c xe) →
      WP m (Post c pn' pb ret { Dn with nx := v Dn }) (XE c xe) := fun m w => w.imp (fun f q => by
    cases f with
    | nx n => exact fun σ' F' H' S' => hv n σ' F' H' Dn S' q
    | bk b => exact q
    | ct b => exact q
    | rt r => exact q) fun _ _ x => x
  cases b with
  | true => exact h1 σ F' H' _ (S.g g) (z m1 w1)
  | false => exact h2 σ F' H' _ (S.g g) (z m2 w1)
/-- an expression that is dropped -/
theorem s_drop {k : RK} {me : M α} {m : α → M (Fl N B R)} (h : EvP c k te env me) (hx : Le xe env) (hu : ∀ a, StX c xe u env (m a) pn pb ret) : StX c xe (tSeq (tDrop te) u) env (M.bind me m) pn pb ret := fun σ F H Dn S w =>
  h σ F H _ S ((wp_bind.mp w).imp (fun a w1 v F' H' g r => hu a σ F' H' Dn (S.g g) w1) fun n p x => x.xp S hx)
/-- xs.append(e) -/
theorem s_app {K : PySem.W.Frag} {b : Bool} {xs : List α} {me : M α} (he : env[i]? = some (some (.own b (enc xs)))) (h : EvP c .dat te env me) (hx : Le xe env)
    {k : α → M (Fl N B R)} (hu : ∀ a, StX c xe u (env.set i (some (.own b (enc (xs ++ [a]))))) (k a) pn pb ret) :
    StX c xe (tSeq (tDrop (tBM K "list" rAppend (tVar i) (tCons te tNil))) u) env (M.bind me fun a => chk (decide (xs.length < LIM)) (k a)) pn pb ret := fun σ F H Dn S w => by
  obtain ⟨v, h1, l, rfl, ⟨o, h3, h4⟩, h5, h6, h7⟩ := S.cell i _ he
  obtain ⟨vs, rfl, hv⟩ := rootL_inv h4
  refine ⟨_, h1, .inl ⟨rfl, vs, SqL.of h3⟩, ?_⟩
  refine h σ F H _ S ((wp_bind.mp w).imp (fun a w1 v F' H' g r => ?_) fun n p x => x.xp S hx)
  obtain ⟨w2, w3⟩ := wp_chk w1
  have w2 := of_decide_eq_true w2
  have e := hv.length
  rw [List.length_map] at e
  refine ⟨l, vs, v, rfl, rfl, g.h _ _ h3, by rw [e]; exact lim_line w2, ?_⟩
  refine hu a σ F' _ Dn ((S.g g).write he h1 ?_) w3
  show Root c.K F' l _ (.lst ((xs ++ [a]).map enc))
  rw [List.map_append]
  exact .lst ((Reps.mono g.f hv).append (.cons r .nil))
def setL {α : Type} (xs : List α) (i : Int) (a : α) : M (List α) :=
  match ixN xs.length i with
  | some j => .ok (xs.set j a)
  | none => .error .stuck
theorem map_set' {f : α → D} {xs : List α} {j : Nat} {a : α} : (xs.set j a).map f = (xs.map f).set j (f a) := by
  rw [List.map_set]
/-- xs[i] = e -/
theorem s_setL {b : Bool} {xs : List α} {me : M α} {mi : M Int} {k : List α → M (Fl N B R)} (he : env[i]? = some (some (.own b (enc xs)))) (h : EvP c .dat te env me) (hi : EvP c .dat ti env mi) (hx : Le xe env)
    (hu : ∀ ys : List α, StX c xe u (env.set i (some (.own b (enc ys)))) (k ys) pn pb ret) :
    StX c xe (tSeq (tAsg te (gSub (tVar i) ti rSetL)) u) env (M.bind me fun a => M.bind mi fun n => M.bind (setL xs n a) k) pn pb ret := fun σ F H Dn S w => by
  obtain ⟨v, h1, l, rfl, ⟨o, h3, h4⟩, h5, h6, h7⟩ := S.cell i _ he
  obtain ⟨vs, rfl, hv⟩ := rootL_inv h4
  refine h σ F H _ S ((wp_bind.mp w).imp (fun a w1 v F1 H1 g1 r1 => ?_) fun n p x => x.xp S hx)
  refine ⟨_, h1, ?_⟩
  refine hi σ F1 H1 _ (S.g g1) ((wp_bind.mp w1).imp (fun n w2 y F2 H2 g2 r2 => ?_) fun n p x => x.xp (S.g g1) hx)
  have e2 := repI_inv (show Rep c.K F2 y (.int n) from r2)
  have g := g1.trans g2
  have e := hv.length
  rw [List.length_map] at e
  have w3 := wp_bind.mp w2
  unfold setL at w3
  cases hj : ixN xs.length n with
  | none =>
    rw [hj] at w3
    exact w3.elim
  | some j =>
    rw [hj] at w3
    refine ⟨l, vs, n, j, rfl, e2, g.h _ _ h3, by rw [e]; exact hj, ?_⟩
    refine hu (xs.set j a) σ F2 _ Dn ((S.g g).write he h1 ?_) w3
    show Root c.K F2 l _ (.lst ((xs.set j a).map enc))
    rw [List.map_set]
    exact .lst ((Reps.mono g.f hv).set j (Rep.mono g2.f r1))
/-- x += e of an int -/
theorem s_aug {g : Int → Int → Int} {a : Int} {me : M Int} {k : Int → M (Fl N B R)} (he : env[i]? = some (some (.dat (enc a)))) (h : EvP c .dat te env me) (hx : Le xe env)
    (hu : ∀ b : Int, StX c xe u (env.set i (some (.dat (enc (g a b))))) (k b) pn pb ret) : StX c xe (tSeq (tAug i te (ipI g)) u) env (M.bind me k) pn pb ret := fun σ F H Dn S w => by
  obtain ⟨v, h1, h2⟩ := S.cell i _ he
  have e1 := repI_inv (show Rep c.K F v (.int a) from h2)
  refine ⟨v, h1, ?_⟩
  refine h σ F H _ S ((wp_bind.mp w).imp (fun b w1 y F' H' g' r => ?_) fun n p x => x.xp S hx)
  have e2 := repI_inv (show Rep c.K F' y (.int b) from r)
  exact ⟨a, b, e1, e2, hu b _ F' H' Dn ((S.g g').setD (d := enc (g a b)) .int) w1⟩
/-- a, b = x, y -/
theorem s_par {ma : M α} {mb : M β} {tb : TE} {k : α → β → M (Fl N B R)} (ha : EvP c .dat ta env ma) (hb : EvP c .dat tb env mb) (hx : Le xe env)
    (hu : ∀ a b, StX c xe u ((env.set i (some (.dat (enc a)))).set j (some (.dat (enc b)))) (k a b) pn pb ret) : StX c xe (tSeq (tPar i j (tCons ta (tCons tb tNil))) u) env (M.bind ma fun a => M.bind mb fun b => k a b) pn pb ret := fun σ F H Dn S w => by
  refine ha σ F H _ S ((wp_bind.mp w).imp (fun a w1 x F1 H1 g1 r1 => ?_) fun n p x => x.xp S hx)
  refine hb σ F1 H1 _ (S.g g1) ((wp_bind.mp w1).imp (fun b w2 y F2 H2 g2 r2 => ?_) fun n p x => x.xp (S.g g1) hx)
  exact ⟨x, y, rfl, hu a b _ F2 H2 Dn (((S.g (g1.trans g2)).setD (Rep.mono g2.f r1)).setD r2) w2⟩
/-- a, b = a pair -/
theorem s_tup2 {m : M (α × β)} {k : α × β → M (Fl N B R)} (h : EvP c .dat te env m) (hx : Le xe env)
    (hu : ∀ p : α × β, StX c xe u ((env.set i (some (.dat (enc p.1)))).set j (some (.dat (enc p.2)))) (k p) pn pb ret) : StX c xe (tSeq (tAsg te (gTup c.K.fr 2 (gCons (gName i) (gCons (gName j) gNil)))) u) env (M.bind m k) pn pb ret := fun σ F H Dn S w => by
  refine h σ F H _ S ((wp_bind.mp w).imp (fun a w1 x F1 H1 g1 r1 => ?_) fun n p x => x.xp S hx)
  exact tg_2 (c := c) (vs := [i, j]) (by simp) (by simp) a x env σ F1 H1 _ (S.g g1) r1 fun σ' S' _ => hu a σ' F1 H1 Dn S' w1
/-- a, b = x, y where names are to be written -/
theorem s_parOO {ma : M α} {mb : M β} {tb : TE} {k : α → β → M (Fl N B R)} (ha : EvP c .new ta env ma) (hb : EvP c .new tb env mb) (hx : Le xe env) (hij : i ≠ j)
    (hu : ∀ a b, StX c xe u ((env.set i (some (.own true (enc a)))).set j (some (.own true (enc b)))) (k a b) pn pb ret) : StX c xe (tSeq (tPar i j (tCons ta (tCons tb tNil))) u) env (M.bind ma fun a => M.bind mb fun b => k a b) pn pb ret := fun σ F H Dn S w => by
  refine ha σ F H _ S ((wp_bind.mp w).imp (fun a w1 x F1 H1 g1 r1 => ?_) fun n p x => x.xp S hx)
  refine hb σ F1 H1 _ (S.g g1) ((wp_bind.mp w1).imp (fun b w2 y F2 H2 g2 r2 => ?_) fun n p x => x.xp (S.g g1) hx)
  have g12 := g1.trans g2
  obtain ⟨p, o, rfl, p2, p3, p4, p5⟩ := r1.grow g2
  obtain ⟨q, o', rfl, q2, q3, q4, q5⟩ := r2
  have S2 := S.g g12
  have q2' : H q = none := ex_none g1.h q2
  have hpq : p ≠ q := fun z => by
    subst z
    obtain ⟨p', o1, e1, _, k3, _⟩ := r1
    cases e1
    rw [q2] at k3
    cases k3
  have fr : ∀ (z : Addr), H z = none → ∀ (j : Nat) (b : Bool) (e : D), env[j]? = some (some (.own b e)) → σ[j]? ≠ some (some (.ref z)) := fun z hz j b e he hs => by
    obtain ⟨v, q1, l, q2, ⟨o', q3, _⟩, _⟩ := S.cell j _ he
    rw [hs] at q1
    cases q1
    cases q2
    rw [hz] at q3
    cases q3
  have S3 := S2.setO (i := i) (k := true) ⟨rfl, ⟨o, p3, p5⟩, p4, ex_none S.exG p2, fun _ => rfl, fun _ => S.grow p p2⟩ (fr p p2)
  have S4 := S3.setO (i := j) (k := true) (p := q) (d := enc b) ⟨rfl, ⟨o', q3, q5⟩, q4, ex_none S.exG q2', fun _ => rfl, fun _ => S.grow q q2'⟩ fun m b' e he hs => by
    by_cases z : i = m
    · subst z
      have hl : i < σ.length := by
        have := (List.getElem?_eq_some_iff.mp he).1
        rw [List.length_set] at this
        rw [S.len]
        exact this
      rw [List.getElem?_set_self hl] at hs
      cases hs
      exact hpq rfl
    · rw [List.getElem?_set_ne z] at he hs
      exact fr q q2' m b' e he hs
  exact ⟨_, _, rfl, hu a b _ F2 H2 Dn S4 w2⟩
/-! ### for -/
def forF {S : Type} (body : S → α → M (Fl S S R)) : List α → S → M (Fl S B R)
  | [], s => .ok (.nx s)
  | x :: xs, s => match body s x with
    | .ok (.nx s') => forF body xs s'
    | .ok (.ct s') => forF body xs s'
    | .ok (.bk s') => .ok (.nx s')
    | .ok (.rt r) => .ok (.rt r)
    | .error e => .error e
theorem wp_forF {S : Type} {body : S → α → M (Fl S S R)} {x : α} {xs : List α} {s : S} {Qk : Fl S B R → Prop} {Qx : String → List D → Prop} (h : WP (forF (B := B) body (x :: xs) s) Qk Qx) :
    WP (body s x) (fun f => match f with | .nx s' => WP (forF (B := B) body xs s') Qk Qx | .ct s' => WP (forF (B := B) body xs s') Qk Qx | .bk s' => Qk (.nx s') | .rt r => Qk (.rt r)) Qx := by
  unfold forF at h
  cases hb : body s x with
  | ok f =>
    rw [hb] at h
    cases f <;> exact h
  | error e =>
    rw [hb] at h
    cases e <;> exact h
theorem s_for {S : Type} {wi : TI} {g : TG} {tb v : TS} {vs : List Nat} {mxs : M (List α)} {f : α → Cells → Cells} {s0 : S} {ps : S → Cells} {body : S → α → M (Fl S S R)} {k : S → M (Fl N B R)} (hi : EvIt c wi env mxs) (ht : TgIs c g vs f) (hx : Le xe env) (hs : Le (ps s0) env)
    (hb : ∀ F0' s x, StX (c.f0 F0') xe tb (f x (ps s)) (body s x) ps ps ret) (hv : ∀ s, StX c xe v (ps s) (k s) pn pb ret) :
    StX c xe (tSeq (tFor wi g tb) v) env (M.bind mxs fun xs => bindF (forF body xs s0) k) pn pb ret := fun σ F H Dn R w => by
  refine hi σ F H _ R ((wp_bind.mp w).imp (fun xs w1 J F1 H1 g1 hz it => ?_) fun n p x => x.xp R hx)
  obtain ⟨G, Y, wk, hG, hY⟩ := it
  have e : (xs.map enc).length = xs.length := List.length_map _
  rw [e] at wk
  refine for_it wk (fun i σ' H' => i ≤ xs.length ∧ ∃ F' s, RS c (ps s) σ' F' H' ∧ Ex F1 F' ∧
    WP (bindF (forF (B := B) body (xs.drop i) s) k) (Post c pn pb ret Dn) (XE c xe)) ?_ ?_ ?_ ?_
  · exact ⟨Nat.zero_le _, F1, s0, (R.g g1).weak hs, Ex.refl F1, w1⟩
  · rintro i σ' H' _ ⟨_, F', s, S', ee, _⟩
    exact hG H' (ee.trans S'.exF)
  · rintro i x σ' H' H2 hlt ⟨_, F', s, S', ee, hw⟩ hy
    have hxi : xs[i]? = some xs[i] := List.getElem?_eq_getElem hlt
    obtain ⟨F2, g3, r3⟩ := hY i (enc xs[i]) H' x H2 (by rw [List.getElem?_map, hxi]; rfl) hy F' ee S'.exF
    refine ht xs[i] x _ _ F2 H2 _ (S'.g g3) r3 fun σ2 S2 _ => ?_
    rw [drop_cons hlt] at hw
    have hw2 := wp_forF (wp_bindF hw)
    have b1 : RB c F1 H1 := (R.g g1).rb
    have eF : Ex F1 F2 := ee.trans g3.f
    refine hb F1 s xs[i] σ2 F2 H2 _ (S2.f0 eF b1.exF0) (hw2.imp (fun fl q => ?_) fun n p q σ' F' H' cls d S e => q σ' F' H' cls d (S.off0 b1) e)
    cases fl with
    | nx s' => exact fun σ' F' H' S => ⟨by omega, F', s', S.off0 b1, S.exF0, bindF_wp q⟩
    | ct s' => exact fun σ' F' H' S => ⟨by omega, F', s', S.off0 b1, S.exF0, bindF_wp q⟩
    | bk s' => exact fun σ' F' H' S => hv s' σ' F' H' Dn (S.off0 b1) q
    | rt r => exact fun v F' H' rb z => q v F' H' (b1.off0 rb) z
  · rintro σ' H' ⟨_, F', s, S', ee, hw⟩
    rw [List.drop_eq_nil_of_le (Nat.le_refl _)] at hw
    exact hv s σ' F' H' Dn S' hw
/-! ### while -/
def whileN {S : Type} (cond : S → M Bool) (body : S → M (Fl S S R)) : Nat → S → M (Fl S B R)
  | 0, _ => .error .stuck
  | n + 1, s => match cond s with
    | .error e => .error e
    | .ok false => .ok (.nx s)
    | .ok true => match body s with
      | .ok (.nx s') => whileN cond body n s'
      | .ok (.ct s') => whileN cond body n s'
      | .ok (.bk s') => .ok (.nx s')
      | .ok (.rt r) => .ok (.rt r)
      | .error e => .error e
def notStuck {α : Type} : M α → Prop
  | .error .stuck => False
  | _ => True
open Classical in
noncomputable def whileF {S : Type} (cond : S → M Bool) (body : S → M (Fl S S R)) (s : S) : M (Fl S B R) :=
  if h : ∃ n, notStuck (whileN (B := B) cond body n s) then whileN cond body h.choose s else .error .stuck
theorem s_while {S : Type} {tb v : TS} {s0 : S} {ps : S → Cells} {cond : S → M Bool} {body : S → M (Fl S S R)} {k : S → M (Fl N B R)} (hs : Le (ps s0) env) (hx : ∀ s, Le xe (ps s)) (hc : ∀ s, EvT c tt (ps s) (cond s))
    (hb : ∀ s, StX c xe tb (ps s) (body s) ps ps ret) (hv : ∀ s, StX c xe v (ps s) (k s) pn pb ret) :
    StX c xe (tSeq (tWhile tt tb) v) env (bindF (whileF cond body s0) k) pn pb ret := fun σ F H Dn R w => by
  refine ⟨fun m σ' H' => ∃ F' s, RS c (ps s) σ' F' H' ∧ WP (bindF (whileN (B := B) cond body m s) k) (Post c pn pb ret Dn) (XE c xe), ?_, ?_⟩
  · unfold whileF at w
    split at w
    · rename_i h
      exact ⟨h.choose, F, s0, R.weak hs, w⟩
    · exact w.elim
  · rintro m σ' H' ⟨F', s, S', hw⟩
    cases m with
    | zero => exact hw.elim
    | succ m =>
      have hw1 : WP (cond s) (fun b => if b = true then WP (bindF (match body s with
          | .ok (.nx s') => whileN (B := B) cond body m s'
          | .ok (.ct s') => whileN (B := B) cond body m s'
          | .ok (.bk s') => .ok (.nx s')
          | .ok (.rt r) => .ok (.rt r)
          | .error e => .error e) k) (Post c pn pb ret Dn) (XE c xe) else WP (k s) (Post c pn pb ret Dn) (XE c xe)) (XE c xe) := by
        unfold whileN at hw
        cases hcs : cond s with
        | error e =>
          rw [hcs] at hw
          cases e <;> exact hw
        | ok b =>
          rw [hcs] at hw
          cases b <;> exact hw
      refine hc s σ' F' H' _ S' (hw1.imp (fun b q F2 H2 g => ?_) fun n p x => x.xp S' (hx s))
      cases b with
      | false => exact hv s σ' F2 H2 Dn (S'.g g) q
      | true =>
        refine ⟨fun σ2 H2 => ∃ F2 s', RS c (ps s') σ2 F2 H2 ∧ WP (bindF (whileN (B := B) cond body m s') k) (Post c pn pb ret Dn) (XE c xe), fun σ2 H3 h => ⟨m, Nat.lt_succ_self m, h⟩, ?_⟩
        rw [if_pos rfl] at q
        refine hb s σ' F2 H2 _ (S'.g g) ?_
        cases hbs : body s with
        | error e =>
          rw [hbs] at q
          cases e <;> exact q
        | ok f =>
          rw [hbs] at q
          cases f with
          | nx s' => exact fun σ' F' H' S => ⟨F', s', S, q⟩
          | ct s' => exact fun σ' F' H' S => ⟨F', s', S, q⟩
          | bk s' => exact fun σ' F' H' S => hv s' σ' F' H' Dn S q
          | rt r => exact q
end
end HW

set_option Elab.async false
set_option linter.all false
set_option maxRecDepth 100000
set_option autoImplicit false
namespace HW
open PySem L2 PyProof.Rows
open Evl (Ex)

/-! ### what a def promises: its mirror -/
def mapE {α : Type} [Enc α] (m : M α) : M D := M.bind m fun a => .ok (enc a)
def cK (K : Kx) (mg : Str → Option Value) : Cc := ⟨K, mg, fun _ => none, fun _ => none, fun _ => none, fun _ _ _ _ => False⟩
def spM (K : Kx) (mg : Str → Option Value) (k : RK) (Rm : List D → M D → Prop) : Sp := fun vs H Q E => ∃ (F : Hp) (ds : List D) (m : M D), Rm ds m ∧ Ex F H ∧ Reps K F vs ds ∧
  WP m (fun d => ∀ v F' H', Grow F H F' H' → ResIs (cK K mg) k H F' H' v d → Q v H') (fun n p => ∀ F' H' cls dd, Grow F H F' H' → ExcIs (cK K mg) n p cls dd F' H' → E cls dd H')
theorem wp_mapE {α : Type} [Enc α] {m : M α} {Qk : D → Prop} {Qx : String → List D → Prop} : WP (mapE m) Qk Qx ↔ WP m (fun a => Qk (enc a)) Qx := wp_bind
section
variable {c : Cc} {env : Cells} {k : RK} {γ : Type} [Enc γ]
theorem e_callG {ta : TA} {ms : M (List D)} {mc : M γ} {Rm : List D → M D → Prop} (h : EvAs c ta env ms) (hR : ∀ (Qk : γ → Prop) (Qx : String → List D → Prop), WP mc Qk Qx → WP ms (fun ds => ∃ g : M γ, Rm ds (mapE g) ∧ WP g Qk Qx) Qx) :
    EvP c k (tCallS (spM c.K c.mg k Rm) (WE c.W) ta) env mc := fun σ F H Q R w => by
  refine h σ F H _ R ((hR _ _ w).imp (fun ds h2 vs F1 H1 g1 r1 => ?_) fun _ _ x => x)
  obtain ⟨g, h3, h4⟩ := h2
  refine ⟨F1, ds, mapE g, h3, g1.fh, r1, wp_mapE.mpr (h4.imp (fun a q v F' H' g2 r2 => ?_) fun n p x F' H' cls dd g2 e => ?_)⟩
  · exact q v F' H' (g1.trans g2) (ResIs.back (c := c) (k := k) r2 g1.h)
  · exact x F' H' cls dd (g1.trans g2) e
def Rm1 {α0 γ : Type} [Enc α0] [Enc γ] (f : α0 → M γ) (ds : List D) (m : M D) : Prop := ∃ x0, ds = [enc x0] ∧ m = mapE (f x0)
theorem e_call1 {t0 : TE} {α0 : Type} [Enc α0] {m0 : M α0} {f : α0 → M γ} (h0 : EvP c .dat t0 env m0) :
    EvP c k (tCallS (spM c.K c.mg k (Rm1 f)) (WE c.W) (tCons t0 tNil)) env (M.bind m0 fun x0 => (f x0)) := e_callG (as_cons h0 as_nil) fun Qk Qx w => by
  refine wp_bind.mpr ((wp_bind.mp w).imp (fun x0 w => ?_) fun _ _ z => z)
  exact ⟨f x0, ⟨x0, rfl, rfl⟩, w⟩
def Rm2 {α0 α1 γ : Type} [Enc α0] [Enc α1] [Enc γ] (f : α0 → α1 → M γ) (ds : List D) (m : M D) : Prop := ∃ x0 x1, ds = [enc x0, enc x1] ∧ m = mapE (f x0 x1)
theorem e_call2 {t0 t1 : TE} {α0 α1 : Type} [Enc α0] [Enc α1] {m0 : M α0} {m1 : M α1} {f : α0 → α1 → M γ} (h0 : EvP c .dat t0 env m0) (h1 : EvP c .dat t1 env m1) :
    EvP c k (tCallS (spM c.K c.mg k (Rm2 f)) (WE c.W) (tCons t0 (tCons t1 tNil))) env (M.bind m0 fun x0 => (M.bind m1 fun x1 => (f x0 x1))) := e_callG (as_cons h0 (as_cons h1 as_nil)) fun Qk Qx w => by
  refine wp_bind.mpr ((wp_bind.mp w).imp (fun x0 w => ?_) fun _ _ z => z)
  refine wp_bind.mpr (wp_bind.mpr ((wp_bind.mp w).imp (fun x1 w => ?_) fun _ _ z => z))
  exact ⟨f x0 x1, ⟨x0, x1, rfl, rfl⟩, w⟩
def Rm3 {α0 α1 α2 γ : Type} [Enc α0] [Enc α1] [Enc α2] [Enc γ] (f : α0 → α1 → α2 → M γ) (ds : List D) (m : M D) : Prop := ∃ x0 x1 x2, ds = [enc x0, enc x1, enc x2] ∧ m = mapE (f x0 x1 x2)
theorem e_call3 {t0 t1 t2 : TE} {α0 α1 α2 : Type} [Enc α0] [Enc α1] [Enc α2] {m0 : M α0} {m1 : M α1} {m2 : M α2} {f : α0 → α1 → α2 → M γ} (h0 : EvP c .dat t0 env m0) (h1 : EvP c .dat t1 env m1) (h2 : EvP c .dat t2 env m2) :
    EvP c k (tCallS (spM c.K c.mg k (Rm3 f)) (WE c.W) (tCons t0 (tCons t1 (tCons t2 tNil)))) env (M.bind m0 fun x0 => (M.bind m1 fun x1 => (M.bind m2 fun x2 => (f x0 x1 x2)))) := e_callG (as_cons h0 (as_cons h1 (as_cons h2 as_nil))) fun Qk Qx w => by
  refine wp_bind.mpr ((wp_bind.mp w).imp (fun x0 w => ?_) fun _ _ z => z)
  refine wp_bind.mpr (wp_bind.mpr ((wp_bind.mp w).imp (fun x1 w => ?_) fun _ _ z => z))
  refine wp_bind.mpr (wp_bind.mpr ((wp_bind.mp w).imp (fun x2 w => ?_) fun _ _ z => z))
  exact ⟨f x0 x1 x2, ⟨x0, x1, x2, rfl, rfl⟩, w⟩
def Rm4 {α0 α1 α2 α3 γ : Type} [Enc α0] [Enc α1] [Enc α2] [Enc α3] [Enc γ] (f : α0 → α1 → α2 → α3 → M γ) (ds : List D) (m : M D) : Prop := ∃ x0 x1 x2 x3, ds = [enc x0, enc x1, enc x2, enc x3] ∧ m = mapE (f x0 x1 x2 x3)
theorem e_call4 {t0 t1 t2 t3 : TE} {α0 α1 α2 α3 : Type} [Enc α0] [Enc α1] [Enc α2] [Enc α3] {m0 : M α0} {m1 : M α1} {m2 : M α2} {m3 : M α3} {f : α0 → α1 → α2 → α3 → M γ} (h0 : EvP c .dat t0 env m0) (h1 : EvP c .dat t1 env m1) (h2 : EvP c .dat t2 env m2) (h3 : EvP c .dat t3 env m3) :
    EvP c k (tCallS (spM c.K c.mg k (Rm4 f)) (WE c.W) (tCons t0 (tCons t1 (tCons t2 (tCons t3 tNil))))) env (M.bind m0 fun x0 => (M.bind m1 fun x1 => (M.bind m2 fun x2 => (M.bind m3 fun x3 => (f x0 x1 x2 x3))))) := e_callG (as_cons h0 (as_cons h1 (as_cons h2 (as_cons h3 as_nil)))) fun Qk Qx w => by
  refine wp_bind.mpr ((wp_bind.mp w).imp (fun x0 w => ?_) fun _ _ z => z)
  refine wp_bind.mpr (wp_bind.mpr ((wp_bind.mp w).imp (fun x1 w => ?_) fun _ _ z => z))
  refine wp_bind.mpr (wp_bind.mpr ((wp_bind.mp w).imp (fun x2 w => ?_) fun _ _ z => z))
  refine wp_bind.mpr (wp_bind.mpr ((wp_bind.mp w).imp (fun x3 w => ?_) fun _ _ z => z))
  exact ⟨f x0 x1 x2 x3, ⟨x0, x1, x2, x3, rfl, rfl⟩, w⟩
def Rm5 {α0 α1 α2 α3 α4 γ : Type} [Enc α0] [Enc α1] [Enc α2] [Enc α3] [Enc α4] [Enc γ] (f : α0 → α1 → α2 → α3 → α4 → M γ) (ds : List D) (m : M D) : Prop := ∃ x0 x1 x2 x3 x4, ds = [enc x0, enc x1, enc x2, enc x3, enc x4] ∧ m = mapE (f x0 x1 x2 x3 x4)
theorem e_call5 {t0 t1 t2 t3 t4 : TE} {α0 α1 α2 α3 α4 : Type} [Enc α0] [Enc α1] [Enc α2] [Enc α3] [Enc α4] {m0 : M α0} {m1 : M α1} {m2 : M α2} {m3 : M α3} {m4 : M α4} {f : α0 → α1 → α2 → α3 → α4 → M γ} (h0 : EvP c .dat t0 env m0) (h1 : EvP c .dat t1 env m1) (h2 : EvP c .dat t2 env m2) (h3 : EvP c .dat t3 env m3) (h4 : EvP c .dat t4 env m4) :
    EvP c k (tCallS (spM c.K c.mg k (Rm5 f)) (WE c.W) (tCons t0 (tCons t1 (tCons t2 (tCons t3 (tCons t4 tNil)))))) env (M.bind m0 fun x0 => (M.bind m1 fun x1 => (M.bind m2 fun x2 => (M.bind m3 fun x3 => (M.bind m4 fun x4 => (f x0 x1 x2 x3 x4)))))) := e_callG (as_cons h0 (as_cons h1 (as_cons h2 (as_cons h3 (as_cons h4 as_nil))))) fun Qk Qx w => by
  refine wp_bind.mpr ((wp_bind.mp w).imp (fun x0 w => ?_) fun _ _ z => z)
  refine wp_bind.mpr (wp_bind.mpr ((wp_bind.mp w).imp (fun x1 w => ?_) fun _ _ z => z))
  refine wp_bind.mpr (wp_bind.mpr ((wp_bind.mp w).imp (fun x2 w => ?_) fun _ _ z => z))
  refine wp_bind.mpr (wp_bind.mpr ((wp_bind.mp w).imp (fun x3 w => ?_) fun _ _ z => z))
  refine wp_bind.mpr (wp_bind.mpr ((wp_bind.mp w).imp (fun x4 w => ?_) fun _ _ z => z))
  exact ⟨f x0 x1 x2 x3 x4, ⟨x0, x1, x2, x3, x4, rfl, rfl⟩, w⟩
def Rm6 {α0 α1 α2 α3 α4 α5 γ : Type} [Enc α0] [Enc α1] [Enc α2] [Enc α3] [Enc α4] [Enc α5] [Enc γ] (f : α0 → α1 → α2 → α3 → α4 → α5 → M γ) (ds : List D) (m : M D) : Prop := ∃ x0 x1 x2 x3 x4 x5, ds = [enc x0, enc x1, enc x2, enc x3, enc x4, enc x5] ∧ m = mapE (f x0 x1 x2 x3 x4 x5)
theorem e_call6 {t0 t1 t2 t3 t4 t5 : TE} {α0 α1 α2 α3 α4 α5 : Type} [Enc α0] [Enc α1] [Enc α2] [Enc α3] [Enc α4] [Enc α5] {m0 : M α0} {m1 : M α1} {m2 : M α2} {m3 : M α3} {m4 : M α4} {m5 : M α5} {f : α0 → α1 → α2 → α3 → α4 → α5 → M γ} (h0 : EvP c .dat t0 env m0) (h1 : EvP c .dat t1 env m1) (h2 : EvP c .dat t2 env m2) (h3 : EvP c .dat t3 env m3) (h4 : EvP c .dat t4 env m4) (h5 : EvP c .dat t5 env m5) :
    EvP c k (tCallS (spM c.K c.mg k (Rm6 f)) (WE c.W) (tCons t0 (tCons t1 (tCons t2 (tCons t3 (tCons t4 (tCons t5 tNil))))))) env (M.bind m0 fun x0 => (M.bind m1 fun x1 => (M.bind m2 fun x2 => (M.bind m3 fun x3 => (M.bind m4 fun x4 => (M.bind m5 fun x5 => (f x0 x1 x2 x3 x4 x5))))))) := e_callG (as_cons h0 (as_cons h1 (as_cons h2 (as_cons h3 (as_cons h4 (as_cons h5 as_nil)))))) fun Qk Qx w => by
  refine wp_bind.mpr ((wp_bind.mp w).imp (fun x0 w => ?_) fun _ _ z => z)
  refine wp_bind.mpr (wp_bind.mpr ((wp_bind.mp w).imp (fun x1 w => ?_) fun _ _ z => z))
  refine wp_bind.mpr (wp_bind.mpr ((wp_bind.mp w).imp (fun x2 w => ?_) fun _ _ z => z))
  refine wp_bind.mpr (wp_bind.mpr ((wp_bind.mp w).imp (fun x3 w => ?_) fun _ _ z => z))
  refine wp_bind.mpr (wp_bind.mpr ((wp_bind.mp w).imp (fun x4 w => ?_) fun _ _ z => z))
  refine wp_bind.mpr (wp_bind.mpr ((wp_bind.mp w).imp (fun x5 w => ?_) fun _ _ z => z))
  exact ⟨f x0 x1 x2 x3 x4 x5, ⟨x0, x1, x2, x3, x4, x5, rfl, rfl⟩, w⟩
def Rm7 {α0 α1 α2 α3 α4 α5 α6 γ : Type} [Enc α0] [Enc α1] [Enc α2] [Enc α3] [Enc α4] [Enc α5] [Enc α6] [Enc γ] (f : α0 → α1 → α2 → α3 → α4 → α5 → α6 → M γ) (ds : List D) (m : M D) : Prop := ∃ x0 x1 x2 x3 x4 x5 x6, ds = [enc x0, enc x1, enc x2, enc x3, enc x4, enc x5, enc x6] ∧ m = mapE (f x0 x1 x2 x3 x4 x5 x6)
theorem e_call7 {t0 t1 t2 t3 t4 t5 t6 : TE} {α0 α1 α2 α3 α4 α5 α6 : Type} [Enc α0] [Enc α1] [Enc α2] [Enc α3] [Enc α4] [Enc α5] [Enc α6] {m0 : M α0} {m1 : M α1} {m2 : M α2} {m3 : M α3} {m4 : M α4} {m5 : M α5} {m6 : M α6} {f : α0 → α1 → α2 → α3 → α4 → α5 → α6 → M γ} (h0 : EvP c .dat t0 env m0) (h1 : EvP c .dat t1 env m1) (h2 : EvP c .dat t2 env m2) (h3 : EvP c .dat t3 env m3) (h4 : EvP c .dat t4 env m4) (h5 : EvP c .dat t5 env m5) (h6 : EvP c .dat t6 env m6) :
    EvP c k (tCallS (spM c.K c.mg k (Rm7 f)) (WE c.W) (tCons t0 (tCons t1 (tCons t2 (tCons t3 (tCons t4 (tCons t5 (tCons t6 tNil)))))))) env (M.bind m0 fun x0 => (M.bind m1 fun x1 => (M.bind m2 fun x2 => (M.bind m3 fun x3 => (M.bind m4 fun x4 => (M.bind m5 fun x5 => (M.bind m6 fun x6 => (f x0 x1 x2 x3 x4 x5 x6)))))))) := e_callG (as_cons h0 (as_cons h1 (as_cons h2 (as_cons h3 (as_cons h4 (as_cons h5 (as_cons h6 as_nil))))))) fun Qk Qx w => by
  refine wp_bind.mpr ((wp_bind.mp w).imp (fun x0 w => ?_) fun _ _ z => z)
  refine wp_bind.mpr (wp_bind.mpr ((wp_bind.mp w).imp (fun x1 w => ?_) fun _ _ z => z))
  refine wp_bind.mpr (wp_bind.mpr ((wp_bind.mp w).imp (fun x2 w => ?_) fun _ _ z => z))
  refine wp_bind.mpr (wp_bind.mpr ((wp_bind.mp w).imp (fun x3 w => ?_) fun _ _ z => z))
  refine wp_bind.mpr (wp_bind.mpr ((wp_bind.mp w).imp (fun x4 w => ?_) fun _ _ z => z))
  refine wp_bind.mpr (wp_bind.mpr ((wp_bind.mp w).imp (fun x5 w => ?_) fun _ _ z => z))
  refine wp_bind.mpr (wp_bind.mpr ((wp_bind.mp w).imp (fun x6 w => ?_) fun _ _ z => z))
  exact ⟨f x0 x1 x2 x3 x4 x5 x6, ⟨x0, x1, x2, x3, x4, x5, x6, rfl, rfl⟩, w⟩
end
/-! ### a def keeps it -/
def finR {R : Type} (o : Option R) (m : M (Fl Unit Unit R)) : M R :=
  match m with
  | .ok (.rt r) => .ok r
  | .ok (.nx _) => match o with
    | some r => .ok r
    | none => .error .stuck
  | .ok _ => .error .stuck
  | .error e => .error e
def noneC (n : Nat) : Cells := List.replicate n none
def argC (ds : List D) (n : Nat) : Cells := ds.map (fun d => some (.dat d)) ++ List.replicate (n - ds.length) none
theorem le_none : ∀ {n : Nat} {env : Cells}, n = env.length → Le (noneC n) env
  | 0, [], _ => trivial
  | n + 1, _ :: xs, h => le_none (n := n) (env := xs) (by simpa using h)
  | 0, _ :: _, h => nomatch h
  | _ + 1, [], h => nomatch h
theorem fn_ok {K : Kx} {mg : Str → Option Value} {base : Heap} {x qual : Str} {st : Stmt} {f : Addr} {fd : FuncData} {N ps : List Str} {k : Nat} {Rm : List D → M D → Prop} {rk : RK} {R : Type} [Enc R] (o : Option R) (ho : ∀ r, o = some r → enc r = D.non ∧ rk = .dat)
    (Fn : Fun K.fr x qual st f fd) (S : FnScope N ps (defScope st)) (len : ∀ ds m, Rm ds m → ds.length = ps.length) (lN : ps.length ≤ N.length)
    (hb : ∀ (cdv : Value) (A : Around) (outer : List Env) (s : Shared) (H : Hp) (E : XK) (c : Cc) (ds : List D) (m : M D), Room k (A.deeper (envOfC qual (defScope st) s.heap.objs.size f cdv)) → Rm ds m → c.K = K → c.mg = mg → (c.W = fun cls d _ H' => E cls d H') →
      ∃ (t : TS) (m' : M (Fl Unit Unit R)), PSs (cxOf (L2.CX K.P K.w) K.P K.w K.fr mg base N qual (defScope st) f cdv A outer s H E) (defBody st) t ∧ m = mapE (finR o m') ∧
        StX c (noneC N.length) t (argC ds N.length) m' (fun _ => noneC N.length) (fun _ => noneC N.length) (RetOf c rk)) :
    FnOk K.P K.w K.fr mg base (L2.CX K.P K.w) (k + 1) f fd ps (spM K mg rk Rm) := by
  refine Fn.okX S (fun vs H Q E h => ?_) (fun cdv A outer s H vs Q E hr h => ?_)
  · obtain ⟨F, ds, m, h1, _, h2, _⟩ := h
    rw [h2.length, len ds m h1]
  · obtain ⟨F, ds, m, h1, h2, h3, h4⟩ := h
    obtain ⟨t, m', p1, rfl, p3⟩ := hb cdv A outer s H E ⟨K, mg, F, H, H, fun cls d _ H' => E cls d H'⟩ ds m hr h1 rfl rfl rfl
    refine ⟨t, p1, ?_⟩
    have el := h3.length
    have ep := len _ _ h1
    refine p3 _ F H _ ?_ ?_
    · refine ⟨?_, h2, Ex.refl F, fun a q _ => q, Ex.refl H, fun a q => q, fun a _ q => q, fun i y e => ?_, fun i j b b' d e l _ hi => ?_⟩
      · show (vs.map some ++ List.replicate (N.length - vs.length) none).length = (ds.map (fun d => some (Cell.dat d)) ++ List.replicate (N.length - ds.length) none).length
        simp [el]
      · have e' : (ds.map (fun d => some (Cell.dat d)) ++ List.replicate (N.length - ds.length) none)[i]? = some (some y) := e
        by_cases hi : i < ds.length
        · rw [List.getElem?_append_left (by simpa using hi), List.getElem?_map, List.getElem?_eq_getElem hi] at e'
          cases e'
          obtain ⟨v, q1, q2⟩ := h3.getD (i := i) (List.getElem?_eq_getElem hi)
          refine ⟨v, ?_, q2⟩
          show (vs.map some ++ List.replicate (N.length - vs.length) none)[i]? = some (some v)
          rw [List.getElem?_append_left (by simp; omega), List.getElem?_map, q1]
          rfl
        · rw [List.getElem?_append_right (by simpa using hi), List.getElem?_replicate] at e'
          split at e' <;> cases e'
      · have e' : (ds.map (fun d => some (Cell.dat d)) ++ List.replicate (N.length - ds.length) none)[i]? = some (some (.own b d)) := hi
        by_cases hi : i < ds.length
        · rw [List.getElem?_append_left (by simpa using hi), List.getElem?_map, List.getElem?_eq_getElem hi] at e'
          cases e'
        · rw [List.getElem?_append_right (by simpa using hi), List.getElem?_replicate] at e'
          split at e' <;> cases e'
    · have h5 := wp_mapE.mp h4
      cases hm : m' with
      | error e =>
        rw [hm] at h5
        cases e with
        | stuck => exact h5.elim
        | exc n p => exact fun σ' F' H' cls d S' e => h5 F' H' cls d ⟨S'.exF0, S'.exG, S'.exF, fun a q1 q2 => S'.newF a q1 q2⟩ e
      | ok fl =>
        rw [hm] at h5
        cases fl with
        | nx n =>
          cases o with
          | none => exact h5.elim
          | some r =>
            obtain ⟨q1, q2⟩ := ho r rfl
            subst q2
            exact fun σ' F' H' S' => h5 .non F' H' ⟨S'.exF0, S'.exG, S'.exF, fun a q1 q2 => S'.newF a q1 q2⟩ (by
              show Rep K F' .non (enc r)
              rw [q1]
              exact .non)
        | bk b => exact h5.elim
        | ct b => exact h5.elim
        | rt r => exact fun v F' H' rb z => h5 v F' H' ⟨rb.exF0, rb.exG, rb.exF, fun a q1 q2 => rb.newF a q1 q2⟩ z
end HW

set_option Elab.async false
set_option linter.all false
set_option maxRecDepth 100000
set_option autoImplicit false
namespace HW
open PySem L2 PyProof.Rows
open Evl (Ex)

/-! ### dicts as lists of pairs -/
class KeyT (κ : Type) [Enc κ] where
  dec : DecidableEq κ
  key : κ → Key
  encK : ∀ k, enc k = keyD (key k)
  inj : ∀ {a b : κ}, key a = key b → a = b
  rep : ∀ {K : Kx} {F : Hp} {v : V} {a : κ}, Rep K F v (enc a) → v = kV (key a)
instance : KeyT Int where
  dec := inferInstance
  key := Sum.inl
  encK := fun _ => rfl
  inj := fun h => by injection h
  rep := fun h => repI_inv h
theorem txt_inj {a b : Txt} (h : (⟨a.cs.toArray⟩ : Str) = ⟨b.cs.toArray⟩) : a = b := by
  injection h with h
  have := congrArg Array.toList h
  simp at this
  cases a
  cases b
  simp_all
instance : KeyT Txt where
  dec := inferInstance
  key := fun t => Sum.inr ⟨t.cs.toArray⟩
  encK := fun t => by
    show D.str t.cs = D.str t.cs.toArray.toList
    simp
  inj := fun h => txt_inj (by injection h)
  rep := fun h => repS_inv h
theorem keyD_inj : ∀ {a b : Key}, keyD a = keyD b → a = b
  | .inl i, .inl j, h => by
    injection h with h
    rw [h]
  | .inr s, .inr t, h => by
    injection h with h
    cases s with
    | mk a =>
      cases t with
      | mk b =>
        have : a = b := by
          have h' : a.toList = b.toList := h
          exact Array.toList_inj.mp h'
        rw [this]
  | .inl _, .inr _, h => nomatch h
  | .inr _, .inl _, h => nomatch h
section
variable {κ α : Type}
@[reducible] def keq [Enc κ] [t : KeyT κ] (a b : κ) : Bool := @decide (a = b) (t.dec a b)
def lk [DecidableEq κ] (kvs : List (κ × α)) (k : κ) : Option α := (kvs.find? fun kv => decide (kv.1 = k)).map (·.2)
def pt [DecidableEq κ] (kvs : List (κ × α)) (k : κ) (v : α) : List (κ × α) :=
  if (kvs.any fun kv => decide (kv.1 = k)) = true then kvs.map (fun kv => if kv.1 = k then (kv.1, v) else kv) else kvs ++ [(k, v)]
end
/-- the pairs of a typed dict beside those in the heap -/
abbrev DR {κ α : Type} [Enc κ] [Enc α] [KeyT κ] (K : Kx) (F : Hp) (ds : List (κ × α)) (kvs : List (Key × V)) : Prop := Paired (fun (p : κ × α) (q : Key × V) => KeyT.key p.1 = q.1 ∧ Rep K F q.2 (enc p.2)) ds kvs
section
variable {κ α : Type} [Enc κ] [Enc α] [KeyT κ] {K : Kx} {F : Hp}
theorem DR.of : ∀ {ds : List (κ × α)} {kvs : List (Key × V)}, ds.map (fun kv => enc kv.1) = kvs.map (fun kv => keyD kv.1) → Reps K F (kvs.map (·.2)) (ds.map fun kv => enc kv.2) → DR K F ds kvs
  | [], [], _, _ => .nil
  | p :: ds, q :: kvs, h, .cons r rs => by
    have h' : enc p.1 :: ds.map (fun kv => enc kv.1) = keyD q.1 :: kvs.map (fun kv => keyD kv.1) := h
    injection h' with h1 h2
    rw [KeyT.encK] at h1
    exact .cons ⟨keyD_inj h1, r⟩ (DR.of h2 rs)
theorem DR.keys : ∀ {ds : List (κ × α)} {kvs : List (Key × V)}, DR K F ds kvs → ds.map (fun kv => enc kv.1) = kvs.map (fun kv => keyD kv.1)
  | _, _, .nil => rfl
  | p :: ds, q :: kvs, .cons r rs => by
    rw [List.map_cons, List.map_cons, DR.keys rs, KeyT.encK, r.1]
theorem DR.vals : ∀ {ds : List (κ × α)} {kvs : List (Key × V)}, DR K F ds kvs → Reps K F (kvs.map (·.2)) (ds.map fun kv => enc kv.2)
  | _, _, .nil => .nil
  | _, _, .cons r rs => .cons r.2 (DR.vals rs)
theorem DR.root {a : Addr} {ds : List (κ × α)} {kvs : List (Key × V)} (h : DR K F ds kvs) : Root K F a (.dK kvs) (enc (Dic.mk ds)) := .dK h.keys h.vals
theorem DR.mono {F' : Hp} (e : Ex F F') : ∀ {ds : List (κ × α)} {kvs : List (Key × V)}, DR K F ds kvs → DR K F' ds kvs
  | _, _, .nil => .nil
  | _, _, .cons r rs => .cons ⟨r.1, Rep.mono e r.2⟩ (DR.mono e rs)
theorem DR.len : ∀ {ds : List (κ × α)} {kvs : List (Key × V)}, DR K F ds kvs → ds.length = kvs.length
  | _, _, .nil => rfl
  | _, _, .cons _ rs => congrArg (· + 1) (DR.len rs)
variable [DecidableEq κ]
theorem DR.get (k : κ) : ∀ {ds : List (κ × α)} {kvs : List (Key × V)}, DR K F ds kvs → (lk ds k = none ∧ valV kvs (KeyT.key k) = none) ∨ ∃ a v, lk ds k = some a ∧ valV kvs (KeyT.key k) = some v ∧ Rep K F v (enc a)
  | [], [], .nil => .inl ⟨rfl, rfl⟩
  | p :: ds, q :: kvs, .cons r rs => by
    by_cases h : p.1 = k
    · refine .inr ⟨p.2, q.2, ?_, ?_, r.2⟩
      · simp [lk, h]
      · exact valV_pos (by rw [← r.1, h])
    · have h2 : ¬ q.1 = KeyT.key k := fun z => h (KeyT.inj (by rw [r.1, z]))
      have e1 : lk (p :: ds) k = lk ds k := by simp [lk, h]
      rw [e1, valV_neg h2]
      exact DR.get k rs
theorem DR.any (k : κ) : ∀ {ds : List (κ × α)} {kvs : List (Key × V)}, DR K F ds kvs → (ds.any fun kv => decide (kv.1 = k)) = (kvs.any fun kv => decide (kv.1 = KeyT.key k))
  | [], [], .nil => rfl
  | p :: ds, q :: kvs, .cons r rs => by
    have h : decide (p.1 = k) = decide (q.1 = KeyT.key k) := by
      rw [← r.1]
      by_cases h : p.1 = k
      · rw [decide_eq_true h, decide_eq_true (congrArg _ h)]
      · rw [decide_eq_false h, decide_eq_false fun z => h (KeyT.inj z)]
    rw [List.any_cons, List.any_cons, h, DR.any k rs]
theorem DR.rmap (k : κ) {a : α} {v : V} (ha : Rep K F v (enc a)) : ∀ {ds : List (κ × α)} {kvs : List (Key × V)}, DR K F ds kvs → DR K F (ds.map fun kv => if kv.1 = k then (kv.1, a) else kv) (kvs.map fun kv => if kv.1 = KeyT.key k then (kv.1, v) else kv)
  | [], [], .nil => .nil
  | p :: ds, q :: kvs, .cons r rs => by
    refine .cons ?_ (DR.rmap k ha rs)
    by_cases h : p.1 = k
    · have h2 : q.1 = KeyT.key k := by rw [← r.1, h]
      show KeyT.key (if p.1 = k then (p.1, a) else p).1 = (if q.1 = KeyT.key k then (q.1, v) else q).1 ∧ Rep K F (if q.1 = KeyT.key k then (q.1, v) else q).2 (enc (if p.1 = k then (p.1, a) else p).2)
      rw [if_pos h, if_pos h2]
      exact ⟨r.1, ha⟩
    · have h2 : ¬ q.1 = KeyT.key k := fun z => h (KeyT.inj (by rw [r.1, z]))
      show KeyT.key (if p.1 = k then (p.1, a) else p).1 = (if q.1 = KeyT.key k then (q.1, v) else q).1 ∧ Rep K F (if q.1 = KeyT.key k then (q.1, v) else q).2 (enc (if p.1 = k then (p.1, a) else p).2)
      rw [if_neg h, if_neg h2]
      exact r
theorem DR.app : ∀ {ds ds' : List (κ × α)} {kvs kvs' : List (Key × V)}, DR K F ds kvs → DR K F ds' kvs' → DR K F (ds ++ ds') (kvs ++ kvs')
  | _, _, _, _, .nil, s => s
  | _, _, _, _, .cons r rs, s => .cons r (DR.app rs s)
theorem DR.put (k : κ) {a : α} {v : V} (ha : Rep K F v (enc a)) {ds : List (κ × α)} {kvs : List (Key × V)} (h : DR K F ds kvs) : DR K F (pt ds k a) (putK kvs (KeyT.key k) v) := by
  unfold pt putK
  rw [h.any k]
  split
  · exact h.rmap k ha
  · exact h.app (.cons ⟨rfl, ha⟩ .nil)
end
def rLenD : List V → Hp → VK → Prop := (fun xs H Q => ∃ a kvs, xs = [V.ref a] ∧ H a = some (.dK kvs) ∧ Q (.int kvs.length) H : List V → Hp → VK → Prop)
theorem rootD_inv {κ α : Type} [Enc κ] [Enc α] [t : KeyT κ] {K : Kx} {F : Hp} {a : Addr} {o : HO} {d : Dic κ α} (h : Root K F a o (enc d)) : ∃ kvs, o = .dK kvs ∧ DR K F d.kvs kvs := by
  have h' : Root K F a o (.dct (d.kvs.map fun kv => enc kv.1) (d.kvs.map fun kv => enc kv.2)) := h
  cases h' with
  | dK h1 h2 => exact ⟨_, rfl, .of h1 h2⟩
section
variable {c : Cc} {xe env : Cells} {td ty tv tx : TE} {κ α γ : Type} [Enc κ] [Enc α] [KeyT κ] [DecidableEq κ]
def getD {κ α : Type} [DecidableEq κ] (d : Dic κ α) (k : κ) : M α :=
  match lk d.kvs k with
  | some v => .ok v
  | none => .error .stuck
theorem wp_getD {κ α : Type} [DecidableEq κ] {d : Dic κ α} {k : κ} {Qk : α → Prop} {Qx : String → List D → Prop} (w : WP (getD d k) Qk Qx) : ∃ x, lk d.kvs k = some x ∧ Qk x := by
  unfold getD at w
  cases h : lk d.kvs k with
  | none =>
    rw [h] at w
    exact w.elim
  | some x =>
    rw [h] at w
    exact ⟨x, rfl, w⟩
theorem dget_at {F H : Hp} {d : Dic κ α} {k : κ} {p : Addr} {o : HO} {y : V} (hp : H p = some o) (hr : Root c.K F p o (enc d)) (hk : Rep c.K F y (enc k)) :
    (lk d.kvs k = none ∧ DGet H p y none) ∨ ∃ a v, lk d.kvs k = some a ∧ DGet H p y (some v) ∧ Rep c.K F v (enc a) := by
  obtain ⟨kvs, rfl, r⟩ := rootD_inv hr
  have e := KeyT.rep hk
  subst e
  rcases r.get k with ⟨h1, h2⟩ | ⟨a, v, h1, h2, h3⟩
  · refine .inl ⟨h1, ?_⟩
    rw [← h2]
    exact DGet.k hp
  · refine .inr ⟨a, v, h1, ?_, h3⟩
    rw [← h2]
    exact DGet.k hp
/-- d[k] -/
theorem e_dget {md : M (Dic κ α)} {mk : M κ} (hd : EvP c .see td env md) (hk : EvP c .dat ty env mk) : EvP c .dat (tDGet td ty) env (M.bind md fun d => M.bind mk fun k => getD d k) := fun σ F H Q R w => by
  refine hd σ F H _ R ((wp_bind.mp w).imp (fun d w1 x F1 H1 g1 r1 => ?_) fun _ _ x => x)
  refine hk σ F1 H1 _ (R.g g1) ((wp_bind.mp w1).imp (fun k w2 y F2 H2 g2 r2 => ?_) fun _ _ x => x.grow g1)
  obtain ⟨p, o, rfl, hp, hr⟩ := r1.grow g2
  obtain ⟨z, hz, q⟩ := wp_getD w2
  rcases dget_at hp hr r2 with ⟨h1, _⟩ | ⟨a, v, h1, h2, h3⟩
  · rw [hz] at h1
    cases h1
  · rw [hz] at h1
    cases h1
    exact ⟨p, v, rfl, h2, q v F2 H2 (g1.trans g2) h3⟩
def hasD {κ α : Type} [DecidableEq κ] (d : Dic κ α) (k : κ) : Bool := (lk d.kvs k).isSome
/-- k in d -/
theorem e_din {md : M (Dic κ α)} {mk : M κ} (hk : EvP c .dat ty env mk) (hd : EvP c .see td env md) : EvP c .dat (tDIn ty td) env (M.bind mk fun k => M.bind md fun d => .ok (hasD d k)) := fun σ F H Q R w => by
  refine hk σ F H _ R ((wp_bind.mp w).imp (fun k w1 y F1 H1 g1 r1 => ?_) fun _ _ x => x)
  refine hd σ F1 H1 _ (R.g g1) ((wp_bind.mp w1).imp (fun d q x F2 H2 g2 r2 => ?_) fun _ _ x => x.grow g1)
  obtain ⟨p, o, rfl, hp, hr⟩ := r2
  rcases dget_at hp hr (Rep.mono g2.f r1) with ⟨h1, h2⟩ | ⟨a, v, h1, h2, h3⟩
  · refine ⟨p, none, rfl, h2, ?_⟩
    have e : hasD d k = (none : Option V).isSome := by unfold hasD; rw [h1]; rfl
    rw [← e]
    exact q _ F2 H2 (g1.trans g2) .bl
  · refine ⟨p, some v, rfl, h2, ?_⟩
    have e : hasD d k = (some v : Option V).isSome := by unfold hasD; rw [h1]; rfl
    rw [← e]
    exact q _ F2 H2 (g1.trans g2) .bl
theorem e_dnin {md : M (Dic κ α)} {mk : M κ} (hk : EvP c .dat ty env mk) (hd : EvP c .see td env md) : EvP c .dat (tDNotIn ty td) env (M.bind mk fun k => M.bind md fun d => .ok (!hasD d k)) := fun σ F H Q R w => by
  refine hk σ F H _ R ((wp_bind.mp w).imp (fun k w1 y F1 H1 g1 r1 => ?_) fun _ _ x => x)
  refine hd σ F1 H1 _ (R.g g1) ((wp_bind.mp w1).imp (fun d q x F2 H2 g2 r2 => ?_) fun _ _ x => x.grow g1)
  obtain ⟨p, o, rfl, hp, hr⟩ := r2
  rcases dget_at hp hr (Rep.mono g2.f r1) with ⟨h1, h2⟩ | ⟨a, v, h1, h2, h3⟩
  · refine ⟨p, none, rfl, h2, ?_⟩
    have e : (!hasD d k) = !(none : Option V).isSome := by unfold hasD; rw [h1]; rfl
    rw [← e]
    exact q _ F2 H2 (g1.trans g2) .bl
  · refine ⟨p, some v, rfl, h2, ?_⟩
    have e : (!hasD d k) = !(some v : Option V).isSome := by unfold hasD; rw [h1]; rfl
    rw [← e]
    exact q _ F2 H2 (g1.trans g2) .bl
/-- d.get(k, x) -/
theorem e_dget2 {md : M (Dic κ α)} {mk : M κ} {mx : M α} (hd : EvP c .see td env md) (hk : EvP c .dat ty env mk) (hx : EvP c .dat tx env mx) :
    EvP c .dat (tDGet2 td ty tx) env (M.bind md fun d => M.bind mk fun k => M.bind mx fun x => .ok ((lk d.kvs k).getD x)) := fun σ F H Q R w => by
  refine hd σ F H _ R ((wp_bind.mp w).imp (fun d w1 x F1 H1 g1 r1 => ?_) fun _ _ x => x)
  obtain ⟨p, o, rfl, hp, hr⟩ := r1
  obtain ⟨kvs, rfl, r⟩ := rootD_inv hr
  refine ⟨p, rfl, .inl ⟨kvs, .inl hp⟩, ?_⟩
  refine hk σ F1 H1 _ (R.g g1) ((wp_bind.mp w1).imp (fun k w2 y F2 H2 g2 r2 => ?_) fun _ _ x => x.grow g1)
  refine hx σ F2 H2 _ (R.g (g1.trans g2)) ((wp_bind.mp w2).imp (fun z q v F3 H3 g3 r3 => ?_) fun _ _ x => x.grow (g1.trans g2))
  have g23 := g2.trans g3
  rcases dget_at (c := c) (d := d) (k := k) (g23.h _ _ hp) (r.mono g23.f).root (Rep.mono g3.f r2) with ⟨h1, h2⟩ | ⟨a, v', h1, h2, h3⟩
  · refine ⟨none, h2, ?_⟩
    rw [h1] at q
    exact q v F3 H3 (g1.trans g23) r3
  · refine ⟨some v', h2, ?_⟩
    rw [h1] at q
    exact q v' F3 H3 (g1.trans g23) h3
/-- len(d) -/
theorem o_lenD : Op1 c .see .dat (fun x => rLenD [x]) (fun (d : Dic κ α) => .ok (d.kvs.length : Int)) := fun σ F H d x Q e r w => by
  obtain ⟨p, o, rfl, hp, hr⟩ := r
  obtain ⟨kvs, rfl, r⟩ := rootD_inv hr
  refine ⟨p, kvs, rfl, hp, ?_⟩
  rw [← r.len]
  exact w _ F H (.refl e) .int
variable {N B R : Type} {pn : N → Cells} {pb : B → Cells} {ret : RetP R} {u : TS} {i : Nat}
/-- d[k] = v -/
theorem s_dput {b : Bool} {d : Dic κ α} {mv : M α} {mk : M κ} {k : α → κ → M (Fl N B R)} (he : env[i]? = some (some (.own b (enc d)))) (hv : EvP c .dat tv env mv) (hk : EvP c .dat ty env mk) (hx : Le xe env)
    (hu : ∀ a x, StX c xe u (env.set i (some (.own b (enc (Dic.mk (pt d.kvs x a)))))) (k a x) pn pb ret) :
    StX c xe (tSeq (sDPut (tVar i) ty tv) u) env (M.bind mv fun a => M.bind mk fun x => chk (decide (d.kvs.length < LIM)) (k a x)) pn pb ret := fun σ F H Dn S w => by
  obtain ⟨v, h1, l, rfl, ⟨o, h3, h4⟩, h5, h6, h7⟩ := S.cell i _ he
  obtain ⟨kvs, rfl, r⟩ := rootD_inv h4
  refine hv σ F H _ S ((wp_bind.mp w).imp (fun a w1 va F1 H1 g1 r1 => ?_) fun n p x => x.xp S hx)
  refine ⟨_, h1, ?_⟩
  refine hk σ F1 H1 _ (S.g g1) ((wp_bind.mp w1).imp (fun x w2 y F2 H2 g2 r2 => ?_) fun n p x => x.xp (S.g g1) hx)
  have g := g1.trans g2
  obtain ⟨w3, w4⟩ := wp_chk w2
  have w3 := of_decide_eq_true w3
  have e := KeyT.rep (show Rep c.K F2 y (enc x) from r2)
  subst e
  refine ⟨l, _, rfl, DPut.k (g.h _ _ h3) (by rw [← r.len]; exact lim_line w3), ?_⟩
  exact hu a x σ F2 _ Dn ((S.g g).write he h1 ((r.mono g.f).put x (Rep.mono g2.f r1)).root) w4
/-- {k: v}: one pair -/
theorem e_disp1 {mk : M κ} {mv : M α} (hk : EvP c .dat ty env mk) (hv : EvP c .dat tv env mv) : EvP c .new (tDisp [(ty, tv)]) env (M.bind mk fun k => M.bind mv fun a => .ok (Dic.mk [(k, a)])) := fun σ F H Q R w => by
  intro p hp
  have R1 : RS c env σ F (upd H p (.dK [])) := R.made hp
  have g0 : Grow F H F (upd H p (.dK [])) := .made R.exF hp
  refine hk σ F _ _ R1 ((wp_bind.mp w).imp (fun k w1 y F1 H1 g1 r1 => ?_) fun n p x => x.grow g0)
  refine hv σ F1 H1 _ (R1.g g1) ((wp_bind.mp w1).imp (fun a q v F2 H2 g2 r2 => ?_) fun n p x => (x.grow g0).grow g1)
  have g := g1.trans g2
  have hp2 : H2 p = some (.dK []) := g.h _ _ upd_same
  have hF2 : F2 p = none := g.n p (ex_none R.exF hp) (by rw [upd_same]; simp)
  refine ⟨hp2, [(KeyT.key k, v)], ?_, by show 1 ≤ 15; decide, ?_⟩
  · rw [KeyT.rep (show Rep c.K F1 y (enc k) from r1)]
    rfl
  · have r : DR c.K F2 [(k, a)] [(KeyT.key k, v)] := .cons ⟨rfl, r2⟩ .nil
    have g3 := g0.trans g
    exact q _ F2 _ ⟨g3.f, Ex.mut g3.h hp, Ex.mut g.fh hF2, g3.n⟩ ⟨p, _, rfl, hp, upd_same, hF2, r.root⟩
end
end HW

set_option Elab.async false
set_option linter.all false
set_option maxRecDepth 100000
set_option autoImplicit false
namespace HW
open PySem L2 PyProof.Rows
open Evl (Ex)

/-! ### expressions that write an owned root (by a call); what they give is frozen -/
def EvX (c : Cc) (xe : Cells) (te : TE) (env : Cells) {S α : Type} [Enc α] (m : M (S × α)) (post : S → Cells) : Prop :=
  ∀ σ F H Q, RS c env σ F H → WP m (fun sa => ∀ v F' H', RS c (post sa.1) σ F' H' → Ex F F' → Rep c.K F' v (enc sa.2) → Q v H') (XE c xe) → te σ H Q
def EvXT (c : Cc) (xe : Cells) (tt : TT) (env : Cells) {S : Type} (m : M (S × Bool)) (post : S → Cells) : Prop :=
  ∀ σ F H Q, RS c env σ F H → WP m (fun sb => ∀ F' H', RS c (post sb.1) σ F' H' → Ex F F' → Q sb.2 H') (XE c xe) → tt σ H Q
def EvXIt (c : Cc) (xe : Cells) (wi : TI) (env : Cells) {S α : Type} [Enc α] (m : M (S × List α)) (post : S → Cells) : Prop :=
  ∀ σ F H R, RS c env σ F H → WP m (fun xs => ∀ J F' H', RS c (post xs.1) σ F' H' → Ex F F' → xs.2.length ≤ sizeLine → ItIs c F' J (xs.2.map enc) → R J H') (XE c xe) → wi σ H R
def EvXAs (c : Cc) (xe : Cells) (ta : TA) (env : Cells) {S : Type} (m : M (S × List D)) (post : S → Cells) : Prop :=
  ∀ σ F H Q, RS c env σ F H → WP m (fun sa => ∀ vs F' H', RS c (post sa.1) σ F' H' → Ex F F' → Reps c.K F' vs sa.2 → Q vs H') (XE c xe) → ta σ H Q
theorem Op2.lookL {c : Cc} {k2 k : RK} {r : R2} {α β γ : Type} [Enc α] [Enc β] [Enc γ] {f : List α → β → M γ} (h : Op2 c .see k2 k r f) : Op2 c .dat k2 k r f := fun σ F H a b x y Q e r1 r2 w => by
  refine h σ F H a b x y Q e ?_ r2 w
  obtain ⟨p, xs, rfl, h1, h2⟩ := repL_inv (show Rep c.K F x (.lst (a.map enc)) from r1)
  exact ⟨p, _, rfl, e _ _ h1, .lst h2⟩
theorem Op1.lookL {c : Cc} {k : RK} {r : V → Hp → VK → Prop} {α γ : Type} [Enc α] [Enc γ] {f : List α → M γ} (h : Op1 c .see k r f) : Op1 c .dat k r f := fun σ F H a x Q e r1 w => by
  refine h σ F H a x Q e ?_ w
  obtain ⟨p, xs, rfl, h1, h2⟩ := repL_inv (show Rep c.K F x (.lst (a.map enc)) from r1)
  exact ⟨p, _, rfl, e _ _ h1, .lst h2⟩
section
variable {c : Cc} {xe env : Cells} {te ta tb : TE} {tt : TT} {S S1 S2 α β γ : Type} [Enc α] [Enc β] [Enc γ]
theorem x_pure {m : M α} {post : S → Cells} (s : S) (h : EvP c .dat te env m) (hp : post s = env) (hx : Le xe env) : EvX c xe te env (M.bind m fun a => .ok (s, a)) post := fun σ F H Q R w =>
  h σ F H Q R ((wp_bind.mp w).imp (fun a q v F' H' g r => q v F' H' (by rw [hp]; exact R.g g) g.f r) fun n p x => x.xp R hx)
theorem x_cv {m m' : M (S × α)} {post : S → Cells} (h : EvX c xe te env m post) (e : m = m') : EvX c xe te env m' post := e ▸ h
theorem xe_exc {σ : L2.St} {F H : Hp} {n : String} {p : List D} (x : XE c xe n p) (R : RS c env σ F H) (l : Le xe env) : XP c σ F H n p := x.xp R l
theorem x_op {r : R2} {ma : M (S1 × α)} {pa : S1 → Cells} {mb : S1 → M (S2 × β)} {pb : S2 → Cells} {f : α → β → M γ} (ha : EvX c xe ta env ma pa) (hb : ∀ s, EvX c xe tb (pa s) (mb s) pb) (ho : Op2 c .dat .dat .dat r f) (hx : ∀ s, Le xe (pb s)) :
    EvX c xe (tOp r ta tb) env (M.bind ma fun sa => M.bind (mb sa.1) fun sb => M.bind (f sa.2 sb.2) fun z => .ok (sb.1, z)) pb := fun σ F H Q R w => by
  refine ha σ F H _ R ((wp_bind.mp w).imp (fun sa w1 x F1 H1 R1 e1 r1 => ?_) fun _ _ x => x)
  refine hb sa.1 σ F1 H1 _ R1 ((wp_bind.mp w1).imp (fun sb w2 y F2 H2 R2 e2 r2 => ?_) fun _ _ x => x)
  exact ho σ F2 H2 sa.2 sb.2 x y Q R2.exF (Rep.mono e2 r1) r2 ((wp_bind.mp w2).imp (fun d q v F' H' g r => q v F' H' (R2.g g) (e1.trans (e2.trans g.f)) r) fun n p x => x.xp R2 (hx sb.1))
theorem x_un {r : V → Hp → VK → Prop} {ma : M (S × α)} {pa : S → Cells} {f : α → M γ} (ha : EvX c xe ta env ma pa) (ho : Op1 c .dat .dat r f) (hx : ∀ s, Le xe (pa s)) :
    EvX c xe (tUn r ta) env (M.bind ma fun sa => M.bind (f sa.2) fun z => .ok (sa.1, z)) pa := fun σ F H Q R w => by
  refine ha σ F H _ R ((wp_bind.mp w).imp (fun sa w1 x F1 H1 R1 e1 r1 => ?_) fun _ _ x => x)
  exact ho σ F1 H1 sa.2 x Q R1.exF r1 ((wp_bind.mp w1).imp (fun d q v F' H' g r => q v F' H' (R1.g g) (e1.trans g.f) r) fun n p x => x.xp R1 (hx sa.1))
theorem x_cb1 {r : List V → Hp → VK → Prop} {ma : M (S × α)} {pa : S → Cells} {f : α → M γ} (ha : EvX c xe ta env ma pa) (ho : Op1 c .dat .dat (fun x => r [x]) f) (hx : ∀ s, Le xe (pa s)) :
    EvX c xe (tCB r (tCons ta tNil)) env (M.bind ma fun sa => M.bind (f sa.2) fun z => .ok (sa.1, z)) pa := x_un (r := fun x => r [x]) ha ho hx
theorem xt_val {m : M (S × Bool)} {post : S → Cells} (h : EvX c xe te env m post) : EvXT c xe (tTest te) env m post := fun σ F H Q R w => h σ F H _ R (w.imp (fun sb q v F' H' R' e r => by
  have r' : Rep c.K F' v (D.bl sb.2) := r
  have z := repB_inv r'
  exact ⟨sb.2, z, q F' H' R' e⟩) fun _ _ x => x)
theorem xa_nil {post : S → Cells} (s : S) (hp : post s = env) : EvXAs c xe tNil env (.ok (s, [])) post := fun σ F H Q R w => w [] F H (by rw [hp]; exact R) (Ex.refl F) .nil
theorem xa_cons {ma : M (S1 × α)} {pa : S1 → Cells} {tr : TA} {ms : S1 → M (S2 × List D)} {pb : S2 → Cells} (ha : EvX c xe ta env ma pa) (hr : ∀ s, EvXAs c xe tr (pa s) (ms s) pb) :
    EvXAs c xe (tCons ta tr) env (M.bind ma fun sa => M.bind (ms sa.1) fun sd => .ok (sd.1, enc sa.2 :: sd.2)) pb := fun σ F H Q R w => by
  refine ha σ F H _ R ((wp_bind.mp w).imp (fun sa w1 x F1 H1 R1 e1 r1 => ?_) fun _ _ x => x)
  refine hr sa.1 σ F1 H1 _ R1 ((wp_bind.mp w1).imp (fun sd q vs F2 H2 R2 e2 r2 => ?_) fun _ _ x => x)
  exact q (x :: vs) F2 H2 R2 (e1.trans e2) (.cons (Rep.mono e2 r1) r2)
theorem x_tup2 {ma : M (S1 × α)} {pa : S1 → Cells} {mb : S1 → M (S2 × β)} {pb : S2 → Cells} (ha : EvX c xe ta env ma pa) (hb : ∀ s, EvX c xe tb (pa s) (mb s) pb) :
    EvX c xe (tTup (tCons ta (tCons tb tNil))) env (M.bind ma fun sa => M.bind (mb sa.1) fun sb => .ok (sb.1, (sa.2, sb.2))) pb := fun σ F H Q R w => by
  refine ha σ F H _ R ((wp_bind.mp w).imp (fun sa w1 x F1 H1 R1 e1 r1 => ?_) fun _ _ x => x)
  refine hb sa.1 σ F1 H1 _ R1 ((wp_bind.mp w1).imp (fun sb q y F2 H2 R2 e2 r2 => ?_) fun _ _ x => x)
  refine ⟨by show 2 ≤ sizeLine; decide, fun p hp => ?_⟩
  have e : Ex F2 (upd F2 p (.tup [x, y])) := Ex.new (ex_none R2.exF hp)
  exact q _ _ _ (R2.g (.laid R2.exF hp)) (e1.trans (e2.trans e)) (.tup upd_same (.cons (Rep.mono (e2.trans e) r1) (.cons (Rep.mono e r2) .nil)))
/-- if, the branches pure or not -/
theorem x_if {mb : M (S1 × Bool)} {pa : S1 → Cells} {m1 m2 : S1 → M (S2 × α)} {pb : S2 → Cells} (h : EvXT c xe tt env mb pa) (h1 : ∀ s, EvX c xe ta (pa s) (m1 s) pb) (h2 : ∀ s, EvX c xe tb (pa s) (m2 s) pb) :
    EvX c xe (tIf tt ta tb) env (M.bind mb fun sb => if sb.2 = true then m1 sb.1 else m2 sb.1) pb := fun σ F H Q R w => by
  refine h σ F H _ R ((wp_bind.mp w).imp (fun sb w1 F1 H1 R1 e1 => ?_) fun _ _ x => x)
  obtain ⟨s, b⟩ := sb
  cases b with
  | true => exact h1 s σ F1 H1 Q R1 (WP.imp w1 (fun sa q v F' H' R' e r => q v F' H' R' (e1.trans e) r) fun _ _ x => x)
  | false => exact h2 s σ F1 H1 Q R1 (WP.imp w1 (fun sa q v F' H' R' e r => q v F' H' R' (e1.trans e) r) fun _ _ x => x)
/-- iterables -/
theorem xi_pure {wi : TI} {m : M (List α)} {post : S → Cells} (s : S) (h : EvIt c wi env m) (hp : post s = env) (hx : Le xe env) : EvXIt c xe wi env (M.bind m fun a => .ok (s, a)) post := fun σ F H Q R w =>
  h σ F H Q R ((wp_bind.mp w).imp (fun a q J F' H' g z r => q J F' H' (by rw [hp]; exact R.g g) g.f z r) fun n p x => x.xp R hx)
theorem xi_rng1 {m : M (S × Int)} {post : S → Cells} (h : EvX c xe te env m post) : EvXIt c xe (iRng1 (tCons te tNil)) env (M.bind m fun sn => chk (rngB 0 sn.2) (.ok (sn.1, rng 0 sn.2))) post := fun σ F H R S w => h σ F H _ S ((wp_bind.mp w).imp (fun sn q v F' H' R' e r => by
  have e1 := repI_inv (show Rep c.K F' v (.int sn.2) from r)
  obtain ⟨w1, w2⟩ := wp_chk q
  have w1 := of_decide_eq_true w1
  refine ⟨sn.2, by rw [e1], by omega, by omega, ?_⟩
  have e2 : (sn.2 - 0).toNat = sn.2.toNat := by omega
  have z : ItIs c F' (Itr 0 (sn.2 - 0).toNat) ((rng 0 sn.2).map enc) := itis_rng
  rw [e2] at z
  refine w2 _ F' H' R' e ?_ z
  rw [rng_len]
  exact lim_le (by show _ ≤ 4000000; omega)) fun _ _ x => x)
end
/-! ### comprehensions whose elements write -/
def lcX {S α β : Type} (me : S → α → M (S × β)) : List α → S → M (S × List β)
  | [], s => .ok (s, [])
  | x :: xs, s => (noX (me s x)).bind fun sy => (lcX me xs sy.1).bind fun r => .ok (r.1, sy.2 :: r.2)
abbrev Cc.at_ (c : Cc) (F0 G : Hp) : Cc := { c with F0 := F0, G := G, W := fun _ _ _ _ => False }
def NoneAt (env : Cells) (vs : List Nat) : Prop := (vs.all fun i => match env[i]? with | some (some _) => false | _ => true) = true
theorem NoneAt.at {env : Cells} {vs : List Nat} (h : NoneAt env vs) : ∀ i ∈ vs, ∀ x, env[i]? ≠ some (some x) := fun i hi x e => by
  have := List.all_eq_true.mp h i hi
  rw [e] at this
  cases this
theorem RS.unwipe {c : Cc} {env : Cells} {σ : L2.St} {F H : Hp} {vs : List Nat} (R : RS c env (wipe σ vs) F H) (h : NoneAt env vs) : RS c env σ F H where
  len := by rw [← R.len, wipe_length]
  exF := R.exF
  exF0 := R.exF0
  newF := R.newF
  exG := R.exG
  grow := R.grow
  gF := R.gF
  cell := fun i x e => by
    obtain ⟨v, h1, h2⟩ := R.cell i x e
    exact ⟨v, (wipe_some h1).1, h2⟩
  dist := fun i j b b' d e l n hi hj h1 h2 => by
    have z : ∀ (k : Nat) (y : Cell), env[k]? = some (some y) → (wipe σ vs)[k]? = σ[k]? := fun k y hk => wipe_out fun hm => h.at k hm y hk
    exact R.dist i j b b' d e l n hi hj (by rw [z i _ hi]; exact h1) (by rw [z j _ hj]; exact h2)
theorem RS.wipeN {c : Cc} {env : Cells} {σ : L2.St} {F H : Hp} {vs : List Nat} (R : RS c env σ F H) (h : NoneAt env vs) : RS c env (wipe σ vs) F H where
  len := by rw [wipe_length]; exact R.len
  exF := R.exF
  exF0 := R.exF0
  newF := R.newF
  exG := R.exG
  grow := R.grow
  gF := R.gF
  cell := fun i x e => by
    obtain ⟨v, h1, h2⟩ := R.cell i x e
    exact ⟨v, by rw [wipe_out fun hm => h.at i hm x e]; exact h1, h2⟩
  dist := fun i j b b' d e l n hi hj h1 h2 => by
    have z : ∀ (k : Nat) (y : Cell), env[k]? = some (some y) → (wipe σ vs)[k]? = σ[k]? := fun k y hk => wipe_out fun hm => h.at k hm y hk
    exact R.dist i j b b' d e l n hi hj (by rw [← z i _ hi]; exact h1) (by rw [← z j _ hj]; exact h2)
theorem tYes_if {σ : L2.St} {H : Hp} {A B : Hp → Prop} (h : A H) : tYes σ H (fun b H3 => if b = true then A H3 else B H3) := by
  show (if true = true then A H else B H)
  rw [if_pos rfl]
  exact h
theorem RS.at_ {c : Cc} {env : Cells} {σ : L2.St} {F F1 H : Hp} {P : Addr} {o : HO} (R : RS c env σ F H) (e : Ex F1 F) (e0 : Ex c.F0 F1) (hP : H P = some o) (hF : F P = none) (hG : c.G P = none)
    (hn : ∀ (i : Nat) (b : Bool) (d : D), env[i]? = some (some (.own b d)) → σ[i]? ≠ some (some (.ref P))) : RS (c.at_ F1 (upd c.G P o)) env σ F H where
  len := R.len
  exF := R.exF
  exF0 := e
  newF := fun a h1 h2 => R.newF a (ex_none e0 h1) h2
  exG := fun a u h => by
    have h' : upd c.G P o a = some u := h
    by_cases q : a = P
    · subst q
      rw [upd_same] at h'
      cases h'
      exact hP
    · rw [upd_ne q] at h'
      exact R.exG a u h'
  grow := R.grow
  gF := fun a h1 h2 => by
    have h1' : upd c.G P o a ≠ none := h1
    by_cases q : a = P
    · subst q
      exact hF
    · rw [upd_ne q] at h1'
      exact R.gF a h1' (ex_none e0 h2)
  cell := fun i x h => by
    obtain ⟨v, h1, h2⟩ := R.cell i x h
    refine ⟨v, h1, ?_⟩
    cases x with
    | dat d => exact h2
    | own b d =>
      obtain ⟨l, h3, h4, h5, h6, h7⟩ := h2
      refine ⟨l, h3, h4, h5, ?_, h7⟩
      have q : l ≠ P := fun z => hn i b d h (by rw [h1, h3, z])
      show upd c.G P o l = none
      rw [upd_ne q]
      exact h6
  dist := R.dist
theorem RS.ofat {c : Cc} {env : Cells} {σ : L2.St} {F F1 H H1 : Hp} {P : Addr} {o : HO} (b : RB c F1 H1) (hG : c.G P = none) (R : RS (c.at_ F1 (upd c.G P o)) env σ F H) : RS c env σ F H where
  len := R.len
  exF := R.exF
  exF0 := b.exF0.trans R.exF0
  newF := fun a h1 h2 => R.newF a (b.newF a h1 h2) h2
  exG := fun a u h => R.exG a u (by
    show upd c.G P o a = some u
    rw [upd_ne (ne_of_none h hG)]
    exact h)
  grow := R.grow
  gF := fun a h1 h2 => R.gF a (by
    show upd c.G P o a ≠ none
    have q : a ≠ P := fun z => h1 (by rw [z]; exact hG)
    rw [upd_ne q]
    exact h1) (b.gF a h1 h2)
  cell := fun i x h => by
    obtain ⟨v, h1, h2⟩ := R.cell i x h
    refine ⟨v, h1, ?_⟩
    cases x with
    | dat d => exact h2
    | own b' d =>
      obtain ⟨l, h3, h4, h5, h6, h7⟩ := h2
      refine ⟨l, h3, h4, h5, ?_, h7⟩
      have h6' : upd c.G P o l = none := h6
      by_cases q : l = P
      · subst q
        rw [upd_same] at h6'
        cases h6'
      · rw [upd_ne q] at h6'
        exact h6'
  dist := R.dist
theorem RS.poke {c : Cc} {env : Cells} {σ : L2.St} {F H : Hp} {P : Addr} {o : HO} (R : RS c env σ F H) (hF : F P = none) (hG : c.G P = none)
    (hn : ∀ (i : Nat) (b : Bool) (d : D), env[i]? = some (some (.own b d)) → σ[i]? ≠ some (some (.ref P))) : RS c env σ F (upd H P o) where
  len := R.len
  exF := fun a u e => by
    rw [upd_ne (ne_of_none e hF)]
    exact R.exF a u e
  exF0 := R.exF0
  newF := R.newF
  exG := fun a u e => by
    rw [upd_ne (ne_of_none e hG)]
    exact R.exG a u e
  grow := fun a h => by
    by_cases q : a = P
    · subst q
      rw [upd_same] at h
      cases h
    · rw [upd_ne q] at h
      exact R.grow a h
  gF := R.gF
  cell := fun i x h => by
    obtain ⟨v, h1, h2⟩ := R.cell i x h
    refine ⟨v, h1, ?_⟩
    cases x with
    | dat d => exact h2
    | own b d =>
      obtain ⟨l, h3, ⟨o', h4, h4'⟩, h5, h6, h7⟩ := h2
      have q : l ≠ P := fun z => hn i b d h (by rw [h1, h3, z])
      exact ⟨l, h3, ⟨o', by rw [upd_ne q]; exact h4, h4'⟩, h5, h6, h7⟩
  dist := R.dist
section
variable {c : Cc} {xe env : Cells} {te : TE} {wi : TI} {g : TG} {vs : List Nat} {S α β : Type} [Enc α] [Enc β]
theorem x_lc {mxs : M (S × List α)} {ps : S → Cells} {me : S → α → M (S × β)} {f : α → Cells → Cells} {xi : Cells} (hi : EvXIt c xe wi env mxs ps) (ht : ∀ c', c'.K = c.K → TgIs c' g vs f)
    (he : ∀ F0 G s x, EvX (c.at_ F0 G) xi te (f x (ps s)) (me s x) (fun s' => f x (ps s'))) (hn : ∀ s, NoneAt (ps s) vs) (hl : ∀ s x, Le (ps s) (f x (ps s))) :
    EvX c xe (tLc wi g tYes te vs) env (M.bind mxs fun sx => lcX me sx.2 sx.1) ps := fun σ F H Q R w => by
  refine hi σ F H _ R ((wp_bind.mp w).imp (fun sx w1 J F1 H1 R1 e1 hz it D hD => ?_) fun _ _ x => x)
  obtain ⟨s0, xs⟩ := sx
  obtain ⟨G, Y, wk, hG, hY⟩ := it
  have e : (xs.map enc).length = xs.length := List.length_map _
  rw [e] at wk
  have hGD : c.G D = none := ex_none R1.exG hD
  have hFD1 : F1 D = none := ex_none R1.exF hD
  refine lc_it wk (fun i H' => i ≤ xs.length ∧ ∃ F' s acc ys, RS (c.at_ F1 (upd c.G D (.lst acc))) (ps s) (wipe σ vs) F' H' ∧ acc.length ≤ i ∧ Reps c.K F' acc (ys.map enc) ∧
    WP (lcX me (xs.drop i) s) (fun zs => ∀ v F' H', RS c (ps zs.1) σ F' H' → Ex F F' → Rep c.K F' v (enc (ys ++ zs.2)) → Q v H') (XE c xe)) ?_ ?_ ?_ ?_
  · refine ⟨Nat.zero_le _, F1, s0, [], [], ?_, Nat.le_refl _, .nil, w1⟩
    refine RS.at_ ((R1.made hD).wipeN (hn s0)) (Ex.refl F1) R1.exF0 upd_same hFD1 hGD fun i b d hi hs => ?_
    obtain ⟨v', k1, l', k2, ⟨o', k4, _⟩, _⟩ := (R1.wipeN (hn s0)).cell i _ hi
    rw [hs] at k1
    cases k1
    cases k2
    rw [hD] at k4
    cases k4
  · rintro i H' _ ⟨_, F', s, acc, ys, R2, _⟩
    exact hG H' (R2.exF0.trans R2.exF)
  · rintro i x H' H2 hlt ⟨_, F', s, acc, ys, R2, hle, hr, hw⟩ hy
    have hx : xs[i]? = some xs[i] := List.getElem?_eq_getElem hlt
    obtain ⟨F2, g3, r3⟩ := hY i (enc xs[i]) H' x H2 (by rw [List.getElem?_map, hx]; rfl) hy F' R2.exF0 R2.exF
    refine ht (c.at_ F1 (upd c.G D (.lst acc))) rfl xs[i] x _ _ F2 H2 _ (R2.g g3) r3 fun σ' R3 hwp => ⟨by rw [hwp, wipe_wipe], ?_⟩
    rw [drop_cons hlt] at hw
    refine tYes_if ?_
    have R3' : RS (c.at_ F2 (upd c.G D (.lst acc))) (f xs[i] (ps s)) σ' F2 H2 := ⟨R3.len, R3.exF, Ex.refl F2, fun a h _ => h, R3.exG, R3.grow, fun a _ h => h, R3.cell, R3.dist⟩
    refine he F2 _ s xs[i] σ' F2 H2 _ R3' ((wp_noX (wp_bind.mp hw)).imp (fun sy hw2 y F4 H4 R4 e4 r4 => ?_) fun _ _ z => z)
    have hD4 : H4 D = some (.lst acc) := R4.exG D _ upd_same
    have hF2D : F2 D = none := R3.gF D (by show upd c.G D (.lst acc) D ≠ none; rw [upd_same]; simp) hFD1
    have hF4D : F4 D = none := R4.gF D (by show upd c.G D (.lst acc) D ≠ none; rw [upd_same]; simp) hF2D
    have b1 : RB c F1 H1 := R1.rb
    -- back to the outer state, the new item behind
    have R4a : RS (c.at_ F2 (upd c.G D (.lst acc))) (ps sy.1) σ' F4 H4 := R4.weak (hl sy.1 xs[i])
    have own : ∀ (i : Nat) (b : Bool) (d : HW.D), (ps sy.1)[i]? = some (some (.own b d)) → σ'[i]? ≠ some (some (.ref D)) := fun j b d hj hs => by
      obtain ⟨v', k1, l', k2, _, _, k5, _⟩ := R4a.cell j _ hj
      rw [hs] at k1
      cases k1
      cases k2
      have k5' : upd c.G D (.lst acc) D = none := k5
      rw [upd_same] at k5'
      cases k5'
    have eF : Ex F1 F2 := R2.exF0.trans g3.f
    have b2 : RB c F2 H2 := ⟨R3.exF, b1.exF0.trans eF, fun a h1 h2 => R3.newF a (b1.newF a h1 h2) h2, fun a u h => R3.exG a u (by
      show upd c.G D (.lst acc) a = some u
      rw [upd_ne (ne_of_none h hGD)]
      exact h), R3.grow, fun a h1 h2 => R3.gF a (by
      show upd c.G D (.lst acc) a ≠ none
      have q : a ≠ D := fun z => h1 (by rw [z]; exact hGD)
      rw [upd_ne q]
      exact h1) (b1.gF a h1 h2)⟩
    have R5 : RS c (ps sy.1) σ' F4 H4 := RS.ofat b2 hGD R4a
    have R6 : RS c (ps sy.1) σ' F4 (upd H4 D (.lst (acc ++ [y]))) := R5.poke hF4D hGD own
    have R7 : RS (c.at_ F1 (upd c.G D (.lst (acc ++ [y])))) (ps sy.1) σ' F4 (upd H4 D (.lst (acc ++ [y]))) := R6.at_ (eF.trans e4) b1.exF0 upd_same hF4D hGD own
    have R8 := R7.wipeN (hn sy.1)
    rw [hwp, wipe_wipe] at R8
    have hz' : xs.length ≤ sizeLine := hz
    refine ⟨acc, hD4, by omega, by omega, F4, sy.1, acc ++ [y], ys ++ [sy.2], R8, by simp; omega, ?_, ?_⟩
    · rw [List.map_append]
      exact (Reps.mono (g3.f.trans e4) hr).append (.cons r4 .nil)
    · refine (wp_bind.mp hw2).imp (fun zs q => ?_) fun _ _ z => z
      have q' : ∀ v F' H', RS c (ps zs.1) σ F' H' → Ex F F' → Rep c.K F' v (enc (ys ++ sy.2 :: zs.2)) → Q v H' := q
      rw [show ys ++ sy.2 :: zs.2 = (ys ++ [sy.2]) ++ zs.2 by simp] at q'
      exact q'
  · rintro H' ⟨_, F', s, acc, ys, R2, hle, hr, hw⟩
    rw [List.drop_eq_nil_of_le (Nat.le_refl _)] at hw
    have q : ∀ v F' H', RS c (ps s) σ F' H' → Ex F F' → Rep c.K F' v (enc (ys ++ [])) → Q v H' := hw
    rw [List.append_nil] at q
    have hD' : H' D = some (.lst acc) := R2.exG D _ upd_same
    have hFD : F' D = none := R2.gF D (by show upd c.G D (.lst acc) D ≠ none; rw [upd_same]; simp) hFD1
    have R3 : RS c (ps s) (wipe σ vs) F' H' := RS.ofat R1.rb hGD R2
    have R4 : RS c (ps s) (wipe σ vs) (upd F' D (.lst acc)) H' := R3.frozen hD' hFD (R1.grow D hD) hGD fun j b d hj hs => by
      obtain ⟨v', k1, l', k2, _, _, k5, _⟩ := R2.cell j _ hj
      rw [hs] at k1
      cases k1
      cases k2
      have k5' : upd c.G D (.lst acc) D = none := k5
      rw [upd_same] at k5'
      cases k5'
    have en : Ex F' (upd F' D (.lst acc)) := Ex.new hFD
    exact q _ _ H' (R4.unwipe (hn s)) (e1.trans (R2.exF0.trans en)) (.lst upd_same (Reps.mono en hr))
end
/-! ### a def that writes its first argument, a list of the caller's -/
structure GrowIO (l : Addr) (F H F' H' : Hp) : Prop where
  f : Ex F F'
  fh : Ex F' H'
  h : ∀ a o, H a = some o → a ≠ l → H' a = some o
  g : ∀ a, H' a = none → H a = none
  n : ∀ a, F a = none → H a ≠ none → F' a = none
def spIO (K : Kx) (Rm : D → List D → M (D × D) → Prop) : Sp := fun vs H Q _ => ∃ (F : Hp) (l : Addr) (o : HO) (d0 : D) (vs' : List V) (ds : List D) (m : M (D × D)), vs = .ref l :: vs' ∧ H l = some o ∧ F l = none ∧ Root K F l o d0 ∧ Ex F H ∧ Reps K F vs' ds ∧ Rm d0 ds m ∧
  WP m (fun rd => ∀ v o' F' H', GrowIO l F H F' H' → H' l = some o' → F' l = none → Root K F' l o' rd.1 → Rep K F' v rd.2 → Q v H') (fun _ _ => False)
def mapE2 {T α : Type} [Enc T] [Enc α] (m : M (T × α)) : M (D × D) := M.bind m fun a => .ok (enc a.1, enc a.2)
theorem RS.io {c : Cc} {env : Cells} {σ : L2.St} {F H F' H' : Hp} {i : Nat} {l : Addr} {b : Bool} {d d' : D} {o' : HO} (R : RS c env σ F H) (he : env[i]? = some (some (.own b d))) (hs : σ[i]? = some (some (.ref l))) (g : GrowIO l F H F' H')
    (h1 : H' l = some o') (h2 : F' l = none) (r : Root c.K F' l o' d') : RS c (env.set i (some (.own b d'))) σ F' H' := by
  have hl : i < env.length := (List.getElem?_eq_some_iff.mp he).1
  obtain ⟨v, k1, l', k2, ⟨o, k3, k4⟩, k5, k6, k7⟩ := R.cell i _ he
  rw [hs] at k1
  cases k1
  cases k2
  refine ⟨by rw [List.length_set]; exact R.len, g.fh, R.exF0.trans g.f, fun a q1 q2 => g.n a (R.newF a q1 q2) fun z => q2 (R.grow a z), fun a u q => g.h a u (R.exG a u q) (ne_of_none q k6), fun a q => R.grow a (g.g a q),
    fun a q1 q2 => g.n a (R.gF a q1 q2) fun z => q1 (ex_none R.exG z), fun j x e => ?_, fun a b' k k' d1 d2 m n ha hb q => ?_⟩
  · by_cases q : i = j
    · subst q
      rw [List.getElem?_set_self hl] at e
      cases e
      exact ⟨.ref l, hs, l, rfl, ⟨o', h1, r⟩, h2, k6, k7⟩
    · rw [List.getElem?_set_ne q] at e
      obtain ⟨v, q1, q2⟩ := R.cell j x e
      refine ⟨v, q1, ?_⟩
      cases x with
      | dat d => exact Rep.mono g.f q2
      | own b2 d2 =>
        obtain ⟨m, rfl, ⟨ob, q3, q4⟩, q5, q6, q7⟩ := q2
        have z : m ≠ l := fun z => by
          subst z
          exact R.dist i j b b2 d d2 m q he e hs q1
        exact ⟨m, rfl, ⟨ob, g.h _ _ q3 z, q4.mono g.f⟩, g.n m q5 (by rw [q3]; simp), q6, q7⟩
  · have fa : ∃ k1' d1', env[a]? = some (some (.own k1' d1')) := by
      by_cases q : i = a
      · subst q
        exact ⟨b, d, he⟩
      · rw [List.getElem?_set_ne q] at ha
        exact ⟨k, d1, ha⟩
    have fb : ∃ k2' d2', env[b']? = some (some (.own k2' d2')) := by
      by_cases q : i = b'
      · subst q
        exact ⟨b, d, he⟩
      · rw [List.getElem?_set_ne q] at hb
        exact ⟨k', d2, hb⟩
    obtain ⟨k1', d1', fa⟩ := fa
    obtain ⟨k2', d2', fb⟩ := fb
    exact R.dist a b' k1' k2' d1' d2' m n fa fb q
section
variable {c : Cc} {xe env : Cells} {T γ : Type} [Enc T] [Enc γ]
theorem x_callG {ta : TA} {ms : M (List D)} {mc : M (T × γ)} {Rm : D → List D → M (D × D) → Prop} {b : Bool} {i : Nat} (s : T) {post : T → Cells} (he : env[i]? = some (some (.own b (enc s)))) (h : EvAs c ta env ms) (hx : Le xe env) (hp : ∀ s', post s' = env.set i (some (.own b (enc s'))))
    (hR : ∀ (Qk : T × γ → Prop) (Qx : String → List D → Prop), WP mc Qk Qx → WP ms (fun ds => ∃ g : M (T × γ), Rm (enc s) ds (mapE2 g) ∧ WP (noX g) Qk Qx) Qx) :
    EvX c xe (tCallS (spIO c.K Rm) (WE c.W) (tCons (tVar i) ta)) env mc post := fun σ F H Q R w => by
  obtain ⟨v, h1, l, rfl, ⟨o, h3, h4⟩, h5, h6, h7⟩ := R.cell i _ he
  refine ⟨_, h1, ?_⟩
  refine h σ F H _ R ((hR _ _ w).imp (fun ds h2 vs F1 H1 g1 r1 => ?_) fun n p x => x.xp R hx)
  obtain ⟨g, k1, k2⟩ := h2
  refine ⟨F1, l, o, enc s, vs, ds, mapE2 g, rfl, g1.h _ _ h3, g1.n l h5 (by rw [h3]; simp), h4.mono g1.f, g1.fh, r1, k1, wp_bind.mpr ((wp_noX k2).imp (fun a q v o' F' H' g2 q1 q2 q3 q4 => ?_) fun _ _ z => z)⟩
  refine q v F' H' ?_ (g1.f.trans g2.f) q4
  rw [hp]
  exact (R.g g1).io he h1 g2 q1 q2 q3
def RmIO0 {T  γ : Type} [Enc T]  [Enc γ] (f : T → M (T × γ)) (d : D) (ds : List D) (m : M (D × D)) : Prop := ∃ s : T, d = enc s ∧ ds = [] ∧ m = mapE2 (f s )
theorem x_call0   {f : T → M (T × γ)} {b : Bool} {i : Nat} (s : T) {post : T → Cells} (he : env[i]? = some (some (.own b (enc s))))  (hx : Le xe env) (hp : ∀ s', post s' = env.set i (some (.own b (enc s')))) :
    EvX c xe (tCallS (spIO c.K (RmIO0 f)) (WE c.W) (tCons (tVar i) tNil)) env (noX (f s )) post := x_callG s he as_nil hx hp fun Qk Qx w => by
  exact ⟨f s , ⟨s, rfl, rfl, rfl⟩, w⟩
def RmIO1 {T α0 γ : Type} [Enc T] [Enc α0] [Enc γ] (f : T → α0 → M (T × γ)) (d : D) (ds : List D) (m : M (D × D)) : Prop := ∃ (s : T) (x0 : α0), d = enc s ∧ ds = [enc x0] ∧ m = mapE2 (f s x0)
theorem x_call1 {t0 : TE} {α0 : Type} [Enc α0] {m0 : M α0} {f : T → α0 → M (T × γ)} {b : Bool} {i : Nat} (s : T) {post : T → Cells} (he : env[i]? = some (some (.own b (enc s)))) (h0 : EvP c .dat t0 env m0) (hx : Le xe env) (hp : ∀ s', post s' = env.set i (some (.own b (enc s')))) :
    EvX c xe (tCallS (spIO c.K (RmIO1 f)) (WE c.W) (tCons (tVar i) (tCons t0 tNil))) env (M.bind m0 fun x0 => (noX (f s x0))) post := x_callG s he (as_cons h0 as_nil) hx hp fun Qk Qx w => by
  refine wp_bind.mpr ((wp_bind.mp w).imp (fun x0 w => ?_) fun _ _ z => z)
  exact ⟨f s x0, ⟨s, x0, rfl, rfl, rfl⟩, w⟩
def RmIO2 {T α0 α1 γ : Type} [Enc T] [Enc α0] [Enc α1] [Enc γ] (f : T → α0 → α1 → M (T × γ)) (d : D) (ds : List D) (m : M (D × D)) : Prop := ∃ (s : T) (x0 : α0) (x1 : α1), d = enc s ∧ ds = [enc x0, enc x1] ∧ m = mapE2 (f s x0 x1)
theorem x_call2 {t0 t1 : TE} {α0 α1 : Type} [Enc α0] [Enc α1] {m0 : M α0} {m1 : M α1} {f : T → α0 → α1 → M (T × γ)} {b : Bool} {i : Nat} (s : T) {post : T → Cells} (he : env[i]? = some (some (.own b (enc s)))) (h0 : EvP c .dat t0 env m0) (h1 : EvP c .dat t1 env m1) (hx : Le xe env) (hp : ∀ s', post s' = env.set i (some (.own b (enc s')))) :
    EvX c xe (tCallS (spIO c.K (RmIO2 f)) (WE c.W) (tCons (tVar i) (tCons t0 (tCons t1 tNil)))) env (M.bind m0 fun x0 => (M.bind m1 fun x1 => (noX (f s x0 x1)))) post := x_callG s he (as_cons h0 (as_cons h1 as_nil)) hx hp fun Qk Qx w => by
  refine wp_bind.mpr ((wp_bind.mp w).imp (fun x0 w => ?_) fun _ _ z => z)
  refine wp_bind.mpr (wp_bind.mpr ((wp_bind.mp w).imp (fun x1 w => ?_) fun _ _ z => z))
  exact ⟨f s x0 x1, ⟨s, x0, x1, rfl, rfl, rfl⟩, w⟩
def RmIO3 {T α0 α1 α2 γ : Type} [Enc T] [Enc α0] [Enc α1] [Enc α2] [Enc γ] (f : T → α0 → α1 → α2 → M (T × γ)) (d : D) (ds : List D) (m : M (D × D)) : Prop := ∃ (s : T) (x0 : α0) (x1 : α1) (x2 : α2), d = enc s ∧ ds = [enc x0, enc x1, enc x2] ∧ m = mapE2 (f s x0 x1 x2)
theorem x_call3 {t0 t1 t2 : TE} {α0 α1 α2 : Type} [Enc α0] [Enc α1] [Enc α2] {m0 : M α0} {m1 : M α1} {m2 : M α2} {f : T → α0 → α1 → α2 → M (T × γ)} {b : Bool} {i : Nat} (s : T) {post : T → Cells} (he : env[i]? = some (some (.own b (enc s)))) (h0 : EvP c .dat t0 env m0) (h1 : EvP c .dat t1 env m1) (h2 : EvP c .dat t2 env m2) (hx : Le xe env) (hp : ∀ s', post s' = env.set i (some (.own b (enc s')))) :
    EvX c xe (tCallS (spIO c.K (RmIO3 f)) (WE c.W) (tCons (tVar i) (tCons t0 (tCons t1 (tCons t2 tNil))))) env (M.bind m0 fun x0 => (M.bind m1 fun x1 => (M.bind m2 fun x2 => (noX (f s x0 x1 x2))))) post := x_callG s he (as_cons h0 (as_cons h1 (as_cons h2 as_nil))) hx hp fun Qk Qx w => by
  refine wp_bind.mpr ((wp_bind.mp w).imp (fun x0 w => ?_) fun _ _ z => z)
  refine wp_bind.mpr (wp_bind.mpr ((wp_bind.mp w).imp (fun x1 w => ?_) fun _ _ z => z))
  refine wp_bind.mpr (wp_bind.mpr ((wp_bind.mp w).imp (fun x2 w => ?_) fun _ _ z => z))
  exact ⟨f s x0 x1 x2, ⟨s, x0, x1, x2, rfl, rfl, rfl⟩, w⟩
def RmIO4 {T α0 α1 α2 α3 γ : Type} [Enc T] [Enc α0] [Enc α1] [Enc α2] [Enc α3] [Enc γ] (f : T → α0 → α1 → α2 → α3 → M (T × γ)) (d : D) (ds : List D) (m : M (D × D)) : Prop := ∃ (s : T) (x0 : α0) (x1 : α1) (x2 : α2) (x3 : α3), d = enc s ∧ ds = [enc x0, enc x1, enc x2, enc x3] ∧ m = mapE2 (f s x0 x1 x2 x3)
theorem x_call4 {t0 t1 t2 t3 : TE} {α0 α1 α2 α3 : Type} [Enc α0] [Enc α1] [Enc α2] [Enc α3] {m0 : M α0} {m1 : M α1} {m2 : M α2} {m3 : M α3} {f : T → α0 → α1 → α2 → α3 → M (T × γ)} {b : Bool} {i : Nat} (s : T) {post : T → Cells} (he : env[i]? = some (some (.own b (enc s)))) (h0 : EvP c .dat t0 env m0) (h1 : EvP c .dat t1 env m1) (h2 : EvP c .dat t2 env m2) (h3 : EvP c .dat t3 env m3) (hx : Le xe env) (hp : ∀ s', post s' = env.set i (some (.own b (enc s')))) :
    EvX c xe (tCallS (spIO c.K (RmIO4 f)) (WE c.W) (tCons (tVar i) (tCons t0 (tCons t1 (tCons t2 (tCons t3 tNil)))))) env (M.bind m0 fun x0 => (M.bind m1 fun x1 => (M.bind m2 fun x2 => (M.bind m3 fun x3 => (noX (f s x0 x1 x2 x3)))))) post := x_callG s he (as_cons h0 (as_cons h1 (as_cons h2 (as_cons h3 as_nil)))) hx hp fun Qk Qx w => by
  refine wp_bind.mpr ((wp_bind.mp w).imp (fun x0 w => ?_) fun _ _ z => z)
  refine wp_bind.mpr (wp_bind.mpr ((wp_bind.mp w).imp (fun x1 w => ?_) fun _ _ z => z))
  refine wp_bind.mpr (wp_bind.mpr ((wp_bind.mp w).imp (fun x2 w => ?_) fun _ _ z => z))
  refine wp_bind.mpr (wp_bind.mpr ((wp_bind.mp w).imp (fun x3 w => ?_) fun _ _ z => z))
  exact ⟨f s x0 x1 x2 x3, ⟨s, x0, x1, x2, x3, rfl, rfl, rfl⟩, w⟩
end
def RetIO (c : Cc) (l : Addr) {T R : Type} [Enc T] [Enc R] : RetP (T × R) := fun r F' H' v => (∃ o, H' l = some o ∧ F' l = none ∧ Root c.K F' l o (enc r.1)) ∧ Rep c.K F' v (enc r.2)
def finIO {T R : Type} (m : M (Fl Unit Unit (T × R))) : M (T × R) :=
  match m with
  | .ok (.rt r) => .ok r
  | .ok _ => .error .stuck
  | .error e => .error e
def argIO (d0 : D) (ds : List D) (n : Nat) : Cells := some (.own false d0) :: ds.map (fun d => some (.dat d)) ++ List.replicate (n - (ds.length + 1)) none
theorem fn_okIO {K : Kx} {mg : Str → Option Value} {base : Heap} {x qual : Str} {st : Stmt} {f : Addr} {fd : FuncData} {N ps : List Str} {k : Nat} {Rm : D → List D → M (D × D) → Prop} {T R : Type} [Enc T] [Enc R]
    (Fn : Fun K.fr x qual st f fd) (S : FnScope N ps (defScope st)) (len : ∀ d ds m, Rm d ds m → ds.length + 1 = ps.length) (lN : ps.length ≤ N.length)
    (hb : ∀ (cdv : Value) (A : Around) (outer : List Env) (s : Shared) (H : Hp) (E : XK) (c : Cc) (l : Addr) (d0 : D) (ds : List D) (m : M (D × D)), Room k (A.deeper (envOfC qual (defScope st) s.heap.objs.size f cdv)) → Rm d0 ds m → c.K = K → c.mg = mg → (c.W = fun cls d _ H' => E cls d H') → (∀ a, c.H0 a ≠ none → c.G a = none → a = l) →
      ∃ (t : TS) (m' : M (Fl Unit Unit (T × R))), PSs (cxOf (L2.CX K.P K.w) K.P K.w K.fr mg base N qual (defScope st) f cdv A outer s H E) (defBody st) t ∧ m = mapE2 (finIO m') ∧
        StX c (noneC N.length) t (argIO d0 ds N.length) m' (fun _ => noneC N.length) (fun _ => noneC N.length) (RetIO c l)) :
    FnOk K.P K.w K.fr mg base (L2.CX K.P K.w) (k + 1) f fd ps (spIO K Rm) := by
  refine Fn.okX S (fun vs H Q E h => ?_) (fun cdv A outer s H vs Q E hr h => ?_)
  · obtain ⟨F, l, o, d0, vs', ds, m, rfl, _, _, _, _, h2, h1, _⟩ := h
    rw [List.length_cons, h2.length, len d0 ds m h1]
  · obtain ⟨F, l, o, d0, vs', ds, m, rfl, a1, a2, a3, a4, h3, h1, h4⟩ := h
    obtain ⟨t, m', p1, rfl, p3⟩ := hb cdv A outer s H E ⟨K, mg, F, H, fun a => if a = l then none else H a, fun cls d _ H' => E cls d H'⟩ l d0 ds m hr h1 rfl rfl rfl (fun a q1 q2 => by
      have q2' : (if a = l then none else H a) = none := q2
      split at q2'
      · assumption
      · exact absurd q2' q1)
    refine ⟨t, p1, ?_⟩
    have el := h3.length
    have ep := len _ _ _ h1
    refine p3 _ F H _ ?_ ?_
    · refine ⟨?_, a4, Ex.refl F, fun a q _ => q, fun a u q => ?_, fun a q => q, fun a _ q => q, fun i y e => ?_, fun i j b b' d e l' hij hi hj => ?_⟩
      · show ((V.ref l :: vs').map some ++ List.replicate (N.length - (V.ref l :: vs').length) none).length = (some (Cell.own false d0) :: ds.map (fun d => some (Cell.dat d)) ++ List.replicate (N.length - (ds.length + 1)) none).length
        simp [el]
      · have q' : (if a = l then none else H a) = some u := q
        split at q'
        · cases q'
        · exact q'
      · have e' : (some (Cell.own false d0) :: ds.map (fun d => some (Cell.dat d)) ++ List.replicate (N.length - (ds.length + 1)) none)[i]? = some (some y) := e
        cases i with
        | zero =>
          cases e'
          refine ⟨.ref l, rfl, l, rfl, ⟨o, a1, a3⟩, a2, ?_, ⟨fun z => absurd ((show H l = none from z).symm.trans a1) (fun q => nomatch q), fun h => nomatch h⟩⟩
          show (if l = l then none else H l) = none
          rw [if_pos rfl]
        | succ i =>
          rw [List.cons_append, List.getElem?_cons_succ] at e'
          by_cases hi : i < ds.length
          · rw [List.getElem?_append_left (by simpa using hi), List.getElem?_map, List.getElem?_eq_getElem hi] at e'
            cases e'
            obtain ⟨v, q1, q2⟩ := h3.getD (i := i) (List.getElem?_eq_getElem hi)
            refine ⟨v, ?_, q2⟩
            show (some (V.ref l) :: vs'.map some ++ List.replicate (N.length - (V.ref l :: vs').length) none)[i + 1]? = some (some v)
            rw [List.cons_append, List.getElem?_cons_succ, List.getElem?_append_left (by simp; omega), List.getElem?_map, q1]
            rfl
          · rw [List.getElem?_append_right (by simpa using hi), List.getElem?_replicate] at e'
            split at e' <;> cases e'
      · have z : ∀ (i : Nat) (b : Bool) (d : D), (argIO d0 ds N.length)[i]? = some (some (.own b d)) → i = 0 := fun i b d e => by
          cases i with
          | zero => rfl
          | succ i =>
            have e' : (some (Cell.own false d0) :: ds.map (fun d => some (Cell.dat d)) ++ List.replicate (N.length - (ds.length + 1)) none)[i + 1]? = some (some (.own b d)) := e
            rw [List.cons_append, List.getElem?_cons_succ] at e'
            by_cases hi : i < ds.length
            · rw [List.getElem?_append_left (by simpa using hi), List.getElem?_map, List.getElem?_eq_getElem hi] at e'
              cases e'
            · rw [List.getElem?_append_right (by simpa using hi), List.getElem?_replicate] at e'
              split at e' <;> cases e'
        exact absurd ((z i b d hi).trans (z j b' e hj).symm) hij
    · have h5 := wp_bind.mp h4
      cases hm : m' with
      | error e =>
        rw [hm] at h5
        cases e <;> exact h5.elim
      | ok fl =>
        rw [hm] at h5
        cases fl with
        | nx n => exact h5.elim
        | bk b => exact h5.elim
        | ct b => exact h5.elim
        | rt r =>
          intro v F' H' rb z
          obtain ⟨⟨o', z1, z2, z3⟩, z4⟩ := z
          exact h5 v o' F' H' ⟨rb.exF0, rb.exF, fun a u q1 q2 => rb.exG a u (by
            show (if a = l then none else H a) = some u
            rw [if_neg q2]
            exact q1), rb.grow, fun a q1 q2 => rb.newF a q1 q2⟩ z1 z2 z3 z4
/-! ### statements over such expressions -/
section
variable {c : Cc} {xe env : Cells} {N N' B R S S1 S2 : Type} {pn : N → Cells} {pb : B → Cells} {ret : RetP R} {t u : TS} {te ta tb : TE} {tt : TT} {α β γ : Type} [Enc α] [Enc β] [Enc γ] {i j : Nat}
theorem EvP.cv {k : RK} {m m' : M α} (h : EvP c k te env m) (e : m = m') : EvP c k te env m' := e ▸ h
theorem EvT.cv {m m' : M Bool} (h : EvT c tt env m) (e : m = m') : EvT c tt env m' := e ▸ h
theorem EvIt.cv {wi : TI} {m m' : M (List α)} (h : EvIt c wi env m) (e : m = m') : EvIt c wi env m' := e ▸ h
theorem xi_cv {wi : TI} {m m' : M (S × List α)} {post : S → Cells} (h : EvXIt c xe wi env m post) (e : m = m') : EvXIt c xe wi env m' post := e ▸ h
theorem xt_cv {m m' : M (S × Bool)} {post : S → Cells} (h : EvXT c xe tt env m post) (e : m = m') : EvXT c xe tt env m' post := e ▸ h
theorem EvP.asf {k : RK} {m : M α} (f : α → β) (h : EvP c k te env m) (hf : ∀ a, enc (f a) = enc a) : EvP c k te env (M.bind m fun a => .ok (f a)) := fun σ F H Q Z w =>
  h σ F H Q Z ((wp_bind.mp w).imp (fun a q v F' H' g r => q v F' H' g (by rw [hf]; exact r)) fun _ _ x => x)
theorem sx_set {m : M (S × α)} {post : S → Cells} {k : S × α → M (Fl N B R)} (h : EvX c xe te env m post) (hu : ∀ sa : S × α, StX c xe u ((post sa.1).set i (some (.dat (enc sa.2)))) (k sa) pn pb ret) :
    StX c xe (tSeq (tAsg te (gName i)) u) env (M.bind m k) pn pb ret := fun σ F H Dn Z w =>
  h σ F H _ Z ((wp_bind.mp w).imp (fun sa w1 v F' H' R' e r => hu sa _ F' H' Dn (R'.setD r) w1) fun n p x => x)
theorem sx_tup2 {m : M (S × (α × β))} {post : S → Cells} {k : S × (α × β) → M (Fl N B R)} (h : EvX c xe te env m post)
    (hu : ∀ sa : S × (α × β), StX c xe u (((post sa.1).set i (some (.dat (enc sa.2.1)))).set j (some (.dat (enc sa.2.2)))) (k sa) pn pb ret) :
    StX c xe (tSeq (tAsg te (gTup c.K.fr 2 (gCons (gName i) (gCons (gName j) gNil)))) u) env (M.bind m k) pn pb ret := fun σ F H Dn Z w => by
  refine h σ F H _ Z ((wp_bind.mp w).imp (fun sa w1 x F1 H1 R1 e1 r1 => ?_) fun n p x => x)
  exact tg_2 (c := c) (vs := [i, j]) (by simp) (by simp) sa.2 x (post sa.1) σ F1 H1 _ R1 r1 fun σ' S' _ => hu sa σ' F1 H1 Dn S' w1
theorem sx_ifD {mb : M (S × Bool)} {post : S → Cells} {m1 m2 : S × Bool → M (Fl N B R)} {v : TS} (h : EvXT c xe tt env mb post) (h1 : ∀ s : S × Bool, StX c xe (tSeq t v) (post s.1) (m1 s) pn pb ret) (h2 : ∀ s : S × Bool, StX c xe (tSeq u v) (post s.1) (m2 s) pn pb ret) :
    StX c xe (tSeq (tIfS tt t u) v) env (M.bind mb fun sb => if sb.2 = true then m1 sb else m2 sb) pn pb ret := fun σ F H Dn Z w =>
  h σ F H _ Z ((wp_bind.mp w).imp (fun sb w1 F' H' R' e => by
    obtain ⟨s, b⟩ := sb
    cases b with
    | true => exact h1 _ σ F' H' Dn R' w1
    | false => exact h2 _ σ F' H' Dn R' w1) fun n p x => x)
theorem sx_ifM {mb : M (S × Bool)} {post : S → Cells} {m1 m2 : S × Bool → M (Fl N' B R)} {pn' : N' → Cells} {k : N' → M (Fl N B R)} {v : TS} (h : EvXT c xe tt env mb post) (h1 : ∀ s : S × Bool, StX c xe t (post s.1) (m1 s) pn' pb ret) (h2 : ∀ s : S × Bool, StX c xe u (post s.1) (m2 s) pn' pb ret)
    (hv : ∀ n, StX c xe v (pn' n) (k n) pn pb ret) : StX c xe (tSeq (tIfS tt t u) v) env (bindF (M.bind mb fun sb => if sb.2 = true then m1 sb else m2 sb) k) pn pb ret := fun σ F H Dn Z w => by
  refine h σ F H _ Z ((wp_bind.mp (wp_bindF w)).imp (fun sb w1 F' H' R' e => ?_) fun n p x => x)
  have z : ∀ m : M (Fl N' B R), WP m (fun f => match f with | .nx n => WP (k n) (Post c pn pb ret Dn) (XE c xe) | .bk b => Post c pn pb ret Dn (.bk b) | .ct b => Post c pn pb ret Dn (.ct b) | .rt r => Post c pn pb ret Dn (.rt r)) (XE c xe) →
      WP m (Post c pn' pb ret { Dn with nx := v Dn }) (XE c xe) := fun m w => w.imp (fun f q => by
    cases f with
    | nx n => exact fun σ' F' H' S' => hv n σ' F' H' Dn S' q
    | bk b => exact q
    | ct b => exact q
    | rt r => exact q) fun _ _ x => x
  obtain ⟨s, b⟩ := sb
  cases b with
  | true => exact h1 (s, true) σ F' H' _ R' (z (m1 (s, true)) w1)
  | false => exact h2 (s, false) σ F' H' _ R' (z (m2 (s, false)) w1)
/-- return in a def that writes its argument -/
theorem s_retIO {T R0 : Type} [Enc T] [Enc R0] {l : Addr} (hl : ∀ a, c.H0 a ≠ none → c.G a = none → a = l) {p : T} {me : M R0} (h : EvP c .dat te env me) (he : env[0]? = some (some (.own false (enc p)))) (hx : Le xe env) :
    StX c xe (tSeq (tRet te) u) env (M.bind me fun a => .ok (.rt (p, a)) : M (Fl N B (T × R0))) pn pb (RetIO c l) := fun σ F H Dn Z w =>
  h σ F H _ Z ((wp_bind.mp w).imp (fun a w1 v F' H' g r => by
    have R' := Z.g g
    obtain ⟨v', k1, l', k2, ⟨o, k3, k4⟩, k5, k6, k7⟩ := R'.cell 0 _ he
    have e := hl l' (fun z => nomatch (k7.mp z)) k6
    subst e
    exact w1 v F' H' R'.rb ⟨⟨o, k3, k5, k4⟩, r⟩) fun n p x => x.xp Z hx)
theorem sx_retIO {T R0 : Type} [Enc T] [Enc R0] {l : Addr} (hl : ∀ a, c.H0 a ≠ none → c.G a = none → a = l) {m : M (T × R0)} {post : T → Cells} (h : EvX c xe te env m post) (he : ∀ s, (post s)[0]? = some (some (.own false (enc s)))) :
    StX c xe (tSeq (tRet te) u) env (M.bind m fun a => .ok (.rt (a.1, a.2)) : M (Fl N B (T × R0))) pn pb (RetIO c l) := fun σ F H Dn Z w =>
  h σ F H _ Z ((wp_bind.mp w).imp (fun a w1 v F' H' R' e r => by
    obtain ⟨v', k1, l', k2, ⟨o, k3, k4⟩, k5, k6, k7⟩ := R'.cell 0 _ (he a.1)
    have e := hl l' (fun z => nomatch (k7.mp z)) k6
    subst e
    exact w1 v F' H' R'.rb ⟨⟨o, k3, k5, k4⟩, r⟩) fun n p x => x)
/-- return what a writing expression gives -/
theorem sx_ret0 [Enc R] {m : M (S × α)} {post : S → Cells} (h : EvX c xe te env m post) (f : α → R) (hf : ∀ a, enc (f a) = enc a := by intro _; rfl) :
    StX c xe (tSeq (tRet te) u) env (M.bind m fun a => .ok (.rt (f a.2)) : M (Fl N B R)) pn pb (RetOf c .dat) := fun σ F H Dn Z w =>
  h σ F H _ Z ((wp_bind.mp w).imp (fun a w1 v F' H' R' e r => w1 v F' H' R'.rb (by
    show Rep c.K F' v (enc (f a.2))
    rw [hf]
    exact r)) fun n p x => x)
theorem sx_for {S : Type} {S1 : Type} {wi : TI} {g : TG} {tb v : TS} {vs : List Nat} {mxs : M (S1 × List α)} {post : S1 → Cells} {f : α → Cells → Cells} {s0 : S1 × List α → S} {ps : S → Cells} {body : S → α → M (Fl S S R)} {k : S → M (Fl N B R)} (hi : EvXIt c xe wi env mxs post) (ht : TgIs c g vs f) (hs : ∀ s : S1 × List α, Le (ps (s0 s)) (post s.1))
    (hb : ∀ F0' s x, StX (c.f0 F0') xe tb (f x (ps s)) (body s x) ps ps ret) (hv : ∀ s, StX c xe v (ps s) (k s) pn pb ret) :
    StX c xe (tSeq (tFor wi g tb) v) env (M.bind mxs fun sx => bindF (forF body sx.2 (s0 sx)) k) pn pb ret := fun σ F H Dn R w => by
  refine hi σ F H _ R ((wp_bind.mp w).imp (fun sx w1 J F1 H1 R1 e1 hz it => ?_) fun n p x => x)
  obtain ⟨s1, xs⟩ := sx
  obtain ⟨G, Y, wk, hG, hY⟩ := it
  have e : (xs.map enc).length = xs.length := List.length_map _
  rw [e] at wk
  refine for_it wk (fun i σ' H' => i ≤ xs.length ∧ ∃ F' s, RS c (ps s) σ' F' H' ∧ Ex F1 F' ∧
    WP (bindF (forF (B := B) body (xs.drop i) s) k) (Post c pn pb ret Dn) (XE c xe)) ?_ ?_ ?_ ?_
  · exact ⟨Nat.zero_le _, F1, s0 (s1, xs), R1.weak (hs (s1, xs)), Ex.refl F1, w1⟩
  · rintro i σ' H' _ ⟨_, F', s, S', ee, _⟩
    exact hG H' (ee.trans S'.exF)
  · rintro i x σ' H' H2 hlt ⟨_, F', s, S', ee, hw⟩ hy
    have hxi : xs[i]? = some xs[i] := List.getElem?_eq_getElem hlt
    obtain ⟨F2, g3, r3⟩ := hY i (enc xs[i]) H' x H2 (by rw [List.getElem?_map, hxi]; rfl) hy F' ee S'.exF
    refine ht xs[i] x _ _ F2 H2 _ (S'.g g3) r3 fun σ2 S2 _ => ?_
    rw [drop_cons hlt] at hw
    have hw2 := wp_forF (wp_bindF hw)
    have b1 : RB c F1 H1 := R1.rb
    have eF : Ex F1 F2 := ee.trans g3.f
    refine hb F1 s xs[i] σ2 F2 H2 _ (S2.f0 eF b1.exF0) (hw2.imp (fun fl q => ?_) fun n p q σ' F' H' cls d S e => q σ' F' H' cls d (S.off0 b1) e)
    cases fl with
    | nx s' => exact fun σ' F' H' S => ⟨by omega, F', s', S.off0 b1, S.exF0, bindF_wp q⟩
    | ct s' => exact fun σ' F' H' S => ⟨by omega, F', s', S.off0 b1, S.exF0, bindF_wp q⟩
    | bk s' => exact fun σ' F' H' S => hv s' σ' F' H' Dn (S.off0 b1) q
    | rt r => exact fun v F' H' rb z => q v F' H' (b1.off0 rb) z
  · rintro σ' H' ⟨_, F', s, S', ee, hw⟩
    rw [List.drop_eq_nil_of_le (Nat.le_refl _)] at hw
    exact hv s σ' F' H' Dn S' hw
end

/-! ### a comprehension in a comprehension -/
theorem lookup_mapK (g : Str → NameKind → NameKind) (x : Str) : ∀ l : List (Str × NameKind), (l.map fun p => (p.1, g p.1 p.2)).lookup x = (l.lookup x).map (g x)
  | [] => rfl
  | (n, k) :: l => by
    rw [List.map_cons, List.lookup_cons, List.lookup_cons]
    cases h : x == n with
    | true =>
      have e : x = n := eq_of_beq h
      rw [e]
      rfl
    | false => exact lookup_mapK g x l
theorem blk_rel {N : List Str} {sc scope : Scope} {env : Env} {own : List (Str × Nat)} (h : BlkOk N sc scope own) : BlkOk N (relabel sc env) scope own where
  kind := h.kind
  uniq := h.uniq
  ix := h.ix
  free := fun y hy hf => by
    let g : Str → NameKind → NameKind := fun n k => if (k == .free && env.scope.kind == .function && env.kindOf n == some .cell) then NameKind.cell else k
    have e : (relabel sc env).names = sc.names.map fun p => (p.1, g p.1 p.2) := by
      show (sc.names.map _) = _
      refine List.map_congr_left fun p _ => ?_
      obtain ⟨n, k⟩ := p
      show (if _ then (n, NameKind.cell) else (n, k)) = (n, if _ then NameKind.cell else k)
      split <;> rfl
    have q := lookup_mapK g y.1 sc.names
    rw [e]
    rw [q]
    rcases h.free y hy hf with z | z
    · rw [z]
      exact .inl rfl
    · rw [z]
      show some (if _ then NameKind.cell else NameKind.free) = _ ∨ some (if _ then NameKind.cell else NameKind.free) = _
      split
      · exact .inl rfl
      · exact .inr rfl
  own := h.own
/-! ### bookkeeping for the printed proofs -/
structure Fk (K : Kx) (mg : Str → Option Value) (base : Heap) (x : Str) (k : Nat) (ps : List Str) (sp : Sp) : Prop where
  ex : ∃ (f : Addr) (fd : FuncData), FnOk K.P K.w K.fr mg base (L2.CX K.P K.w) k f fd ps sp ∧ Binds K.fr fd ps [] ∧ mg x = some (.ref f) ∧ PySem.W.keepIn K.fr (.ref f) = true
end HW

set_option Elab.async false
set_option linter.all false
set_option maxRecDepth 100000
set_option autoImplicit false
namespace HW
open PySem L2 PyProof.Rows
open Evl (Ex)
/-! ### the layer's rules with the written part told (a comprehension's block has it by reduction) -/
section
variable {X : Cx}
theorem ix_listK (K : PySem.W.Frag) (h : X.K = K := by rfl) : IxR X (rIxL K) := by subst h; exact ix_list
theorem ix_tupK (K : PySem.W.Frag) (h : X.K = K := by rfl) : IxR X (rIxT K) := by subst h; exact ix_tup
theorem sl_listK (K : PySem.W.Frag) (h : X.K = K := by rfl) : SlR X (rSlL K) := by subst h; exact sl_list
theorem op_inK (K : PySem.W.Frag) (h : X.K = K := by rfl) : OpR X (compareOp .In) (rIn K false) := by subst h; exact op_in_seq
theorem op_notInK (K : PySem.W.Frag) (h : X.K = K := by rfl) : OpR X (compareOp .NotIn) (rIn K true) := by subst h; exact op_notIn_seq
theorem call_lenK (K : PySem.W.Frag) (h : X.K = K := by rfl) : CallR X (.builtin "len") (rLenL K) := by subst h; exact call_len_seq
theorem call_listK (K : PySem.W.Frag) (h : X.K = K := by rfl) : CallR X (.type "list") (rListL K) := by subst h; exact call_list_of
theorem call_tupleK (K : PySem.W.Frag) (h : X.K = K := by rfl) : CallR X (.type "tuple") (rTupL K) := by subst h; exact call_tuple_of
theorem call_lenSK : CallR X (.builtin "len") rLenS := call_len_str
theorem call_lenDK : CallR X (.builtin "len") rLenD := call_lenD
theorem call_intK : CallR X (.type "int") rInt1 := call_int1
theorem call_min2K (hc : X.calm = true) : CallR X (.builtin "min") rMin2 := call_min2 hc
theorem call_max2K (hc : X.calm = true) : CallR X (.builtin "max") rMax2 := call_max2 hc
theorem pi_listK (K : PySem.W.Frag) {tg l : Expr} {tl : TE} (hl : PE X l tl) (h : X.K = K := by rfl) : PI X tg l (iList K (tBd K tl)) := by subst h; exact pi_list (pe_bd hl)
theorem pi_tupK (K : PySem.W.Frag) {tg l : Expr} {tl : TE} (hl : PE X l tl) (h : X.K = K := by rfl) : PI X tg l (iTup K (tBd K tl)) := by subst h; exact pi_tup (pe_bd hl)
theorem pe_bdK (K : PySem.W.Frag) {e : Expr} {te : TE} (he : PE X e te) (h : X.K = K := by rfl) : PE X e (tBd K te) := by subst h; exact pe_bd he
theorem pi_enumK (K : PySem.W.Frag) {e : Expr} {ta : TA} {p pos tpos : Pos} {elts : List Expr} {kk : Nat} (hg : Gl X "enumerate") (hm : X.mg "enumerate" = none) (ha : PA X [e] ta) (h : X.K = K := by rfl) (hs : starEach [e] X.env = [(false, eval e X.env)] := by rfl) :
    PI X (.Tuple elts kk tpos) (.Call (.Name "enumerate" p) [e] [] pos) (iEnum K ta) := by subst h; exact pi_enum hg hm ha hs
theorem pi_zipK (K : PySem.W.Frag) {e e2 : Expr} {ta : TA} {p pos tpos : Pos} {elts : List Expr} {kk : Nat} (hg : Gl X "zip") (hm : X.mg "zip" = none) (ha : PA X [e, e2] ta) (h : X.K = K := by rfl)
    (hs : starEach [e, e2] X.env = (false, eval e X.env) :: starEach [e2] X.env := by rfl) (hpl : (backTo pos (starEach [e2] X.env)).any (·.1) = false := by rfl) :
    PI X (.Tuple elts kk tpos) (.Call (.Name "zip" p) [e, e2] [] pos) (iZip K ta) := by subst h; exact pi_zip hg hm ha hs hpl
theorem pg_tupK (K : PySem.W.Frag) {es : List Expr} {k : Nat} {pos : Pos} {t : TGs} {n : Nat} (hc : X.calm = true) (h : PGs X es t) (hK : X.K = K := by rfl)
    (hn : (assignEach es X.env).length = n := by rfl) (hst : (assignEach es X.env).findIdx? (·.1) = none := by rfl) : PG X (.Tuple es k pos) (gTup K n t) := by subst hK; exact pg_tup hc h hn hst
theorem pe_bmK (K : PySem.W.Frag) {o e : Expr} {es : List Expr} {to : TE} {t : TA} {name : Str} {apos cpos : Pos} {T id : String} {r : V → List V → Hp → VK → Prop} (pa : PlainAttrs T) (slot : Slot T name id) (hty : typeOf (.builtin id) = pure (.type "method_descriptor")) (hm : MtR X id r) (ho : PE X o to) (ha : PA X (e :: es) t)
    (hK : X.K = K := by rfl)
    (hbase : attributeBase o name X.env (eval o X.env) = eval o X.env := by rfl)
    (hfew : ((backTo cpos (starEach (e :: es) X.env)).all (fun x => !x.1) && (backToKw cpos (keywordEach [] X.env)).all (fun x => x.1.isSome)
      && decide ((e :: es).length + ([] : List Keyword).length + (if ([] : List Keyword).isEmpty then 0 else 1) < 30)) = true := by rfl)
    (hline : (apos.endLine == cpos.line) = true := by rfl) (hs : starEach (e :: es) X.env = (false, eval e X.env) :: starEach es X.env := by rfl) (hplain : (backTo cpos (starEach es X.env)).any (·.1) = false := by rfl) :
    PE X (.Call (.Attribute o name apos) (e :: es) [] cpos) (tBM K T r to t) := by subst hK; exact pe_bm pa slot hty hm ho ha hbase hfew hline hs hplain
theorem mt_indexK (K : PySem.W.Frag) (h : X.K = K := by rfl) : MtR X "list.index" (rIndex K) := by subst h; exact mt_index
theorem cr_anyK (K : PySem.W.Frag) (hc : X.calm = true) (h : X.K = K := by rfl) : CallR X (.builtin "any") (rAny K) := by subst h; exact cr_any hc
theorem cr_allK (K : PySem.W.Frag) (hc : X.calm = true) (h : X.K = K := by rfl) : CallR X (.builtin "all") (rAll K) := by subst h; exact cr_all hc
theorem cr_sumK (K : PySem.W.Frag) (hc : X.calm = true) (h : X.K = K := by rfl) : CallR X (.builtin "sum") (rSum K) := by subst h; exact cr_sum hc
end
end HW

set_option Elab.async false
set_option linter.all false
set_option maxRecDepth 100000
set_option maxHeartbeats 2000000
set_option autoImplicit false
namespace HW
open PySem PySem.Spec L2 PyProof.Rows
open Evl (Ex)

/-! ### dicts whose keys are tuples, at any depth to 8 -/
/-- the value is the key -/
def NKey (K : Kx) (H : Hp) (b : Addr) (k : NestedKey) : Prop := Rep K H (.ref b) (keyN k) ∧ k.depth ≤ 8
def NDict (K : Kx) (H : Hp) (a : Addr) (xs : List NEnt) : Prop := H a = some (nO K a xs) ∧ ∀ x ∈ xs, NKey K H x.2.1 x.1
mutual
theorem nestedIs_of {K : Kx} {H : Hp} {h : Heap} (ok : HOk K.P K.w H h) : ∀ (k : NestedKey) (v : V) (u : Value), Rep K H v (keyN k) → RelV v u → NestedIs h k u
  | .none, v, u, r, q => by
    have r' : Rep K H v .non := r
    cases r'
    cases q
    exact .none
  | .num i, v, u, r, q => by
    have r' : Rep K H v (.int i) := r
    cases r'
    obtain ⟨t, rfl⟩ := q
    exact .int i t
  | .text x, v, u, r, q => by
    have r' : Rep K H v (.str x.cps.toList) := r
    generalize hz : x.cps.toList = z at r'
    cases r'
    obtain ⟨t, rfl⟩ := q
    have e : x = ⟨z.toArray⟩ := by
      cases x with
      | mk a =>
        have : a.toList = z := hz
        rw [← this]
    rw [e]
    exact .text _ t
  | .tup ks, v, u, r, q => by
    have r' : Rep K H v (.tup (keyNs ks)) := r
    cases r' with
    | tup h1 h2 =>
      cases q
      obtain ⟨_, us, rv, o, ho, hc, n, hd⟩ := (show ObjOk K.P K.w H h _ (.tup _) from ok _ _ h1)
      exact .tup ho hc hd (by simpa using nestedAll_of ok ks _ us h2 rv)
theorem nestedAll_of {K : Kx} {H : Hp} {h : Heap} (ok : HOk K.P K.w H h) : ∀ (ks : List NestedKey) (vs : List V) (us : List Value), Reps K H vs (keyNs ks) → Vals vs us → NestedAll h ks us
  | [], vs, us, r, q => by
    have r' : Reps K H vs [] := r
    cases r'
    cases q
    exact .nil
  | k :: ks, vs, us, r, q => by
    have r' : Reps K H vs (keyN k :: keyNs ks) := r
    cases r' with
    | cons r1 r2 =>
      cases q with
      | cons q1 q2 => exact .cons (nestedIs_of ok k _ _ r1 q1) (nestedAll_of ok ks _ _ r2 q2)
end
theorem NKey.is {K : Kx} {H : Hp} {h : Heap} {b : Addr} {k : NestedKey} (x : NKey K H b k) (ok : HOk K.P K.w H h) : (nestedKind K.P K.w).is h k b := ⟨nestedIs_of ok k (.ref b) (.ref b) x.1 rfl, x.2⟩
theorem NDict.dictOf {K : Kx} {H : Hp} {h : Heap} {a : Addr} {xs : List NEnt} (x : NDict K H a xs) (ok : HOk K.P K.w H h) : h.DictOfH (nestedKind K.P K.w) a xs ∧ xs.length ≤ sizeLine ∧ (a == sysModules) = false := by
  obtain ⟨⟨z, lo, o, es, ep, h1, h2, h3, h4, h5⟩, _, _⟩ := (show ObjOk K.P K.w H h a (nO K a xs) from ok _ _ x.1)
  exact ⟨⟨o, es, ep, h1, h2, h3, h4, fun y hy => (x.2 y hy).is ok, h5⟩, z, lo⟩
theorem nO_ok {K : Kx} {H : Hp} {h : Heap} {a : Addr} {xs : List NEnt} (d : h.DictOfH (nestedKind K.P K.w) a xs) (z : xs.length ≤ sizeLine) (lo : (a == sysModules) = false) : ObjOk K.P K.w H h a (nO K a xs) := by
  obtain ⟨o, es, ep, h1, h2, h3, h4, _, h5⟩ := d
  exact ⟨⟨z, lo, o, es, ep, h1, h2, h3, h4, h5⟩, ⟨o, h1⟩, fun g1 g2 ⟨_, _, o', es', ep', e1, e2⟩ k => ⟨z, lo, o', es', ep', k _ e1, e2⟩⟩
/-! ### the rules by values -/
section
variable {X : Cx} {K : Kx}
def tDNewN (K : Kx) : TE := fun _ H Q => ∀ p, H p = none → Q (.ref p) (upd H p (nO K p []))
theorem nO_empty (K : Kx) {H : Hp} (h : Heap) (hb : sysModules < h.objs.size) : ObjOk K.P K.w H (h.push { cls := .type "dict", data := .dict #[] }) h.objs.size (nO K h.objs.size []) :=
  nO_ok ⟨_, #[], 0, Heap.get?_push_size _ rfl, ⟨rfl, rfl, rfl⟩, rfl, rfl, (fun _ z => nomatch z), List.nodup_nil⟩ (Nat.zero_le _) (beq_eq_false_iff_ne.mpr (Ne.symm (Nat.ne_of_lt hb)))
theorem pe_dnewN {pos : Pos} (hP : X.prog = K.P := by rfl) (hw : X.w = K.w := by rfl) : PE X (.Dict [] [] pos) (tDNewN K) := ⟨fun pins s σ H Q I h =>
  wpAny_Dict_empty ⟨.ref s.heap.objs.size, _, I.laid (a := s.heap.objs.size) (o := nO K s.heap.objs.size []) (t' := s.toks) (fun _ _ q => Heap.get?_push_of_some _ q) (Nat.le_refl _) (by rw [hP, hw]; exact nO_empty K s.heap I.big), rfl, h _ (I.hok.fresh (Nat.le_refl _))⟩⟩
theorem room_in1 {P : Program} {w : World} {A : Around} (hu : A.units + 9 < cLine) : (nestedKind P w).room A.in1 := by
  show A.units + 1 + 8 < cLine
  omega
theorem ndict_write {pins : List (Addr × Obj)} {σ : L2.St} {H : Hp} {s : Shared} {a : Addr} {xs ys : List NEnt} {h' : Heap} {t' : Nat} (hP : X.prog = K.P) (hw : X.w = K.w) (I : Inv X pins σ H s) (e : NDict K H a xs) (d : h'.DictOfH (nestedKind K.P K.w) a ys) (hs : Heap.SameBut a s.heap h') (z : ys.length ≤ sizeLine) (lo : (a == sysModules) = false) :
    Inv X pins σ (upd H a (nO K a ys)) { s with heap := h', toks := t' } := by
  have he : ∃ q, h'.get? a = some q := let ⟨q, _, _, hq, _⟩ := d; ⟨q, hq⟩
  exact d_write I (by rw [e.1]; exact True.intro) hs he (by rw [hP, hw]; exact nO_ok d z lo)
def tNGet (K : Kx) (td ty : TE) : TE := fun σ H Q => td σ H fun x H1 => ty σ H1 fun y H2 => ∃ a b xs k p v, x = .ref a ∧ y = .ref b ∧ NDict K H2 a xs ∧ NKey K H2 b k ∧ atKey xs k = some p ∧ RelV v p.2 ∧ Q v H2
theorem pe_nget {o i : Expr} {td ty : TE} {pos : Pos} (hu : X.A.units + 9 < cLine) (ho : PE X o td) (hi : PE X i ty) (hs : NoSl i) (hP : X.prog = K.P := by rfl) (hw : X.w = K.w := by rfl) : PE X (.Subscript o i pos) (tNGet K td ty) := by
  obtain ⟨fr, P, w⟩ := K
  obtain rfl : X.prog = P := hP
  obtain rfl : X.w = w := hw
  refine ⟨fun pins s σ H Q I h => ?_⟩
  refine subD_of PySem.F.slot_dict_getitem.lookup hs (thn (ho.run pins s σ H _ I h) fun u s1 ⟨x, H1, I1, rx, q1⟩ => thn (hi.run pins s1 σ H1 _ I1 q1) fun iv s2 ⟨y, H2, I2, ry, a, b, xs, k, p, v, ex, ey, e, hk, hp, rv, q2⟩ => ?_)
  subst ex ey
  obtain rfl : u = Value.ref a := rx
  obtain rfl : iv = Value.ref b := ry
  have ok : HOk X.prog X.w H2 s2.heap := I2.hok
  obtain ⟨d, z, lo⟩ := e.dictOf ok
  exact ⟨d.typeIs, wpAny_getItem_heap (room_in1 hu) (hk.is ok) d hp ⟨v, H2, I2.tok _, rv, q2⟩⟩
def tNIn (K : Kx) (g : Bool → Bool) (ty td : TE) : TE := fun σ H Q => ty σ H fun y H1 => td σ H1 fun x H2 => ∃ a b xs k, x = .ref a ∧ y = .ref b ∧ NDict K H2 a xs ∧ NKey K H2 b k ∧ Q (.bl (g (atKey xs k).isSome)) H2
theorem pc_nin {o i : Expr} {td ty : TE} (hu : X.A.units + 9 < cLine) (hi : PE X i ty) (ho : PE X o td) (hP : X.prog = K.P := by rfl) (hw : X.w = K.w := by rfl) : PC X .In i o (tNIn K (fun b => b) ty td) := by
  obtain ⟨fr, P, w⟩ := K
  obtain rfl : X.prog = P := hP
  obtain rfl : X.w = w := hw
  refine ⟨fun pins s σ H Q I h => ?_⟩
  refine thn (hi.run pins s σ H _ I h) fun iv s1 ⟨y, H1, I1, ry, q1⟩ => thn (ho.run pins s1 σ H1 _ I1 q1) fun u s2 ⟨x, H2, I2, rx, a, b, xs, k, ex, ey, e, hk, q2⟩ => ?_
  subst ex ey
  obtain rfl : u = Value.ref a := rx
  obtain rfl : iv = Value.ref b := ry
  have ok : HOk X.prog X.w H2 s2.heap := I2.hok
  obtain ⟨d, z, lo⟩ := e.dictOf ok
  exact wpAny_in_heap (room_in1 hu) (hk.is ok) lo d ⟨.bl _, H2, I2.tok _, rfl, q2⟩
theorem pc_nnotin {o i : Expr} {td ty : TE} (hu : X.A.units + 9 < cLine) (hi : PE X i ty) (ho : PE X o td) (hP : X.prog = K.P := by rfl) (hw : X.w = K.w := by rfl) : PC X .NotIn i o (tNIn K (fun b => !b) ty td) := by
  obtain ⟨fr, P, w⟩ := K
  obtain rfl : X.prog = P := hP
  obtain rfl : X.w = w := hw
  refine ⟨fun pins s σ H Q I h => ?_⟩
  refine thn (hi.run pins s σ H _ I h) fun iv s1 ⟨y, H1, I1, ry, q1⟩ => thn (ho.run pins s1 σ H1 _ I1 q1) fun u s2 ⟨x, H2, I2, rx, a, b, xs, k, ex, ey, e, hk, q2⟩ => ?_
  subst ex ey
  obtain rfl : u = Value.ref a := rx
  obtain rfl : iv = Value.ref b := ry
  have ok : HOk X.prog X.w H2 s2.heap := I2.hok
  obtain ⟨d, z, lo⟩ := e.dictOf ok
  exact wpAny_notIn_heap (room_in1 hu) (hk.is ok) lo d ⟨.bl _, H2, I2.tok _, rfl, q2⟩
def sNPut (K : Kx) (td ty tv : TE) : TS := fun D σ H => tv σ H fun v H1 => td σ H1 fun x H2 => ty σ H2 fun y H3 => ∃ a b xs k, x = .ref a ∧ y = .ref b ∧ NDict K H3 a xs ∧ NKey K H3 b k ∧ xs.length < sizeLine ∧
  ∀ u, RelV v u → D.nx σ (upd H3 a (nO K a (storedH xs k b u)))
theorem storedH_le (xs : List NEnt) (k : NestedKey) (b : Addr) (u : Value) (h : xs.length < sizeLine) : (storedH xs k b u).length ≤ sizeLine := by
  have e := storedH_length xs k b u
  omega
theorem ps_nput {o i value : Expr} {td ty tv : TE} {pos pos' : Pos} (hu : X.A.units + 9 < cLine) (ho : PE X o td) (hi : PE X i ty) (hv : PE X value tv) (hs : swapsWith value (some (.Subscript o i pos')) pos.line X.env = pure false) (hP : X.prog = K.P := by rfl) (hw : X.w = K.w := by rfl) :
    PS X (.Assign [.Subscript o i pos'] value pos) (sNPut K td ty tv) := by
  obtain ⟨fr, P, w⟩ := K
  obtain rfl : X.prog = P := hP
  obtain rfl : X.w = w := hw
  refine ⟨fun pins s σ H D I h => ?_⟩
  refine wpAny_Assign_Subscript (thn (hv.run pins s σ H _ I h) fun r s1 ⟨v, H1, I1, rv, q1⟩ => thn (ho.run pins s1 σ H1 _ I1 q1) fun u s2 ⟨x, H2, I2, rx, q2⟩ => thn (hi.run pins s2 σ H2 _ I2 q2) fun iv s3 ⟨y, H3, I3, ry, a, b, xs, k, ex, ey, e, hk, hl, q3⟩ => ?_) hs
  subst ex ey
  obtain rfl : u = Value.ref a := rx
  obtain rfl : iv = Value.ref b := ry
  have ok : HOk X.prog X.w H3 s3.heap := I3.hok
  obtain ⟨d, z, lo⟩ := e.dictOf ok
  exact wpAny_setItem_heap (hsz := z) (room_in1 hu) (hk.is ok) d fun h' d' hs' => ⟨σ, _, ndict_write rfl rfl I3 e d' hs' (storedH_le _ _ _ _ hl) lo, q3 r rv⟩
/-- len(d) -/
def rLenN (K : Kx) : List V → Hp → VK → Prop := fun xs H Q => ∃ a ys, xs = [V.ref a] ∧ NDict K H a ys ∧ Q (.int ys.length) H
theorem call_lenN (hP : X.prog = K.P := by rfl) (hw : X.w = K.w := by rfl) : CallR X (.builtin "len") (rLenN K) := by
  obtain ⟨fr, P, w⟩ := K
  obtain rfl : X.prog = P := hP
  obtain rfl : X.w = w := hw
  intro pins s σ H xs us Q I r h
  obtain ⟨a, ys, e, hd, q⟩ := h
  subst e
  obtain ⟨u, eu, rx⟩ := vals1 r
  subst eu
  obtain rfl : u = Value.ref a := rx
  have ok : HOk X.prog X.w H s.heap := I.hok
  obtain ⟨d, z, lo⟩ := hd.dictOf ok
  exact call_len_dictH lo d (by rw [sizeLine_eq] at z; omega) ⟨.int ys.length, H, I.tok _, ⟨_, rfl⟩, q⟩
/-- d.setdefault(y, z) -/
def tNSetd (K : Kx) (td ty tx : TE) : TE := fun σ H Q => td σ H fun x H1 => ∃ a xs0, x = .ref a ∧ NDict K H1 a xs0 ∧ ty σ H1 fun y H2 => tx σ H2 fun z H3 => ∃ b xs k, y = .ref b ∧ NDict K H3 a xs ∧ NKey K H3 b k ∧ xs.length < sizeLine ∧
  (∀ p, atKey xs k = some p → ∃ v, RelV v p.2 ∧ Q v H3) ∧ (atKey xs k = none → ∀ u, RelV z u → Q z (upd H3 a (nO K a (storedH xs k b u))))
theorem pe_nsetd {o e f : Expr} {td ty tx : TE} {apos cpos : Pos} (hu : X.A.units + 9 < cLine) (ho : PE X o td) (he : PE X e ty) (hf : PE X f tx) (m : M2 X o "setdefault" apos e f cpos) (hP : X.prog = K.P := by rfl) (hw : X.w = K.w := by rfl) : PE X (.Call (.Attribute o "setdefault" apos) [e, f] [] cpos) (tNSetd K td ty tx) := by
  obtain ⟨fr, P, w⟩ := K
  obtain rfl : X.prog = P := hP
  obtain rfl : X.w = w := hw
  refine ⟨fun pins s σ H Q I h => ?_⟩
  refine wpAny_Call_method m.base m.few m.line PySem.F.plainAttrs_dict PySem.F.slot_dict_setdefault PySem.F.type_dict_setdefault (thn (ho.run pins s σ H _ I h) fun u s1 ⟨x, H1, I1, rx, a, xs0, ex, d, q1⟩ => ?_)
  subst ex
  obtain rfl : u = Value.ref a := rx
  have ok1 : HOk X.prog X.w H1 s1.heap := I1.hok
  obtain ⟨d1, _, _⟩ := d.dictOf ok1
  refine ⟨d1.typeIs, fun b q => ?_, ?_⟩
  · cases q
    obtain ⟨ob, _, _, h1, h2, _⟩ := d1
    exact ⟨ob, h1, h2.2.1⟩
  rw [m.trees]
  refine Calls.callWith_builtin rfl (Calls.evalArgs_plain (Calls.spliced_cons (thn (he.run pins s1 σ H1 _ I1 q1) fun iv s2 ⟨y, H2, I2, ry, q2⟩ =>
    Calls.spliced_cons (thn (hf.run pins s2 σ H2 _ I2 q2) fun fv s3 ⟨z, H3, I3, rz, b, xs, k, ey, e3, hk, hl, q3, q4⟩ => Calls.spliced_nil ?_))))
  subst ey
  obtain rfl : iv = Value.ref b := ry
  have ok : HOk X.prog X.w H3 s3.heap := I3.hok
  obtain ⟨d3, hz, lo⟩ := e3.dictOf ok
  refine call_setdefault_heap (hsz := hz) (room_in1 hu) (hk.is ok) lo d3 (fun p hp => ?_) fun hn h' d' hs' => ?_
  · obtain ⟨v, rv, q⟩ := q3 p hp
    exact ⟨v, H3, I3.tok _, rv, q⟩
  · exact ⟨z, _, ndict_write rfl rfl I3 e3 d' hs' (storedH_le _ _ _ _ hl) lo, rz, q4 hn fv rz⟩
/-- {y: z} -/
def tNDisp (K : Kx) (ty tv : TE) : TE := fun σ H Q => ∀ p, H p = none → ty σ (upd H p (nO K p [])) fun y H1 => tv σ H1 fun v H2 => ∃ b k, y = .ref b ∧ H2 p = some (nO K p []) ∧ NKey K H2 b k ∧ ∀ u, RelV v u → Q (.ref p) (upd H2 p (nO K p [(k, b, u)]))
theorem pe_dispN {key value : Expr} {ty tv : TE} {pos : Pos} (hu : X.A.units + 9 < cLine) (hk : PE X key ty) (hv : PE X value tv) (hP : X.prog = K.P := by rfl) (hw : X.w = K.w := by rfl) : PE X (.Dict [some key] [value] pos) (tNDisp K ty tv) := by
  obtain ⟨fr, P, w⟩ := K
  obtain rfl : X.prog = P := hP
  obtain rfl : X.w = w := hw
  refine ⟨fun pins s σ H Q I q => ?_⟩
  have hn := I.hok.fresh (Nat.le_refl s.heap.objs.size)
  have I1 := I.laid (a := s.heap.objs.size) (o := nO ⟨fr, X.prog, X.w⟩ s.heap.objs.size []) (h' := s.heap.push { cls := .type "dict", data := .dict #[] }) (t' := s.toks) (fun _ _ q => Heap.get?_push_of_some _ q) (Nat.le_refl _) (nO_empty ⟨fr, X.prog, X.w⟩ s.heap I.big)
  refine wpAny_Dict_any rfl rfl (fun z => nomatch z) (by show 1 ≤ 15; decide) ?_
  refine pairTrees_cons_walk (thn (hk.run pins _ σ _ _ I1 (q _ hn)) fun iv s1 ⟨y, H1, I2, ry, q1⟩ => thn (hv.run pins s1 σ H1 _ I2 q1) fun fv s2 ⟨v, H2, I3, rv, b, k, ey, e, nk, q2⟩ => pairTrees_nil_walk ?_)
  subst ey
  obtain rfl : iv = Value.ref b := ry
  have ok : HOk X.prog X.w H2 s2.heap := I3.hok
  have nd : NDict ⟨fr, X.prog, X.w⟩ H2 s.heap.objs.size [] := ⟨e, (fun _ z => nomatch z)⟩
  obtain ⟨d, z, lo⟩ := nd.dictOf ok
  have hr : (nestedKind X.prog X.w).room X.A := by
    show X.A.units + 8 < cLine
    omega
  refine wpAny_storeAllH (knd := nestedKind X.prog X.w) hr [(.ref b, fv)] [(k, b, fv)] [] s2 _ ⟨rfl, rfl, nk.is ok, trivial⟩ d (by show 0 + 1 ≤ sizeLine; rw [sizeLine_eq]; omega) fun h' tk d' hs' => ?_
  exact ⟨.ref s.heap.objs.size, _, ndict_write (xs := []) rfl rfl I3 nd d' hs' (by show 1 ≤ sizeLine; rw [sizeLine_eq]; omega) lo, rfl, q2 fv rv⟩
end
end HW

set_option Elab.async false
set_option linter.all false
set_option maxRecDepth 100000
set_option maxHeartbeats 2000000
set_option autoImplicit false
namespace HW
open PySem PySem.Spec L2 PyProof.Rows
open Evl (Ex)

/-! ### typed keys -/
class NKc (κ : Type) [Enc κ] where
  nk : κ → NestedKey
  encN : ∀ k, enc k = keyN (nk k)
  inj : ∀ {a b : κ}, nk a = nk b → a = b
  d : Nat
  hd : ∀ k, (nk k).depth ≤ d
class NRef (κ : Type) [Enc κ] [NKc κ] : Prop where
  tup : ∀ k : κ, ∃ ks, NKc.nk k = .tup ks
@[reducible] instance : NKc Int where
  nk := .num
  encN := fun _ => rfl
  inj := fun h => by injection h
  d := 0
  hd := fun _ => Nat.le_refl _
@[reducible] instance : NKc Txt where
  nk := fun t => .text ⟨t.cs.toArray⟩
  encN := fun t => by
    show D.str t.cs = D.str t.cs.toArray.toList
    simp
  inj := fun h => txt_inj (by injection h)
  d := 0
  hd := fun _ => Nat.le_refl _
@[reducible] instance : NKc (Option Int) where
  nk := fun o => match o with | none => .none | some i => .num i
  encN := fun o => by cases o <;> rfl
  inj := fun {a b} h => by cases a <;> cases b <;> simp_all
  d := 0
  hd := fun o => by cases o <;> exact Nat.le_refl _
theorem keyNs_map {α : Type} [Enc α] [NKc α] : ∀ xs : List α, keyNs (xs.map NKc.nk) = xs.map enc
  | [] => rfl
  | x :: xs => by
    show keyN (NKc.nk x) :: keyNs (xs.map NKc.nk) = enc x :: xs.map enc
    rw [keyNs_map xs, NKc.encN]
theorem depthAll_le {α : Type} [Enc α] [NKc α] : ∀ xs : List α, NestedKey.depthAll (xs.map NKc.nk) ≤ NKc.d α
  | [] => Nat.zero_le _
  | x :: xs => Nat.max_le.mpr ⟨NKc.hd x, depthAll_le xs⟩
theorem nk_map_inj {α : Type} [Enc α] [NKc α] : ∀ {xs ys : List α}, xs.map (NKc.nk (κ := α)) = ys.map NKc.nk → xs = ys
  | [], [], _ => rfl
  | [], _ :: _, h => nomatch h
  | _ :: _, [], h => nomatch h
  | x :: xs, y :: ys, h => by
    rw [List.map_cons, List.map_cons] at h
    injection h with h1 h2
    rw [NKc.inj h1, nk_map_inj h2]
@[reducible] instance {α : Type} [Enc α] [NKc α] : NKc (Tp α) where
  nk := fun t => .tup (t.xs.map NKc.nk)
  encN := fun t => congrArg D.tup (keyNs_map t.xs).symm
  inj := fun {a b} h => by
    injection h with h
    cases a
    cases b
    exact congrArg Tp.mk (nk_map_inj h)
  d := NKc.d α + 1
  hd := fun t => Nat.succ_le_succ (depthAll_le t.xs)
instance {α : Type} [Enc α] [NKc α] : NRef (Tp α) := ⟨fun _ => ⟨_, rfl⟩⟩
@[reducible] instance {α β : Type} [Enc α] [Enc β] [NKc α] [NKc β] : NKc (α × β) where
  nk := fun p => .tup [NKc.nk p.1, NKc.nk p.2]
  encN := fun p => by
    show D.tup [enc p.1, enc p.2] = D.tup [keyN (NKc.nk p.1), keyN (NKc.nk p.2)]
    rw [NKc.encN, NKc.encN]
  inj := fun {a b} h => by
    injection h with h
    injection h with h1 h2
    injection h2 with h2 h3
    exact Prod.ext (NKc.inj h1) (NKc.inj h2)
  d := max (NKc.d α) (NKc.d β) + 1
  hd := fun p => Nat.succ_le_succ (by
    show max (NKc.nk p.1).depth (max (NKc.nk p.2).depth 0) ≤ _
    have h1 := NKc.hd p.1
    have h2 := NKc.hd p.2
    omega)
instance {α β : Type} [Enc α] [Enc β] [NKc α] [NKc β] : NRef (α × β) := ⟨fun _ => ⟨_, rfl⟩⟩
@[reducible] instance {α β γ : Type} [Enc α] [Enc β] [Enc γ] [NKc α] [NKc β] [NKc γ] : NKc (T3 α β γ) where
  nk := fun p => .tup [NKc.nk p.a, NKc.nk p.b, NKc.nk p.c]
  encN := fun p => by
    show D.tup [enc p.a, enc p.b, enc p.c] = D.tup [keyN (NKc.nk p.a), keyN (NKc.nk p.b), keyN (NKc.nk p.c)]
    rw [NKc.encN, NKc.encN, NKc.encN]
  inj := fun {a b} h => by
    injection h with h
    injection h with h1 h2
    injection h2 with h2 h3
    injection h3 with h3 h4
    cases a
    cases b
    simp only [T3.mk.injEq]
    exact ⟨NKc.inj h1, NKc.inj h2, NKc.inj h3⟩
  d := max (NKc.d α) (max (NKc.d β) (NKc.d γ)) + 1
  hd := fun p => Nat.succ_le_succ (by
    show max (NKc.nk p.a).depth (max (NKc.nk p.b).depth (max (NKc.nk p.c).depth 0)) ≤ _
    have h1 := NKc.hd p.a
    have h2 := NKc.hd p.b
    have h3 := NKc.hd p.c
    omega)
instance {α β γ : Type} [Enc α] [Enc β] [Enc γ] [NKc α] [NKc β] [NKc γ] : NRef (T3 α β γ) := ⟨fun _ => ⟨_, rfl⟩⟩
class D8 (κ : Type) [Enc κ] [NKc κ] : Prop where
  le : NKc.d κ ≤ 8
instance : D8 (Tp Int) := ⟨by decide⟩
instance : D8 (Tp Txt) := ⟨by decide⟩
instance : D8 (Int × Tp Int) := ⟨by decide⟩
instance : D8 (Int × Int) := ⟨by decide⟩
instance : D8 (Txt × Txt) := ⟨by decide⟩
instance : D8 (Int × Txt) := ⟨by decide⟩
instance : D8 (Txt × Int) := ⟨by decide⟩
instance : D8 (T3 Int Int Int) := ⟨by decide⟩
instance : D8 (Tp (Int × Int)) := ⟨by decide⟩
instance : D8 (Tp (Tp Int)) := ⟨by decide⟩
instance : D8 (Int × Tp (Tp Int)) := ⟨by decide⟩
instance : D8 (Tp Int × Tp Int) := ⟨by decide⟩
instance : D8 (Int × Option Int) := ⟨by decide⟩

/-! ### such a dict beside its heap pairs -/
abbrev DNP {κ α : Type} [Enc κ] [Enc α] [NKc κ] (K : Kx) (F : Hp) (p : κ × α) (x : NEnt) : Prop := NKc.nk p.1 = x.1 ∧ Rep K F (.ref x.2.1) (enc p.1) ∧ ∃ u, RelV u x.2.2 ∧ Rep K F u (enc p.2)
abbrev DNR {κ α : Type} [Enc κ] [Enc α] [NKc κ] (K : Kx) (F : Hp) (ds : List (κ × α)) (xs : List NEnt) : Prop := Paired (DNP (κ := κ) (α := α) K F) ds xs
mutual
theorem keyN_inj : ∀ {a b : NestedKey}, keyN a = keyN b → a = b
  | .none, .none, _ => rfl
  | .num i, .num j, h => by
    have h' : D.int i = D.int j := h
    injection h' with h'
    rw [h']
  | .text x, .text y, h => by
    have h' : D.str x.cps.toList = D.str y.cps.toList := h
    injection h' with h'
    cases x
    cases y
    have h2 := Array.toList_inj.mp h'
    dsimp only at h2
    rw [h2]
  | .tup ks, .tup ls, h => by
    have h' : D.tup (keyNs ks) = D.tup (keyNs ls) := h
    injection h' with h'
    rw [keyNs_inj h']
  | .none, .num _, h => nomatch h
  | .none, .text _, h => nomatch h
  | .none, .tup _, h => nomatch h
  | .num _, .none, h => nomatch h
  | .num _, .text _, h => nomatch h
  | .num _, .tup _, h => nomatch h
  | .text _, .none, h => nomatch h
  | .text _, .num _, h => nomatch h
  | .text _, .tup _, h => nomatch h
  | .tup _, .none, h => nomatch h
  | .tup _, .num _, h => nomatch h
  | .tup _, .text _, h => nomatch h
theorem keyNs_inj : ∀ {a b : List NestedKey}, keyNs a = keyNs b → a = b
  | [], [], _ => rfl
  | x :: xs, y :: ys, h => by
    have h' : keyN x :: keyNs xs = keyN y :: keyNs ys := h
    injection h' with h1 h2
    rw [keyN_inj h1, keyNs_inj h2]
  | [], _ :: _, h => nomatch h
  | _ :: _, [], h => nomatch h
end
section
variable {κ α : Type} [Enc κ] [Enc α] [NKc κ] {K : Kx} {F : Hp}
theorem DNR.of : ∀ {ds : List (κ × α)} {xs : List NEnt} {us : List V}, ds.map (fun kv => enc kv.1) = xs.map (fun x => keyN x.1) → Reps K F (xs.map fun x => V.ref x.2.1) (ds.map fun kv => enc kv.1) → Vals us (xs.map (·.2.2)) → Reps K F us (ds.map fun kv => enc kv.2) → DNR K F ds xs
  | [], [], _, _, _, _, _ => .nil
  | p :: ds, x :: xs, u :: us, h, .cons r1 r2, .cons q1 q2, .cons t1 t2 => by
    have h' : enc p.1 :: ds.map (fun kv => enc kv.1) = keyN x.1 :: xs.map (fun x => keyN x.1) := h
    injection h' with h1 h2
    rw [NKc.encN] at h1
    exact .cons ⟨keyN_inj h1, r1, u, q1, t1⟩ (DNR.of h2 r2 q2 t2)
theorem DNR.keys : ∀ {ds : List (κ × α)} {xs : List NEnt}, DNR K F ds xs → ds.map (fun kv => enc kv.1) = xs.map (fun x => keyN x.1)
  | _, _, .nil => rfl
  | p :: ds, x :: xs, .cons r rs => by
    rw [List.map_cons, List.map_cons, DNR.keys rs, NKc.encN, r.1]
theorem DNR.kreps : ∀ {ds : List (κ × α)} {xs : List NEnt}, DNR K F ds xs → Reps K F (xs.map fun x => V.ref x.2.1) (ds.map fun kv => enc kv.1)
  | _, _, .nil => .nil
  | _, _, .cons r rs => .cons r.2.1 (DNR.kreps rs)
theorem DNR.vals : ∀ {ds : List (κ × α)} {xs : List NEnt}, DNR K F ds xs → ∃ us, Vals us (xs.map (·.2.2)) ∧ Reps K F us (ds.map fun kv => enc kv.2)
  | _, _, .nil => ⟨[], .nil, .nil⟩
  | _, _, .cons r rs => by
    obtain ⟨us, h1, h2⟩ := DNR.vals rs
    obtain ⟨_, _, u, q1, q2⟩ := r
    exact ⟨u :: us, .cons q1 h1, .cons q2 h2⟩
theorem DNR.root {a : Addr} {ds : List (κ × α)} {xs : List NEnt} (h : DNR K F ds xs) : Root K F a (nO K a xs) (enc (DicN.mk ds)) := by
  obtain ⟨us, h1, h2⟩ := h.vals
  exact .dN h.keys h.kreps h1 h2
theorem DNR.mono {F' : Hp} (e : Ex F F') : ∀ {ds : List (κ × α)} {xs : List NEnt}, DNR K F ds xs → DNR K F' ds xs
  | _, _, .nil => .nil
  | _, _, .cons ⟨h1, h2, u, h3, h4⟩ rs => .cons ⟨h1, Rep.mono e h2, u, h3, Rep.mono e h4⟩ (DNR.mono e rs)
theorem DNR.len : ∀ {ds : List (κ × α)} {xs : List NEnt}, DNR K F ds xs → ds.length = xs.length
  | _, _, .nil => rfl
  | _, _, .cons _ rs => congrArg (· + 1) (DNR.len rs)
theorem DNR.nkeys {H : Hp} (e : Ex F H) (h8 : NKc.d κ ≤ 8) : ∀ {ds : List (κ × α)} {xs : List NEnt}, DNR K F ds xs → ∀ x ∈ xs, NKey K H x.2.1 x.1
  | _, _, .nil, _, hx => nomatch hx
  | p :: _, y :: _, .cons ⟨h1, h2, _⟩ rs, x, hx => by
    rcases List.mem_cons.mp hx with z | z
    · subst z
      refine ⟨?_, ?_⟩
      · rw [← h1, ← NKc.encN]
        exact Rep.mono e h2
      · rw [← h1]
        exact Nat.le_trans (NKc.hd p.1) h8
    · exact DNR.nkeys e h8 rs x z
variable [DecidableEq κ]
theorem DNR.get (k : κ) : ∀ {ds : List (κ × α)} {xs : List NEnt}, DNR K F ds xs → (lk ds k = none ∧ atKey xs (NKc.nk k) = none) ∨ ∃ a p u, lk ds k = some a ∧ atKey xs (NKc.nk k) = some p ∧ RelV u p.2 ∧ Rep K F u (enc a)
  | [], [], .nil => .inl ⟨rfl, rfl⟩
  | p :: ds, x :: xs, .cons ⟨h1, h2, u, h3, h4⟩ rs => by
    by_cases h : p.1 = k
    · refine .inr ⟨p.2, x.2, u, ?_, ?_, h3, h4⟩
      · simp [lk, h]
      · have : x.1 = NKc.nk k := by rw [← h1, h]
        simp [atKey, this]
    · have h2' : ¬ x.1 = NKc.nk k := fun z => h (NKc.inj (by rw [h1, z]))
      have e1 : lk (p :: ds) k = lk ds k := by simp [lk, h]
      have e2 : atKey (x :: xs) (NKc.nk k) = atKey xs (NKc.nk k) := by simp [atKey, h2']
      rw [e1, e2]
      exact DNR.get k rs
theorem DNR.any (k : κ) : ∀ {ds : List (κ × α)} {xs : List NEnt}, DNR K F ds xs → (ds.any fun kv => decide (kv.1 = k)) = (atKey xs (NKc.nk k)).isSome
  | [], [], .nil => rfl
  | p :: ds, x :: xs, .cons ⟨h1, h2, u, h3, h4⟩ rs => by
    by_cases h : p.1 = k
    · have : x.1 = NKc.nk k := by rw [← h1, h]
      simp [atKey, this, h]
    · have h2' : ¬ x.1 = NKc.nk k := fun z => h (NKc.inj (by rw [h1, z]))
      have e2 : atKey (x :: xs) (NKc.nk k) = atKey xs (NKc.nk k) := by simp [atKey, h2']
      rw [e2, List.any_cons, decide_eq_false h, Bool.false_or]
      exact DNR.any k rs
theorem DNR.rmap (k : κ) {a : α} {u : V} {v : Value} (hv : RelV u v) (ha : Rep K F u (enc a)) : ∀ {ds : List (κ × α)} {xs : List NEnt}, DNR K F ds xs → DNR K F (ds.map fun kv => if kv.1 = k then (kv.1, a) else kv) (xs.map (putAt (NKc.nk k) v))
  | [], [], .nil => .nil
  | p :: ds, x :: xs, .cons ⟨h1, h2, w, h3, h4⟩ rs => by
    refine .cons ?_ (DNR.rmap k hv ha rs)
    by_cases h : p.1 = k
    · have h2' : x.1 = NKc.nk k := by rw [← h1, h]
      have e2 : putAt (NKc.nk k) v x = (x.1, x.2.1, v) := by simp [putAt, h2']
      show DNP K F (if p.1 = k then (p.1, a) else p) _
      rw [e2, if_pos h]
      exact ⟨h1, h2, u, hv, ha⟩
    · have h2' : ¬ x.1 = NKc.nk k := fun z => h (NKc.inj (by rw [h1, z]))
      have e2 : putAt (NKc.nk k) v x = x := by simp [putAt, h2']
      show DNP K F (if p.1 = k then (p.1, a) else p) _
      rw [e2, if_neg h]
      exact ⟨h1, h2, w, h3, h4⟩
theorem DNR.app : ∀ {ds ds' : List (κ × α)} {xs xs' : List NEnt}, DNR K F ds xs → DNR K F ds' xs' → DNR K F (ds ++ ds') (xs ++ xs')
  | _, _, _, _, .nil, s => s
  | _, _, _, _, .cons r rs, s => .cons r (DNR.app rs s)
theorem DNR.put (k : κ) {a : α} {b : Addr} {u : V} {v : Value} (hb : Rep K F (.ref b) (enc k)) (hv : RelV u v) (ha : Rep K F u (enc a)) {ds : List (κ × α)} {xs : List NEnt} (h : DNR K F ds xs) : DNR K F (pt ds k a) (storedH xs (NKc.nk k) b v) := by
  unfold pt storedH
  rw [h.any k]
  split
  · exact h.rmap k hv ha
  · exact h.app (.cons ⟨rfl, hb, u, hv, ha⟩ .nil)
end
theorem rootN_inv {κ α : Type} [Enc κ] [Enc α] [t : NKc κ] {K : Kx} {F : Hp} {a : Addr} {o : HO} {d : DicN κ α} (h : Root K F a o (enc d)) : ∃ xs, o = nO K a xs ∧ DNR K F d.kvs xs := by
  have h' : Root K F a o (.dcn (d.kvs.map fun kv => enc kv.1) (d.kvs.map fun kv => enc kv.2)) := h
  cases h' with
  | dN h1 h2 h3 h4 => exact ⟨_, rfl, .of h1 h2 h3 h4⟩
theorem keyref {κ : Type} [Enc κ] [NKc κ] [NRef κ] {K : Kx} {F : Hp} {y : V} {k : κ} (r : Rep K F y (enc k)) : ∃ b, y = .ref b := by
  obtain ⟨ks, h⟩ := NRef.tup k
  rw [NKc.encN, h] at r
  have r' : Rep K F y (.tup (keyNs ks)) := r
  cases r' with
  | tup _ _ => exact ⟨_, rfl⟩
section
variable {c : Cc} {xe env : Cells} {td ty tv tx : TE} {κ α γ : Type} [Enc κ] [Enc α] [NKc κ] [NRef κ] [DecidableEq κ]
theorem nkey_of {F H : Hp} {b : Addr} {k : κ} (r : Rep c.K F (.ref b) (enc k)) (e : Ex F H) (h8 : NKc.d κ ≤ 8) : NKey c.K H b (NKc.nk k) := ⟨by rw [← NKc.encN]; exact Rep.mono e r, Nat.le_trans (NKc.hd k) h8⟩
def getN {κ α : Type} [DecidableEq κ] (d : DicN κ α) (k : κ) : M α :=
  match lk d.kvs k with
  | some v => .ok v
  | none => .error .stuck
theorem wp_getN {κ α : Type} [DecidableEq κ] {d : DicN κ α} {k : κ} {Qk : α → Prop} {Qx : String → List D → Prop} (w : WP (getN d k) Qk Qx) : ∃ x, lk d.kvs k = some x ∧ Qk x := by
  unfold getN at w
  cases h : lk d.kvs k with
  | none =>
    rw [h] at w
    exact w.elim
  | some x =>
    rw [h] at w
    exact ⟨x, rfl, w⟩
/-- {} -/
theorem e_dict0N : EvP c .new (tDNewN c.K) env (.ok (DicN.mk ([] : List (κ × α)))) := fun σ F H Q R w =>
  fun p hp => w _ F _ (.made R.exF hp) ⟨p, _, rfl, hp, upd_same, ex_none R.exF hp, (DNR.root (κ := κ) (α := α) .nil)⟩
/-- d[k] -/
theorem e_dgetN {md : M (DicN κ α)} {mk : M κ} (hd : EvP c .see td env md) (hk : EvP c .dat ty env mk) [h8 : D8 κ] : EvP c .dat (tNGet c.K td ty) env (M.bind md fun d => M.bind mk fun k => getN d k) := fun σ F H Q R w => by
  refine hd σ F H _ R ((wp_bind.mp w).imp (fun d w1 x F1 H1 g1 r1 => ?_) fun _ _ x => x)
  refine hk σ F1 H1 _ (R.g g1) ((wp_bind.mp w1).imp (fun k w2 y F2 H2 g2 r2 => ?_) fun _ _ x => x.grow g1)
  obtain ⟨p, o, rfl, hp, hr⟩ := r1.grow g2
  obtain ⟨xs, rfl, r⟩ := rootN_inv hr
  obtain ⟨b, rfl⟩ := keyref (κ := κ) r2
  obtain ⟨z, hz, q⟩ := wp_getN w2
  rcases r.get k with ⟨h1, _⟩ | ⟨a, e, u, h1, h2, h3, h4⟩
  · rw [hz] at h1
    cases h1
  · rw [hz] at h1
    cases h1
    exact ⟨p, b, xs, _, e, u, rfl, rfl, ⟨hp, r.nkeys g2.fh D8.le⟩, nkey_of r2 g2.fh D8.le, h2, h3, q u F2 H2 (g1.trans g2) h4⟩
def hasN {κ α : Type} [DecidableEq κ] (d : DicN κ α) (k : κ) : Bool := (lk d.kvs k).isSome
theorem has_get {F : Hp} {d : DicN κ α} {xs : List NEnt} (r : DNR c.K F d.kvs xs) (k : κ) : (atKey xs (NKc.nk k)).isSome = hasN d k := by
  unfold hasN
  rcases r.get k with ⟨h1, h2⟩ | ⟨a, e, u, h1, h2, _⟩ <;> rw [h1, h2] <;> rfl
/-- k in d -/
theorem e_dinN {md : M (DicN κ α)} {mk : M κ} (hk : EvP c .dat ty env mk) (hd : EvP c .see td env md) [h8 : D8 κ] : EvP c .dat (tNIn c.K (fun b => b) ty td) env (M.bind mk fun k => M.bind md fun d => .ok (hasN d k)) := fun σ F H Q R w => by
  refine hk σ F H _ R ((wp_bind.mp w).imp (fun k w1 y F1 H1 g1 r1 => ?_) fun _ _ x => x)
  refine hd σ F1 H1 _ (R.g g1) ((wp_bind.mp w1).imp (fun d q x F2 H2 g2 r2 => ?_) fun _ _ x => x.grow g1)
  obtain ⟨p, o, rfl, hp, hr⟩ := r2
  obtain ⟨xs, rfl, r⟩ := rootN_inv hr
  obtain ⟨b, rfl⟩ := keyref (κ := κ) r1
  refine ⟨p, b, xs, NKc.nk k, rfl, rfl, ⟨hp, r.nkeys g2.fh D8.le⟩, nkey_of (Rep.mono g2.f r1) g2.fh D8.le, ?_⟩
  rw [has_get r k]
  exact q _ F2 H2 (g1.trans g2) .bl
theorem e_dninN {md : M (DicN κ α)} {mk : M κ} (hk : EvP c .dat ty env mk) (hd : EvP c .see td env md) [h8 : D8 κ] : EvP c .dat (tNIn c.K (fun b => !b) ty td) env (M.bind mk fun k => M.bind md fun d => .ok (!hasN d k)) := fun σ F H Q R w => by
  refine hk σ F H _ R ((wp_bind.mp w).imp (fun k w1 y F1 H1 g1 r1 => ?_) fun _ _ x => x)
  refine hd σ F1 H1 _ (R.g g1) ((wp_bind.mp w1).imp (fun d q x F2 H2 g2 r2 => ?_) fun _ _ x => x.grow g1)
  obtain ⟨p, o, rfl, hp, hr⟩ := r2
  obtain ⟨xs, rfl, r⟩ := rootN_inv hr
  obtain ⟨b, rfl⟩ := keyref (κ := κ) r1
  refine ⟨p, b, xs, NKc.nk k, rfl, rfl, ⟨hp, r.nkeys g2.fh D8.le⟩, nkey_of (Rep.mono g2.f r1) g2.fh D8.le, ?_⟩
  rw [has_get r k]
  exact q _ F2 H2 (g1.trans g2) .bl
/-- len(d) -/
theorem o_lenN [h8 : D8 κ] : Op1 c .see .dat (fun x => rLenN c.K [x]) (fun (d : DicN κ α) => .ok (d.kvs.length : Int)) := fun σ F H d x Q e r w => by
  obtain ⟨p, o, rfl, hp, hr⟩ := r
  obtain ⟨xs, rfl, r⟩ := rootN_inv hr
  refine ⟨p, xs, rfl, ⟨hp, r.nkeys e D8.le⟩, ?_⟩
  rw [← r.len]
  exact w _ F H (.refl e) .int
variable {N B R : Type} {pn : N → Cells} {pb : B → Cells} {ret : RetP R} {u : TS} {i j : Nat}
/-- d[k] = v -/
theorem s_dputN {b : Bool} {d : DicN κ α} {mv : M α} {mk : M κ} {k : α → κ → M (Fl N B R)} (he : env[i]? = some (some (.own b (enc d)))) (hv : EvP c .dat tv env mv) (hk : EvP c .dat ty env mk) (hx : Le xe env)
    (hu : ∀ a x, StX c xe u (env.set i (some (.own b (enc (DicN.mk (pt d.kvs x a)))))) (k a x) pn pb ret) [h8 : D8 κ] :
    StX c xe (tSeq (sNPut c.K (tVar i) ty tv) u) env (M.bind mv fun a => M.bind mk fun x => chk (decide (d.kvs.length < LIM)) (k a x)) pn pb ret := fun σ F H Dn S w => by
  obtain ⟨v, h1, l, rfl, ⟨o, h3, h4⟩, h5, h6, h7⟩ := S.cell i _ he
  obtain ⟨xs, rfl, r⟩ := rootN_inv h4
  refine hv σ F H _ S ((wp_bind.mp w).imp (fun a w1 va F1 H1 g1 r1 => ?_) fun n p x => x.xp S hx)
  refine ⟨_, h1, ?_⟩
  refine hk σ F1 H1 _ (S.g g1) ((wp_bind.mp w1).imp (fun x w2 y F2 H2 g2 r2 => ?_) fun n p x => x.xp (S.g g1) hx)
  have g := g1.trans g2
  obtain ⟨w3, w4⟩ := wp_chk w2
  have w3 := of_decide_eq_true w3
  obtain ⟨bb, rfl⟩ := keyref (κ := κ) r2
  have r' := r.mono g.f
  refine ⟨l, bb, xs, NKc.nk x, rfl, rfl, ⟨g.h _ _ h3, r'.nkeys g.fh D8.le⟩, nkey_of r2 g.fh D8.le, by rw [← r.len]; exact lim_line w3, fun uu ru => ?_⟩
  exact hu a x σ F2 _ Dn ((S.g g).write he h1 (r'.put x r2 ru (Rep.mono g2.f r1)).root) w4
/-- {k: v}: one pair -/
theorem e_disp1N {mk : M κ} {mv : M α} (hk : EvP c .dat ty env mk) (hv : EvP c .dat tv env mv) [h8 : D8 κ] : EvP c .new (tNDisp c.K ty tv) env (M.bind mk fun k => M.bind mv fun a => .ok (DicN.mk [(k, a)])) := fun σ F H Q R w => by
  intro p hp
  have R1 : RS c env σ F (upd H p (nO c.K p [])) := R.made hp
  have g0 : Grow F H F (upd H p (nO c.K p [])) := .made R.exF hp
  refine hk σ F _ _ R1 ((wp_bind.mp w).imp (fun k w1 y F1 H1 g1 r1 => ?_) fun n p x => x.grow g0)
  refine hv σ F1 H1 _ (R1.g g1) ((wp_bind.mp w1).imp (fun a q v F2 H2 g2 r2 => ?_) fun n p x => (x.grow g0).grow g1)
  have g := g1.trans g2
  have hp2 : H2 p = some (nO c.K p []) := g.h _ _ upd_same
  have hF2 : F2 p = none := g.n p (ex_none R.exF hp) (by rw [upd_same]; simp)
  have r1' := Rep.mono g2.f r1
  obtain ⟨b, rfl⟩ := keyref (κ := κ) r1'
  refine ⟨b, NKc.nk k, rfl, hp2, nkey_of r1' g2.fh D8.le, fun uu ru => ?_⟩
  have r : DNR c.K F2 [(k, a)] [(NKc.nk k, b, uu)] := .cons ⟨rfl, r1', v, ru, r2⟩ .nil
  have g3 := g0.trans g
  exact q _ F2 _ ⟨g3.f, Ex.mut g3.h hp, Ex.mut g.fh hF2, g3.n⟩ ⟨p, _, rfl, hp, upd_same, hF2, r.root⟩
/-- what setdefault gives and leaves -/
def setdN {κ α : Type} [DecidableEq κ] (d : DicN κ α) (k : κ) (v : α) : DicN κ α × α :=
  match lk d.kvs k with
  | some a => (d, a)
  | none => (DicN.mk (pt d.kvs k v), v)
/-- d.setdefault(k, v) -/
theorem x_setd {b : Bool} {post : DicN κ α → Cells} {d : DicN κ α} {mk : M κ} {mv : M α} (he : env[j]? = some (some (.own b (enc d)))) (hk : EvP c .dat ty env mk) (hv : EvP c .dat tx env mv) (hx : Le xe env) (hp : ∀ e, post e = env.set j (some (.own b (enc e)))) [h8 : D8 κ] :
    EvX c xe (tNSetd c.K (tVar j) ty tx) env (M.bind mk fun k => M.bind mv fun a => chk (decide (d.kvs.length < LIM)) (.ok (setdN d k a))) post := fun σ F H Q S w => by
  obtain rfl : post = fun e => env.set j (some (.own b (enc e))) := funext hp
  obtain ⟨v, h1, l, rfl, ⟨o, h3, h4⟩, h5, h6, h7⟩ := S.cell j _ he
  obtain ⟨xs, rfl, r⟩ := rootN_inv h4
  refine ⟨_, h1, l, xs, rfl, ⟨h3, r.nkeys S.exF D8.le⟩, ?_⟩
  refine hk σ F H _ S ((wp_bind.mp w).imp (fun k w1 y F1 H1 g1 r1 => ?_) fun n p x => x.xp S hx)
  refine hv σ F1 H1 _ (S.g g1) ((wp_bind.mp w1).imp (fun a w2 z F2 H2 g2 r2 => ?_) fun n p x => x.xp (S.g g1) hx)
  have g := g1.trans g2
  obtain ⟨w3, w4⟩ := wp_chk w2
  have w3 := of_decide_eq_true w3
  obtain ⟨bb, rfl⟩ := keyref (κ := κ) r1
  have r1' := Rep.mono g2.f r1
  have r' := r.mono g.f
  refine ⟨bb, xs, NKc.nk k, rfl, ⟨g.h _ _ h3, r'.nkeys g.fh D8.le⟩, nkey_of r1' g.fh D8.le, by rw [← r.len]; exact lim_line w3, fun p hp => ?_, fun hn uu ru => ?_⟩
  · rcases r'.get k with ⟨q1, q2⟩ | ⟨a', e, u', q1, q2, q3, q4⟩
    · rw [hp] at q2
      cases q2
    · rw [hp] at q2
      cases q2
      have e : setdN d k a = (d, a') := by unfold setdN; rw [q1]
      rw [e] at w4
      refine ⟨u', q3, w4 u' F2 H2 ?_ g.f q4⟩
      have z : env.set j (some (.own b (enc d))) = env := by
        apply List.ext_getElem?
        intro m
        by_cases hm : j = m
        · subst hm
          rw [List.getElem?_set_self (List.getElem?_eq_some_iff.mp he).1, he]
        · rw [List.getElem?_set_ne hm]
      show RS c (env.set j (some (.own b (enc d)))) σ F2 H2
      rw [z]
      exact S.g g
  · rcases r'.get k with ⟨q1, q2⟩ | ⟨a', e, u', q1, q2, q3, q4⟩
    · have e : setdN d k a = (DicN.mk (pt d.kvs k a), a) := by unfold setdN; rw [q1]
      rw [e] at w4
      exact w4 z F2 _ ((S.g g).write he h1 (r'.put k r1' ru r2).root) g.f r2
    · rw [hn] at q2
      cases q2
end
section
variable {c : Cc} {xe env : Cells} {ty tv : TE} {κ α S : Type} [Enc κ] [Enc α] [KeyT κ] [DecidableEq κ] {N B R : Type} {pn : N → Cells} {pb : B → Cells} {ret : RetP R} {u : TS} {i : Nat}
/-- d[k] = v, the value written by an expression that writes another root -/
theorem s_dputX {b : Bool} {d : Dic κ α} {mv : M (S × α)} {post : S → Cells} {mk : S → M κ} {k : S × α → κ → M (Fl N B R)} (hv : EvX c xe tv env mv post) (he : ∀ s, (post s)[i]? = some (some (.own b (enc d)))) (hk : ∀ s, EvP c .dat ty (post s) (mk s)) (hx : ∀ s, Le xe (post s))
    (hu : ∀ (sa : S × α) x, StX c xe u ((post sa.1).set i (some (.own b (enc (Dic.mk (pt d.kvs x sa.2)))))) (k sa x) pn pb ret) :
    StX c xe (tSeq (sDPut (tVar i) ty tv) u) env (M.bind mv fun sa => M.bind (mk sa.1) fun x => chk (decide (d.kvs.length < LIM)) (k sa x)) pn pb ret := fun σ F H Dn Z w => by
  refine hv σ F H _ Z ((wp_bind.mp w).imp (fun sa w1 va F1 H1 S1 e1 r1 => ?_) fun n p x => x)
  obtain ⟨v, h1, l, rfl, ⟨o, h3, h4⟩, h5, h6, h7⟩ := S1.cell i _ (he sa.1)
  obtain ⟨kvs, rfl, r⟩ := rootD_inv h4
  refine ⟨_, h1, ?_⟩
  refine hk sa.1 σ F1 H1 _ S1 ((wp_bind.mp w1).imp (fun x w2 y F2 H2 g2 r2 => ?_) fun n p x => x.xp S1 (hx sa.1))
  obtain ⟨w3, w4⟩ := wp_chk w2
  have w3 := of_decide_eq_true w3
  have e := KeyT.rep (show Rep c.K F2 y (enc x) from r2)
  subst e
  refine ⟨l, _, rfl, DPut.k (g2.h _ _ h3) (by rw [← r.len]; exact lim_line w3), ?_⟩
  exact hu sa x σ F2 _ Dn ((S1.g g2).write (he sa.1) h1 ((r.mono g2.f).put x (Rep.mono g2.f r1)).root) w4
end
end HW

set_option Elab.async false
set_option linter.all false
set_option maxRecDepth 100000
set_option maxHeartbeats 2000000
set_option autoImplicit false
namespace HW
open PySem PySem.Spec L2 PyProof.Rows
open Evl (Ex)

/-! ### code that is never come to -/
section
variable {X : Cx}
theorem pe_any {e : Expr} : PE X e (fun _ _ _ => False) := ⟨fun _ _ _ _ _ _ h => h.elim⟩
theorem ps_any {st : Stmt} : PS X st (fun _ _ _ => False) := ⟨fun _ _ _ _ _ _ h => h.elim⟩
theorem pss_any {ss : List Stmt} : PSs X ss (fun _ _ _ => False) := ⟨fun _ _ _ _ _ _ h => h.elim⟩
end

/-! ### enumerate(text) -/
def ItS (x : Str) : It :=
  ⟨fun i H => i < x.cps.size, fun i H v H' => ∃ T ch, v = .ref T ∧ H T = none ∧ H' = upd H T (.tup [.int (i : Nat), .str ⟨#[ch]⟩]) ∧ x.cps[i]? = some ch, fun i H => x.cps.size ≤ i⟩
theorem drawsS {prog : Program} {w : World} {A : Around} (hh : A.handled = none) (it : Addr) (x : Str) (t : Tok) :
    Draws prog w A it [it] x.cps.size (fun i v => ∃ c u, x.cps[i]? = some c ∧ v = .str ⟨#[c]⟩ u) (fun i h => h.IsStrIter it (strIterType x) x t i) := by
  unfold strIterType
  split
  · exact Draws.strAscii hh it x t
  · exact Draws.strWide hh it x t
theorem turn_enumS {P : Program} {w : World} {K : PySem.W.Frag} {elts : List Expr} {kk : Nat} {tpos : Pos} (x : Str) (t : Tok) (e it : Addr) :
    Turn P w K (.Tuple elts kk tpos) (ItS x) [e, it] e (fun i h => (∃ old, IsEnum h e it ((i : Nat) : Int) old) ∧ h.IsStrIter it (strIterType x) x t i ∧ i ≤ x.cps.size ∧ e ≠ it) where
  mem := by simp
  obj := fun i h st b hb => by
    obtain ⟨⟨old, he⟩, ⟨o, ho, hc, hd⟩, _⟩ := st
    have e' : b = e ∨ b = it := by simpa using hb
    rcases e' with z | z
    · rw [z]; exact ⟨_, he, fun v q => nomatch q⟩
    · rw [z]; exact ⟨o, ho, fun v q => by rw [hd] at q; cases q⟩
  keep := fun i h h' st k => let ⟨⟨old, he⟩, ⟨o, ho, r⟩, hi, hne⟩ := st; ⟨⟨old, k e (by simp) _ he⟩, ⟨o, k it (by simp) o ho, r⟩, hi, hne⟩
  item := by
    intro X hP hw hK hc i pins s σ H E I hf st hg
    subst hP hw hK
    obtain ⟨⟨old, he⟩, hit, _, hne⟩ := st
    have hel : e < s.heap.objs.size := Heap.lt_size he
    have hil : it < s.heap.objs.size := by obtain ⟨_, q, _⟩ := hit; exact Heap.lt_size q
    refine wpAny_pyNext_enum_itemD (drawsS (A := X.A.in1) (I.ok.hd hc) it x t) he hit hg hne (by simpa using hne) fun u h' tk hPx ho hit' hT hsz hk => ?_
    obtain ⟨ch, v, hx, rfl⟩ := hPx
    refine ⟨_, rfl, wpAny_letOwnedTupleGo_enum (s := { s with heap := h', toks := tk + 1 }) ho fun h'' he' sb => ?_⟩
    have hT2 : h''.get? s.heap.objs.size = some { cls := .type "tuple", data := .seq #[.int i tk, .str ⟨#[ch]⟩ v] } := (sb.2 _ (Nat.ne_of_gt hel)).trans hT
    have new : ObjOk X.prog X.w (upd H s.heap.objs.size (.tup [.int (i : Nat), .str ⟨#[ch]⟩])) h'' s.heap.objs.size (.tup [.int (i : Nat), .str ⟨#[ch]⟩]) :=
      ⟨by show 2 ≤ sizeLine; decide, [.int i tk, .str ⟨#[ch]⟩ v], .cons ⟨_, rfl⟩ (.cons ⟨_, rfl⟩ .nil), ⟨_, hT2, rfl, _, rfl⟩⟩
    have I1 : Inv X pins σ (upd H s.heap.objs.size (.tup [.int (i : Nat), .str ⟨#[ch]⟩])) { s with heap := h'', toks := tk + 1 } :=
      I.turnedNew (ch := [e, it]) (fun b ob hb q => (sb.2 b (fun z => hb (by simp [z]))).trans (hk b ob (fun z => hb (by simp [z])) (fun z => hb (by simp [z])) q)) hf (Nat.le_refl _) new
    refine ⟨.ref s.heap.objs.size, _, I1, rfl, ⟨_, ch, rfl, I.hok.fresh (Nat.le_refl _), rfl, hx⟩, ⟨⟨.str ⟨#[ch]⟩ v, ?_⟩, ?_, hg, hne⟩, fun b hb => ?_⟩
    · have e1 : ((i + 1 : Nat) : Int) = (i : Int) + 1 := by omega
      rw [e1]; exact he'
    · obtain ⟨o, ho2, r⟩ := hit'
      exact ⟨o, (sb.2 it (Ne.symm hne)).trans ho2, r⟩
    · have hb' : b < s.heap.objs.size := by
        have e' : b = e ∨ b = it := by simpa using hb
        rcases e' with z | z
        · rw [z]; exact hel
        · rw [z]; exact hil
      rw [upd_ne (Nat.ne_of_lt hb')]
      exact (hf b hb).1
  done := by
    intro X hP hw hK hc i pins s σ H E I hf st hg
    subst hP hw hK
    obtain ⟨⟨old, he⟩, hit, hle, hne⟩ := st
    have hi : i = x.cps.size := Nat.le_antisymm hle hg
    obtain ⟨f0, f1, f2, f3, f4, f5⟩ := hf it (by simp)
    exact wpAny_pyNext_enum_endD (drawsS (A := X.A.in1) (I.ok.hd hc) it x t) he (by rw [← hi]; exact hit) fun h' eb => ⟨rfl, I.turned (t' := s.toks) (fun b o hb q => eb b o hb q) f0 f1 f3 f4 f5⟩
  self := fun A i s Q E st h => let ⟨⟨_, he⟩, _⟩ := st; wpAny_pyIter_enum he h
def iEnumS (te : TE) : TI := fun σ H R => te σ H fun v H1 => ∃ x, v = .str x ∧ R (ItS x) H1
theorem pi_enumS {X : Cx} {e : Expr} {te : TE} {p pos tpos : Pos} {elts : List Expr} {kk : Nat} (hg : Gl X "enumerate") (hm : X.mg "enumerate" = none) (ha : PE X e te) (hs : starEach [e] X.env = [(false, eval e X.env)] := by rfl) :
    PI X (.Tuple elts kk tpos) (.Call (.Name "enumerate" p) [e] [] pos) (iEnumS te) := by
  refine ⟨fun pins s σ H R I h => ?_⟩
  have ha' : PA X [e] (tCons te tNil) := pa_cons ha pa_nil hs
  refine Call_ (ld_blt I hg hm boot_enumerate (PyProof.Rows.callWith_type1 (thn (ha'.run pos pins s σ H (fun vs H1 => match vs with | [v] => ∃ x, v = .str x ∧ R (ItS x) H1 | _ => False) I h) fun us s1 ⟨vs, H1, I1, r1, q1⟩ => ?_) hs rfl))
  · cases r1 with
    | nil => exact q1.elim
    | cons r rr =>
      cases rr with
      | cons _ _ => exact q1.elim
      | nil =>
      obtain ⟨x, rfl, q⟩ := q1
      obtain ⟨t, rfl⟩ := r
      refine call_enumerate_str fun h' he hit hsz hk => wpAny_pyIter_enum he ?_
      have I2 : Inv X pins σ H1 { s1 with heap := h' } := I1.kept (t' := s1.toks) hk
      refine ⟨s1.heap.objs.size + 1, [s1.heap.objs.size + 1, s1.heap.objs.size], _, _, H1, rfl, I2, turn_enumS x t (s1.heap.objs.size + 1) s1.heap.objs.size, ⟨⟨.none, he⟩, hit, Nat.zero_le _, Nat.succ_ne_self _⟩, fun b hb => ?_, q⟩
      have e' : b = s1.heap.objs.size + 1 ∨ b = s1.heap.objs.size := by simpa using hb
      have hle : s1.heap.objs.size ≤ b := by
        rcases e' with z | z
        · rw [z]; exact Nat.le_add_right _ _
        · rw [z]; exact Nat.le_refl _
      exact I1.fpOk hle (I1.hok.fresh hle)

/-! ### raise X() -/
theorem pmk_own0 {X : Cx} {C : Addr} {bmB : List Value} {B newId initId : String} {x : Str} {p pos : Pos} (F : ExcBaseFacts B newId initId bmB) (q : PySem.W.excIn X.K C bmB newId = true) (gC : X.mg x = some (.ref C)) (kC : PySem.W.keepIn X.K (.ref C) = true) (r : Raises X (.ref C)) (hg : Gl X x)
    (hdb : (x == ("__debug__" : Str)) = false := by decide) : PMk X (.Call (.Name x p) [] [] pos) (fun _ H Q => Q (.ref C) none H) := by
  intro pins s σ H Q I h
  refine wpAny_Call_Name_kw (ld_glob I hg gC ?_ hdb)
  refine PySem.W.callWith_K0 I.kIn kC ?_
  obtain ⟨bm, N, nm, qn, bs, hdct, sn, sub, ab, col, dd, k0, k1, k2, k3, k5, mN, hC, hN, hni, T⟩ := exc_obj I.kIn q
  refine wpAny_call_exc_subT F T hC hN hni (fun h' e hm => ?_) (by show 0 ≤ sizeLine; exact Nat.zero_le _)
  exact mk_of I hm r h (I.hok.gone hm.new)

theorem paired_at {α β : Type} {F : α → β → Prop} : ∀ {xs : List α} {ys : List β}, Paired F xs ys → ∀ {i : Nat} {x : α}, xs[i]? = some x → ∃ y, ys[i]? = some y ∧ F x y
  | _, _, .nil, i, x, h => by cases h
  | _, _, .cons r t, 0, x, h => by
    have e := Option.some.inj h
    subst e
    exact ⟨_, rfl, r⟩
  | _, _, .cons r t, i + 1, x, h => paired_at t h
/-! ### list(d.values()) -/
def tListVals (te : TE) : TE := fun σ H Q => te σ H fun x H1 => ∃ (d : Addr) (kvs : List (Key × V)), x = .ref d ∧ H1 d = some (.dK kvs) ∧ ∀ q, H1 q = none → Q (.ref q) (upd H1 q (.lst (kvs.map (·.2))))
theorem pe_listVals {X : Cx} {e : Expr} {te : TE} {p apos cpos pos : Pos} (hc : X.calm = true) (hg : Gl X "list") (hm : X.mg "list" = none) (he : PE X e te) (hv : bootBuiltins "list" = some (.type "list") := by decide +kernel) (hbase : attributeBase e "values" X.env (eval e X.env) = eval e X.env := by rfl) (hline : (apos.endLine == cpos.line) = true := by rfl)
    (hs : starEach [.Call (.Attribute e "values" apos) [] [] cpos] X.env = (false, eval (.Call (.Attribute e "values" apos) [] [] cpos) X.env) :: starEach [] X.env := by rfl) :
    PE X (.Call (.Name "list" p) [.Call (.Attribute e "values" apos) [] [] cpos] [] pos) (tListVals te) := by
  refine ⟨fun pins s σ H Q I hq => ?_⟩
  refine wpAny_Call_Name_kw (ld_blt I hg hm hv ?_)
  refine PyProof.Rows.callWith_type1 ?_ hs rfl
  rw [hs]
  show wpAny _ _ (spliced ((false, eval (.Call (.Attribute e "values" apos) [] [] cpos) X.env) :: backTo pos (starEach [] X.env))) _ _ s
  refine Calls.spliced_cons ?_
  refine wpAny_Call_method (T := "dict") (id := "dict.values") hbase rfl hline F.plainAttrs_dict F.slot_dict_values F.type_dict_values (thn (he.run pins s σ H _ I hq) fun u s1 ⟨x, H1, I1, rx, d, kvs, ex, hd, q⟩ => ?_)
  subst ex
  obtain rfl : u = Value.ref d := rx
  obtain ⟨hz, hs0, vs, kv, hdo⟩ := I1.hok d _ hd
  obtain ⟨ep, hat⟩ := hdo.dictAt
  have lk : kvs.length = vs.length := Paired.length kv
  have I2 : Inv X pins σ H1 { s1 with heap := s1.heap.push { cls := .type "dict_values", data := .fields #[.ref d] } } := I1.kept (t' := s1.toks) fun b ob q => Heap.get?_push_of_some _ q
  refine ⟨hdo.typeIs, hdo.mapOf.noDict, ?_⟩
  show wpAny _ _ (callWith cpos (.builtin "dict.values") [.ref d] [] []) _ X.xe s1
  refine method_meetsIn F.slot_dict_values F.entry_dict_values rfl (PySem.evalArgs_none ⟨rfl, hdo.typeIs, F.args_dict_values_1 _, _, meets_dict_values (mixKind X.prog X.w) d hs0, ⟨vs, hdo⟩, ?_⟩)
  refine Calls.spliced_nil ?_
  refine PySem.W.kdl_call (PySem.W.kdl_values (knd := mixKind X.prog X.w) (kvs := vs) (ep := ep)) (I1.ok.hd hc) ⟨⟨_, Heap.get?_push_size _ rfl, rfl, rfl⟩, hat.push _⟩ (by rw [← lk]; exact hz) fun h' tk acc c' hk hS hacc => ?_
  have hn : H1 (s1.heap.push { cls := .type "dict_values", data := .fields #[.ref d] }).objs.size = none := I1.hok.fresh (by rw [Heap.size_push]; exact Nat.le_succ _)
  refine ⟨.ref (s1.heap.push { cls := .type "dict_values", data := .fields #[.ref d] }).objs.size, _, I2.laid (t' := tk) hk (Nat.le_refl _) (show ObjOk X.prog X.w _ _ _ (.lst (kvs.map (·.2))) from ⟨by rw [List.length_map]; exact hz, acc.toList, c', vals_of_at ?_ fun j x u h1 h2 => ?_, ?_⟩), rfl, q _ hn⟩
  · rw [List.length_map, lk, ← hacc.1, Array.length_toList]
  · obtain ⟨k, hk2⟩ := hacc.2 j u (by rw [← Array.getElem?_toList]; exact h2)
    rw [List.getElem?_map] at h1
    cases hj : kvs[j]? with
    | none =>
      rw [hj] at h1
      cases h1
    | some y =>
      rw [hj] at h1
      cases h1
      obtain ⟨z, z1, z2⟩ := paired_at kv hj
      rw [hk2] at z1
      cases z1
      exact z2.2
  · rw [Array.toArray_toList]
    exact hS

/-! ### len(set(xs)), xs ints -/
def dedupI (ns : List Int) : List Int := ns.foldl step_dedup []
theorem firstMet_all (ns : List Int) : firstMet (fun i => ns.getD i 0) ns.length = dedupI ns := by
  unfold firstMet dedupI
  congr 1
  apply List.ext_getElem
  · simp
  · intro i h1 h2
    simp [List.getD_eq_getElem?_getD, List.getElem?_eq_getElem h2]
def tLenSetL (K : PySem.W.Frag) (ta : TE) : TE := fun σ H Q => ta σ H fun x H1 => ∃ (l : Addr) (ns : List Int), x = .ref l ∧ SqL K H1 l (ns.map V.int) ∧ ns.length ≤ 4000 ∧ Q (.int ((dedupI ns).length : Nat)) H1
theorem pe_lenSetL {X : Cx} {a : Expr} {ta : TE} {p p2 q pos : Pos} (hg : Gl X "len") (hm : X.mg "len" = none) (hg2 : Gl X "set") (hm2 : X.mg "set" = none) (ha : PE X a ta) (hc : X.calm = true := by rfl)
    (na : starEach [a] X.env = (false, eval a X.env) :: starEach [] X.env := by rfl) : PE X (.Call (.Name "len" p) [.Call (.Name "set" p2) [a] [] q] [] pos) (tLenSetL X.K ta) := by
  refine ⟨fun pins s σ H Q I h => ?_⟩
  refine Call_ (ld_blt I hg hm boot_len ?_)
  refine PyProof.Rows.callWith_builtin1 (PyProof.Rows.args_cons ?_ rfl) rfl rfl
  refine Call_ (ld_blt I hg2 hm2 boot_set ?_)
  refine PyProof.Rows.callWith_type1 (PyProof.Rows.args_cons (thn (ha.run pins s σ H _ I h) fun v s1 ⟨x, H1, I1, r1, q1⟩ => PyProof.Rows.args_nil ?_) na) na rfl
  obtain ⟨l, ns, rfl, hq, hl, q1⟩ := q1
  cases r1
  obtain ⟨its, r, pl, hz⟩ := I1.list hq
  have hlen : its.toArray.size = ns.length := by rw [List.size_toArray, ← r.length, List.length_map]
  refine call_set_list (I1.ok.hd hc) pl.isList (by simpa using RZ.intsAre_vals r) (by rw [hlen]; unfold scanBound; omega) fun h' tk hS hk => ?_
  refine PyProof.Rows.args_nil ?_
  rw [hlen, firstMet_all] at hS
  obtain ⟨o, es, ep, t, ho, hex, hd, _, _, _, hf, hn⟩ := hS
  have I2 : Inv X pins σ H1 { s1 with heap := h', toks := tk } := I1.kept fun b o e => hk b o (Heap.lt_size e) e
  have hle : (dedupI ns).length ≤ ns.length := by
    rw [← firstMet_all]
    exact firstMet_length_le _ _
  exact call_len_set ho hex hd hf (by rw [hn] <;> omega) ⟨.int (dedupI ns).length, H1, I2.tok _, ⟨_, by rw [hn]⟩, q1⟩
end HW

set_option Elab.async false
set_option linter.all false
set_option maxRecDepth 100000
set_option maxHeartbeats 2000000
set_option autoImplicit false
namespace HW
open PySem PySem.Spec L2 PyProof.Rows
open Evl (Ex)

/-! ### data as the library's data -/
mutual
def pyD : D → PyData
  | .non => .none
  | .bl b => .bool b
  | .int i => .int i
  | .str s => .str ⟨s.toArray⟩
  | .lst xs => .list (pyDs xs)
  | .tup xs => .tuple (pyDs xs)
  | .dct _ _ => .none
  | .dcn _ _ => .none
  | .scr xs => .list (xs.map .int)
def pyDs : List D → List PyData
  | [] => []
  | x :: xs => pyD x :: pyDs xs
end
mutual
def okD : D → Bool
  | .non => true
  | .bl _ => true
  | .int _ => true
  | .str _ => true
  | .lst xs => okDs xs
  | .tup xs => okDs xs
  | .dct _ _ => false
  | .dcn _ _ => false
  | .scr _ => false
def okDs : List D → Bool
  | [] => true
  | x :: xs => okD x && okDs xs
end
mutual
theorem dp_of {K : Kx} {H : Hp} : ∀ {d : D} {v : V}, okD d = true → Rep K H v d → Dp K.fr H v (pyD d)
  | .non, _, _, r => by
    cases r
    exact .non
  | .bl b, _, _, r => by
    cases r
    exact .bl b
  | .int i, _, _, r => by
    cases r
    exact .int i
  | .str s, _, _, r => by
    cases r
    exact .str _
  | .lst xs, _, h, r => by
    cases r with
    | lst h1 h2 => exact .lst (SqL.of h1) (dpAll_of h h2)
  | .tup xs, _, h, r => by
    cases r with
    | tup h1 h2 => exact .tup (SqT.of h1) (dpAll_of h h2)
  | .dct _ _, _, h, _ => nomatch h
  | .dcn _ _, _, h, _ => nomatch h
  | .scr _, _, h, _ => nomatch h
theorem dpAll_of {K : Kx} {H : Hp} : ∀ {ds : List D} {vs : List V}, okDs ds = true → Reps K H vs ds → DpAll K.fr H vs (pyDs ds)
  | [], _, _, r => by
    cases r
    exact .nil
  | d :: ds, _, h, r => by
    cases r with
    | cons r1 r2 =>
      have h' := (Bool.and_eq_true_iff.mp (show (okD d && okDs ds) = true from h))
      exact .cons (dp_of h'.1 r1) (dpAll_of h'.2 r2)
end
section
variable {c : Cc} {xe env : Cells} {k k1 k2 : RK} {te ta tb td ty tv tx : TE} {α β γ : Type} [Enc α] [Enc β] [Enc γ]
/-! ### the type that a method wants -/
theorem ty_list : ∀ (a : List α) (F H : Hp) (x : V), Ex F H → ResIs c .see H F H x (enc a) → tyV c.K.fr "list" x H := fun a F H x e r => by
  obtain ⟨p, o, rfl, hp, hr⟩ := r
  obtain ⟨vs, rfl, hv⟩ := rootL_inv hr
  exact .inl ⟨rfl, vs, SqL.of hp⟩
theorem ty_str : ∀ (a : Txt) (F H : Hp) (x : V), Ex F H → ResIs c .dat H F H x (enc a) → tyV c.K.fr "str" x H := fun a F H x e r => by
  have e1 := repS_inv (show Rep c.K F x (.str a.cs) from r)
  subst e1
  rfl
/-! ### texts -/
def idxAt (cs : List Nat) (ch : Nat) : Option Nat := cs.findIdx? fun x => x == ch
def idxT (t u : Txt) : M Int :=
  match u.cs with
  | [ch] => match idxAt t.cs ch with
    | some i => .ok (i : Int)
    | none => .error .stuck
  | _ => .error .stuck
def rSIndex : V → List V → Hp → VK → Prop := fun x xs H Q => ∃ (a b : Str) (i : Nat) (rest : List Nat), x = .str a ∧ xs = [.str b] ∧ Builtin.Str.occurrences a b 0 a.length 1 = i :: rest ∧ Q (.int (i : Nat)) H
theorem mt_sindexK {X : Cx} : MtR X "str.index" rSIndex := mt_sindex
theorem o_sindex : Op2 c .dat .dat .dat (fun x y => rSIndex x [y]) (fun (a b : Txt) => idxT a b) := fun σ F H a b x y Q e r1 r2 w => by
  have e1 := repS_inv (show Rep c.K F x (.str a.cs) from r1)
  have e2 := repS_inv (show Rep c.K F y (.str b.cs) from r2)
  change WP (idxT a b) _ _ at w
  unfold idxT at w
  split at w
  · rename_i ch hb
    split at w
    · rename_i i hi
      rw [hb] at e2
      have hi' := List.findIdx?_eq_some_iff_getElem.mp hi
      obtain ⟨hl, h1, h2⟩ := hi'
      have hch : a.cs[i] = ch := by simpa using h1
      have at_i : PySem.StrLaws.At (⟨a.cs.toArray⟩ : Str) ⟨#[ch]⟩ (⟨a.cs.toArray⟩ : Str).length i := (PySem.StrLaws.subAt_one _ ch i).mpr (by simp [hl, hch])
      rcases PySem.StrLaws.occ_head (⟨a.cs.toArray⟩ : Str) ⟨#[ch]⟩ 1 (Nat.le_refl _) with ⟨_, hn⟩ | ⟨j, r, ho, hj, hlt⟩
      · exact absurd at_i (hn i)
      · have hj' := (PySem.StrLaws.subAt_one _ ch j).mp hj
        have hje : a.cs[j]? = some ch := by simpa using hj'
        obtain ⟨hjl, hjc⟩ := List.getElem?_eq_some_iff.mp hje
        have hij : j = i := by
          rcases Nat.lt_trichotomy j i with z | z | z
          · exact absurd hjc (by simpa using h2 j z)
          · exact z
          · exact absurd at_i (hlt i z)
        subst hij
        exact ⟨_, _, j, r, e1, by rw [e2], ho, w _ F H (.refl e) .int⟩
    · exact w.elim
  · exact w.elim
/-- sep.join(texts) -/
def joinL' (sep : List Nat) : List Txt → List Nat
  | [] => []
  | [x] => x.cs
  | x :: xs => x.cs ++ sep ++ joinL' sep xs
def joinM (sep : Txt) (xs : List Txt) : M Txt := chk (decide ((xs.map (·.cs.length)).sum + xs.length * sep.cs.length ≤ LIM)) (.ok ⟨joinL' sep.cs xs⟩)
theorem join_cs (sep : List Nat) : ∀ xs : List Txt, Str.join ⟨sep.toArray⟩ (xs.map fun t => (⟨t.cs.toArray⟩ : Str)) = ⟨(joinL' sep xs).toArray⟩
  | [] => rfl
  | [x] => rfl
  | x :: y :: r => by
    have ih := join_cs sep (y :: r)
    rw [List.map_cons] at ih ⊢
    rw [List.map_cons]
    show (⟨x.cs.toArray⟩ : Str) ++ ⟨sep.toArray⟩ ++ Str.join ⟨sep.toArray⟩ ((⟨y.cs.toArray⟩ : Str) :: r.map fun t => (⟨t.cs.toArray⟩ : Str)) = _
    rw [ih]
    show (⟨x.cs.toArray ++ sep.toArray ++ (joinL' sep (y :: r)).toArray⟩ : Str) = ⟨(x.cs ++ sep ++ joinL' sep (y :: r)).toArray⟩
    simp
theorem reps_txt {K : Kx} {F : Hp} : ∀ {vs : List V} {xs : List Txt}, Reps K F vs (xs.map enc) → vs = (xs.map fun t => (⟨t.cs.toArray⟩ : Str)).map V.str
  | _, [], .nil => rfl
  | _, x :: xs, .cons h r => by
    rw [repS_inv (show Rep K F _ (.str x.cs) from h), reps_txt r]
    rfl
theorem join_at {F H : Hp} {Q : VK} {a : Txt} {b : List Txt} {p : Addr} {vs : List V} (hp : H p = some (.lst vs)) (hv : Reps c.K F vs (b.map enc)) {K : PySem.W.Frag} {σ : L2.St} {F0 H0 : Hp} (e : Ex F H) (w : WP (joinM a b) (fun d => ∀ v F' H', Grow F H F' H' → ResIs c .dat H F' H' v (enc d) → Q v H') (XP c σ F0 H0)) :
    ∃ (a' : Str) (p' : Addr) (ys : List Str), (V.str ⟨a.cs.toArray⟩ : V) = .str a' ∧ [V.ref p] = [.ref p'] ∧ (SqL K H p' (ys.map V.str) ∨ SqT K H p' (ys.map V.str)) ∧
      (ys.map (·.length)).sum + ys.length * a'.length ≤ 16777216 ∧ Q (.str (Txt.join a' ys)) H := by
  obtain ⟨w1, w2⟩ := wp_chk w
  have w1 := of_decide_eq_true w1
  have ev := reps_txt hv
  subst ev
  refine ⟨_, p, _, rfl, rfl, .inl (SqL.of hp), ?_, ?_⟩
  · have z : ((b.map fun t => (⟨t.cs.toArray⟩ : Str)).map (·.length)).sum = (b.map (·.cs.length)).sum := by
      rw [List.map_map]
      rfl
    have z2 : (⟨a.cs.toArray⟩ : Str).length = a.cs.length := List.size_toArray
    rw [z, List.length_map, z2]
    exact Nat.le_trans w1 (by decide)
  · rw [TL.join_eq, join_cs]
    exact w2 _ F H (.refl e) (Rep.strOf rfl)
theorem e_join {ma : M Txt} {mb : M (List Txt)} (ha : EvP c .dat ta env ma) (hb : EvP c .see tb env mb) :
    EvP c .dat (tM1 (fun x xs H Q => ∃ a p, ∃ ys : List Str, x = .str a ∧ xs = [.ref p] ∧ (SqL c.K.fr H p (ys.map V.str) ∨ SqT c.K.fr H p (ys.map V.str)) ∧ (ys.map (·.length)).sum + ys.length * a.length ≤ 16777216 ∧ Q (.str (Txt.join a ys)) H) ta tb) env
      (M.bind ma fun a => M.bind mb fun b => joinM a b) := fun σ F H Q R w => by
  refine ha σ F H _ R ((wp_bind.mp w).imp (fun a w1 x F1 H1 g1 r1 => ?_) fun _ _ x => x)
  have e1 := repS_inv (show Rep c.K F1 x (.str a.cs) from r1)
  subst e1
  refine ⟨⟨_, rfl⟩, ?_⟩
  refine hb σ F1 H1 _ (R.g g1) ((wp_bind.mp w1).imp (fun b w2 y F2 H2 g2 r2 => ?_) fun _ _ x => x.grow g1)
  obtain ⟨p, o, rfl, hp, hr⟩ := r2
  obtain ⟨vs, rfl, hv⟩ := rootL_inv hr
  exact join_at hp hv g2.fh (w2.imp (fun d q v F' H' g r => q v F' H' (g1.trans (g2.trans g)) r) fun _ _ x => x.grow (g1.trans g2))
theorem x_join {S1 S2 : Type} {ma : M (S1 × Txt)} {pa : S1 → Cells} {mb : S1 → M (S2 × List Txt)} {pb : S2 → Cells} (ha : EvX c xe ta env ma pa) (hb : ∀ s, EvX c xe tb (pa s) (mb s) pb) (hx : ∀ s, Le xe (pb s)) :
    EvX c xe (tM1 (fun x xs H Q => ∃ a p, ∃ ys : List Str, x = .str a ∧ xs = [.ref p] ∧ (SqL c.K.fr H p (ys.map V.str) ∨ SqT c.K.fr H p (ys.map V.str)) ∧ (ys.map (·.length)).sum + ys.length * a.length ≤ 16777216 ∧ Q (.str (Txt.join a ys)) H) ta tb) env
      (M.bind ma fun sa => M.bind (mb sa.1) fun sb => M.bind (joinM sa.2 sb.2) fun z => .ok (sb.1, z)) pb := fun σ F H Q R w => by
  refine ha σ F H _ R ((wp_bind.mp w).imp (fun sa w1 x F1 H1 R1 e1 r1 => ?_) fun _ _ x => x)
  have q1 := repS_inv (show Rep c.K F1 x (.str sa.2.cs) from r1)
  subst q1
  refine ⟨⟨_, rfl⟩, ?_⟩
  refine hb sa.1 σ F1 H1 _ R1 ((wp_bind.mp w1).imp (fun sb w2 y F2 H2 R2 e2 r2 => ?_) fun _ _ x => x)
  obtain ⟨p, vs, rfl, hp, hv⟩ := repL_inv (show Rep c.K F2 y (.lst (sb.2.map enc)) from r2)
  exact join_at (R2.exF _ _ hp) hv R2.exF ((wp_bind.mp w2).imp (fun d q v F' H' g r => q v F' H' (R2.g g) (e1.trans (e2.trans g.f)) r) fun n p x => x.xp R2 (hx sb.1))
/-! ### truth of a list; any, all, sum; - -/
theorem t_truL {K : PySem.W.Frag} {m : M (List α)} (h : EvP c .see te env m) : EvT c (fun σ H Q => te σ H fun x H' => ∃ k, TruV K x H' k ∧ Q k H') env (M.bind m fun xs => .ok (!xs.isEmpty)) := fun σ F H Q R w => by
  refine h σ F H _ R ((wp_bind.mp w).imp (fun a w1 x F1 H1 g1 r1 => ?_) fun _ _ x => x)
  obtain ⟨p, o, rfl, hp, hr⟩ := r1
  obtain ⟨vs, rfl, hv⟩ := rootL_inv hr
  refine ⟨!vs.isEmpty, .inl ⟨vs, SqL.of hp, rfl⟩, ?_⟩
  have e : vs.isEmpty = a.isEmpty := by
    have := hv.length
    rw [List.length_map] at this
    cases vs <;> cases a <;> simp_all
  rw [e]
  exact w1 F1 H1 g1
theorem o_neg : Op1 c .dat .dat (rU fun i => .int (-i)) (fun (a : Int) => .ok (-a)) := fun σ F H a x Q e r w => ⟨a, repI_inv (show Rep c.K F x (.int a) from r), w _ F H (.refl e) .int⟩
theorem reps_bl {K : Kx} {F : Hp} : ∀ {vs : List V} {bs : List Bool}, Reps K F vs (bs.map enc) → vs = bs.map V.bl
  | _, [], .nil => rfl
  | _, x :: xs, .cons h r => by
    rw [repB_inv (show Rep K F _ (.bl x) from h), reps_bl r]
    rfl
theorem o_any : Op1 c .see .dat (fun x => rAny c.K.fr [x]) (fun (bs : List Bool) => .ok (bs.any id)) := fun σ F H a x Q e r w => by
  obtain ⟨p, o, rfl, hp, hr⟩ := r
  obtain ⟨vs, rfl, hv⟩ := rootL_inv hr
  have e1 := reps_bl hv
  subst e1
  exact ⟨p, a, rfl, SqL.of hp, w _ F H (.refl e) .bl⟩
theorem o_all : Op1 c .see .dat (fun x => rAll c.K.fr [x]) (fun (bs : List Bool) => .ok (bs.all id)) := fun σ F H a x Q e r w => by
  obtain ⟨p, o, rfl, hp, hr⟩ := r
  obtain ⟨vs, rfl, hv⟩ := rootL_inv hr
  have e1 := reps_bl hv
  subst e1
  exact ⟨p, a, rfl, SqL.of hp, w _ F H (.refl e) .bl⟩
theorem reps_int {K : Kx} {F : Hp} {vs : List V} {ns : List Int} (h : Reps K F vs (ns.map enc)) : vs = ns.map V.int := Reps.ints_inv h
theorem o_sum : Op1 c .see .dat (fun x => rSum c.K.fr [x]) (fun (ns : List Int) => .ok ns.sum) := fun σ F H a x Q e r w => by
  obtain ⟨p, o, rfl, hp, hr⟩ := r
  obtain ⟨vs, rfl, hv⟩ := rootL_inv hr
  have e1 := reps_int hv
  subst e1
  exact ⟨p, a, rfl, SqL.of hp, w _ F H (.refl e) .int⟩
/-! ### list(range(n)), tuple(range(n)), list(d.values()), len(set(xs)) -/
theorem rgV_eq (a b : Int) : rgV a b = (rng a b).map V.int := by
  unfold rgV rng
  rw [List.map_map]
  rfl
theorem e_listRg {m : M Int} (h : EvP c .dat te env m) : EvP c .new (tLstRg (tRg1 te)) env (M.bind m fun n => chk (rngB 0 n) (.ok (rng 0 n))) := fun σ F H Q R w => by
  refine h σ F H _ R ((wp_bind.mp w).imp (fun n w1 x F1 H1 g1 r1 => ?_) fun _ _ x => x)
  obtain ⟨w2, w3⟩ := wp_chk w1
  have w2 := of_decide_eq_true w2
  refine ⟨n, repI_inv (show Rep c.K F1 x (.int n) from r1), ⟨by omega, by omega, by omega, by omega, by omega⟩, fun q hq => ?_⟩
  refine w3 _ F1 _ (g1.trans (.made g1.fh hq)) ⟨q, _, rfl, ex_none g1.h hq, upd_same, ex_none g1.fh hq, ?_⟩
  rw [rgV_eq]
  have e : (rng 0 n).map (enc : Int → D) = (rng 0 n).map D.int := rfl
  show Root c.K F1 q _ (.lst ((rng 0 n).map enc))
  rw [e]
  exact .lst Reps.ints
theorem e_tupRg {m : M Int} (h : EvP c .dat te env m) : EvP c .dat (tTupRg (tRg1 te)) env (M.bind m fun n => chk (rngB 0 n) (.ok (Tp.mk (rng 0 n)))) := fun σ F H Q R w => by
  refine h σ F H _ R ((wp_bind.mp w).imp (fun n w1 x F1 H1 g1 r1 => ?_) fun _ _ x => x)
  obtain ⟨w2, w3⟩ := wp_chk w1
  have w2 := of_decide_eq_true w2
  refine ⟨n, repI_inv (show Rep c.K F1 x (.int n) from r1), ⟨by omega, by omega, by omega, by omega, by omega⟩, fun q hq => ?_⟩
  refine w3 _ _ _ (g1.trans (.laid g1.fh hq)) ?_
  rw [rgV_eq]
  show Rep c.K _ _ (.tup ((rng 0 n).map enc))
  have e : (rng 0 n).map (enc : Int → D) = (rng 0 n).map D.int := rfl
  rw [e]
  exact .tup upd_same Reps.ints
theorem e_listVals {κ : Type} [Enc κ] [KeyT κ] {m : M (Dic κ α)} (h : EvP c .see te env m) : EvP c .new (tListVals te) env (M.bind m fun d => .ok (d.kvs.map (·.2))) := fun σ F H Q R w => by
  refine h σ F H _ R ((wp_bind.mp w).imp (fun d w1 x F1 H1 g1 r1 => ?_) fun _ _ x => x)
  obtain ⟨p, o, rfl, hp, hr⟩ := r1
  obtain ⟨kvs, rfl, r⟩ := rootD_inv hr
  refine ⟨p, kvs, rfl, hp, fun q hq => ?_⟩
  refine w1 _ F1 _ (g1.trans (.made g1.fh hq)) ⟨q, _, rfl, ex_none g1.h hq, upd_same, ex_none g1.fh hq, ?_⟩
  show Root c.K F1 q _ (.lst ((d.kvs.map (·.2)).map enc))
  have e : (d.kvs.map (·.2)).map (enc : α → D) = d.kvs.map fun kv => enc kv.2 := by rw [List.map_map]; rfl
  rw [e]
  exact .lst r.vals
theorem e_lenSet {m : M (List Int)} (h : EvP c .see te env m) : EvP c .dat (tLenSetL c.K.fr te) env (M.bind m fun xs => chk (decide (xs.length ≤ 4000)) (.ok ((dedupI xs).length : Int))) := fun σ F H Q R w => by
  refine h σ F H _ R ((wp_bind.mp w).imp (fun d w1 x F1 H1 g1 r1 => ?_) fun _ _ x => x)
  obtain ⟨p, o, rfl, hp, hr⟩ := r1
  obtain ⟨vs, rfl, hv⟩ := rootL_inv hr
  have e1 := reps_int hv
  subst e1
  obtain ⟨w2, w3⟩ := wp_chk w1
  exact ⟨p, d, rfl, SqL.of hp, of_decide_eq_true w2, w3 _ F1 H1 g1 .int⟩
/-! ### xs.index(x) -/
def idxL [f : Flat α] (xs : List α) (a : α) : M Int :=
  match xs.findIdx? fun y => @decide (y = a) (f.dec y a) with
  | some i => .ok (i : Int)
  | none => .error .stuck
theorem wp_idxL [f : Flat α] {xs : List α} {a : α} {Qk : Int → Prop} {Qx : String → List D → Prop} (w : WP (idxL xs a) Qk Qx) : ∃ i : Nat, (xs.findIdx? fun y => @decide (y = a) (f.dec y a)) = some i ∧ Qk (i : Int) := by
  unfold idxL at w
  cases h : xs.findIdx? fun y => @decide (y = a) (f.dec y a) with
  | none =>
    simp only [h] at w
    exact w.elim
  | some i =>
    simp only [h] at w
    exact ⟨i, rfl, w⟩
theorem o_lindex [f : Flat α] : Op2 c .see .dat .dat (fun x y => rIndex c.K.fr x [y]) (fun (xs : List α) (a : α) => idxL xs a) := fun σ F H xs a x y Q e r1 r2 w => by
  obtain ⟨p, o, rfl, hp, hr⟩ := r1
  obtain ⟨vs, rfl, hv⟩ := rootL_inv hr
  have e1 := f.rep (show Rep c.K F y (enc a) from r2)
  have e2 := reps_flat hv
  subst e1 e2
  obtain ⟨i, hi, w⟩ := wp_idxL w
  obtain ⟨hl, h1, h2⟩ := List.findIdx?_eq_some_iff_getElem.mp hi
  refine ⟨p, _, _, i, f.val xs[i], rfl, rfl, SqL.of hp, f.flat a, all_flat xs, by rw [List.getElem?_map, List.getElem?_eq_getElem hl]; rfl, ?_, fun m z hm hz => ?_, w _ F H (.refl e) .int⟩
  · rw [f.eqv]
    simpa using h1
  · rw [List.getElem?_map, List.getElem?_eq_getElem (Nat.lt_trans hm hl)] at hz
    cases hz
    rw [f.eqv]
    have := h2 m hm
    simpa using this
/-! ### == of data -/
def shD (d : D) : Bool := okD d && PySem.SeqAt.shaped (pyD d)
def eqE (a : α) (b : β) : M Bool := chk (shD (enc a) && shD (enc b)) (.ok (PyData.eqv (pyD (enc a)) (pyD (enc b))))
def neE (a : α) (b : β) : M Bool := chk (shD (enc a) && shD (enc b)) (.ok (!PyData.eqv (pyD (enc a)) (pyD (enc b))))
theorem o_eqD : Op2 c .dat .dat .dat (rEqD c.K.fr) (fun (a : α) (b : β) => eqE a b) := fun σ F H a b x y Q e r1 r2 w => by
  obtain ⟨w1, w2⟩ := wp_chk w
  obtain ⟨s1, s2⟩ := Bool.and_eq_true_iff.mp w1
  obtain ⟨s11, s12⟩ := Bool.and_eq_true_iff.mp s1
  obtain ⟨s21, s22⟩ := Bool.and_eq_true_iff.mp s2
  exact ⟨_, _, dp_of s11 (Rep.mono e r1), dp_of s21 (Rep.mono e r2), s12, s22, w2 _ F H (.refl e) .bl⟩
theorem o_neD : Op2 c .dat .dat .dat (rNeD c.K.fr) (fun (a : α) (b : β) => neE a b) := fun σ F H a b x y Q e r1 r2 w => by
  obtain ⟨w1, w2⟩ := wp_chk w
  obtain ⟨s1, s2⟩ := Bool.and_eq_true_iff.mp w1
  obtain ⟨s11, s12⟩ := Bool.and_eq_true_iff.mp s1
  obtain ⟨s21, s22⟩ := Bool.and_eq_true_iff.mp s2
  exact ⟨_, _, dp_of s11 (Rep.mono e r1), dp_of s21 (Rep.mono e r2), s12, s22, w2 _ F H (.refl e) .bl⟩
/-! ### options that are there -/
def unopt (o : Option α) : M α :=
  match o with
  | some a => .ok a
  | none => .error .stuck
theorem e_unopt {m : M (Option α)} (h : EvP c .dat te env m) : EvP c .dat te env (M.bind m unopt) := fun σ F H Q R w =>
  h σ F H Q R ((wp_bind.mp w).imp (fun o q v F' H' g r => by
    cases o with
    | none => exact q.elim
    | some a => exact q v F' H' g r) fun _ _ x => x)
/-! ### enumerate(text) -/
theorem it_enumS {m : M Txt} (h : EvP c .dat te env m) : EvIt c (iEnumS te) env (M.bind m fun t => chk (decide (t.cs.length < LIM)) (.ok (enumL (signs t)))) := fun σ F H R S w => h σ F H _ S ((wp_bind.mp w).imp (fun t q v F' H' g r => by
  have e1 := repS_inv (show Rep c.K F' v (.str t.cs) from r)
  obtain ⟨w1, w2⟩ := wp_chk q
  have w1 := of_decide_eq_true w1
  have el : ((enumL (signs t)).map enc).length = (⟨t.cs.toArray⟩ : Str).cps.size := by simp [enumL, signs]
  refine ⟨_, e1, w2 _ F' H' g (by simp [enumL, signs]; exact Nat.le_of_lt (lim_line w1)) ⟨fun _ => True, fun i H v H' => ∃ T ch, v = .ref T ∧ H T = none ∧ H' = upd H T (.tup [.int (i : Nat), .str ⟨#[ch]⟩]) ∧ (⟨t.cs.toArray⟩ : Str).cps[i]? = some ch, ?_, fun _ _ => trivial, fun i d H0 x H1 hd y F0 e e0 => ?_⟩⟩
  · rw [el]
    exact ⟨fun _ _ hi _ => hi, fun _ _ => Nat.le_refl _, fun _ _ _ _ _ _ y => y⟩
  · obtain ⟨T, ch, rfl, hT, rfl, hc⟩ := y
    have hc' : t.cs[i]? = some ch := by simpa using hc
    have hd' : ((enumL (signs t)).map enc)[i]? = some (D.tup [.int (i : Int), .str [ch]]) := by
      rw [List.getElem?_map]
      unfold enumL signs
      rw [List.getElem?_mapIdx, List.getElem?_map, hc']
      rfl
    rw [hd'] at hd
    cases hd
    exact ⟨_, .laid e0 hT, .tup upd_same (.cons .int (.cons (Rep.strOf rfl) .nil))⟩) fun _ _ x => x)
end
end HW

set_option Elab.async false
set_option linter.all false
set_option maxRecDepth 100000
set_option maxHeartbeats 2000000
set_option autoImplicit false
namespace HW
open PySem PySem.Spec L2 PyProof.Rows
open Evl (Ex)

/-! ### {k: v for x in xs} -/
section
variable {J : It} {n : Nat} {G : Hp → Prop} {Y : Nat → Hp → V → Hp → Prop}
theorem dc_it {g : TG} {tk tv : TE} {vs : List Nat} {σ : L2.St} {H1 : Hp} {D : Addr} {Qd : Hp → Prop} (wk : Walk J n G Y) (Pv : Nat → Hp → Prop) (h0 : Pv 0 (upd H1 D (.dK []))) (hG : ∀ i H, i ≤ n → Pv i H → G H)
    (hs : ∀ i x H H2, i < n → Pv i H → Y i H x H2 → g x (wipe σ vs) H2 fun σ2 H3 => wipe σ2 vs = wipe σ vs ∧ tk σ2 H3 fun y H4 => tv σ2 H4 fun z H5 => ∃ kvs k, y = kV k ∧ H5 D = some (.dK kvs) ∧ kvs.length < sizeLine ∧ Pv (i + 1) (upd H5 D (.dK (putK kvs k z))))
    (hd : ∀ H, Pv n H → Qd H) :
    ∃ W : Nat → Nat → Hp → Prop, (∃ m, W 0 m (upd H1 D (.dK []))) ∧ ∀ i m H, W i m H →
      (J.stop i H ∧ Qd H) ∨ (J.go i H ∧ ∃ Nx : Hp → Prop, (∀ H', Nx H' → ∃ m', m' < m ∧ W (i + 1) m' H') ∧ ∀ x H', J.yld i H x H' → g x (wipe σ vs) H' fun σ2 H2 => wipe σ2 vs = wipe σ vs ∧ tYes σ2 H2 fun b H3 =>
        if b = true then tk σ2 H3 fun y H4 => tv σ2 H4 fun z H5 => ∃ kvs k, y = kV k ∧ H5 D = some (.dK kvs) ∧ kvs.length < sizeLine ∧ Nx (upd H5 D (.dK (putK kvs k z))) else Nx H3) := by
  refine ⟨fun i m H => m = n - i ∧ i ≤ n ∧ Pv i H, ⟨n, by simp, Nat.zero_le _, h0⟩, ?_⟩
  rintro i m H ⟨rfl, hi, p⟩
  by_cases hlt : i < n
  · refine .inr ⟨wk.goes i H hlt (hG i H hi p), Pv (i + 1), fun H' p' => ⟨n - (i + 1), by omega, rfl, hlt, p'⟩, fun x H' y => ?_⟩
    exact hs i x H H' hlt p (wk.yields i H x H' hlt (hG i H hi p) y)
  · have e : i = n := by omega
    subst e
    exact .inl ⟨wk.stops H (hG i H hi p), hd H p⟩
end
def dcM {α κ β : Type} [DecidableEq κ] (fk : α → M κ) (fv : α → M β) : List α → List (κ × β) → M (Dic κ β)
  | [], d => .ok ⟨d⟩
  | x :: xs, d => (noX (fk x)).bind fun k => (noX (fv x)).bind fun v => chk (decide (d.length < LIM)) (dcM fk fv xs (pt d k v))
section
variable {c : Cc} {env : Cells} {tk tv ty te : TE} {wi : TI} {g : TG} {vs : List Nat} {α β κ : Type} [Enc α] [Enc β] [Enc κ] [KeyT κ] [DecidableEq κ]
theorem e_dc {mxs : M (List α)} {mk : α → M κ} {mv : α → M β} {f : α → Cells → Cells} (hi : EvIt c wi env mxs) (ht : TgIs c.nx g vs f)
    (hk : ∀ x, EvP c.nx .dat tk (f x (wipeE env vs)) (mk x)) (hv : ∀ x, EvP c.nx .dat tv (f x (wipeE env vs)) (mv x)) : EvP c .new (tDc wi g tYes tk tv vs) env (mxs.bind fun xs => dcM mk mv xs []) := fun σ F H Q R w => by
  refine hi σ F H _ R ((wp_bind.mp w).imp (fun xs w1 J F1 H1 g1 hz it D hD => ?_) fun _ _ x => x)
  obtain ⟨G, Y, wk, hG, hY⟩ := it
  have e : (xs.map enc).length = xs.length := List.length_map _
  rw [e] at wk
  refine dc_it wk (fun i H' => i ≤ xs.length ∧ ∃ F' kvs ds, Grow F1 H1 F' H' ∧ H' D = some (.dK kvs) ∧ F' D = none ∧ DR c.K F' ds kvs ∧
    WP (dcM mk mv (xs.drop i) ds) (fun zs => ∀ v F' H', Grow F H F' H' → ResIs c .new H F' H' v (enc zs) → Q v H') (XP c σ F H)) ?_ ?_ ?_ ?_
  · exact ⟨Nat.zero_le _, F1, [], [], .made g1.fh hD, upd_same, ex_none g1.fh hD, .nil, w1⟩
  · rintro i H' _ ⟨_, F', kvs, ds, g2, _⟩
    exact hG H' (g2.f.trans g2.fh)
  · rintro i x H' H2 hlt ⟨_, F', kvs, ds, g2, hacc, hFD, hr, hw⟩ hy
    have hx : xs[i]? = some xs[i] := List.getElem?_eq_getElem hlt
    obtain ⟨F2, g3, r3⟩ := hY i (enc xs[i]) H' x H2 (by rw [List.getElem?_map, hx]; rfl) hy F' g2.f g2.fh
    have g23 := g2.trans g3
    have R2 : RS c.nx (wipeE env vs) (wipe σ vs) F2 H2 := ((R.g (g1.trans g23)).wiped vs).nx
    refine ht xs[i] x _ _ F2 H2 _ R2 r3 fun σ' R3 hwp => ⟨by rw [hwp, wipe_wipe], ?_⟩
    rw [drop_cons hlt] at hw
    have hw2 := wp_bind.mp hw
    refine hk xs[i] σ' F2 H2 _ R3 ((wp_noX hw2).imp (fun k hw3 y F3 H3 g4 r4 => ?_) fun _ _ z => z)
    refine hv xs[i] σ' F3 H3 _ (R3.g g4) ((wp_noX (wp_bind.mp hw3)).imp (fun a hw4 v F4 H4 g5 r5 => ?_) fun _ _ z => z)
    have g2345 := (g23.trans g4).trans g5
    have hD2 : H2 D = some (.dK kvs) := g3.h _ _ hacc
    have hFD2 : F2 D = none := g3.n D hFD (by rw [hacc]; simp)
    have hD3 : H3 D = some (.dK kvs) := g4.h _ _ hD2
    have hFD3 : F3 D = none := g4.n D hFD2 (by rw [hD2]; simp)
    have hD4 : H4 D = some (.dK kvs) := g5.h _ _ hD3
    have hFD4 : F4 D = none := g5.n D hFD3 (by rw [hD3]; simp)
    obtain ⟨w5, w6⟩ := wp_chk hw4
    have w5 := of_decide_eq_true w5
    have hr4 := hr.mono (g3.f.trans (g4.f.trans g5.f))
    refine ⟨kvs, KeyT.key k, KeyT.rep (show Rep c.K F3 y (enc k) from r4), hD4, by rw [← hr.len]; exact lim_line w5, by omega, F4, _, pt ds k a, ⟨g2345.f, Ex.mut g2345.h hD, Ex.mut g2345.fh hFD4, g2345.n⟩, upd_same, hFD4, hr4.put k r5, w6⟩
  · rintro H' ⟨_, F', kvs, ds, g2, hacc, hFD, hr, hw⟩
    rw [List.drop_eq_nil_of_le (Nat.le_refl _)] at hw
    exact hw _ F' H' (g1.trans g2) ⟨D, _, rfl, ex_none g1.h hD, hacc, hFD, hr.root⟩
end
/-! ### xs.index(x) of tuples -/
section
variable {X : Cx} {K : Kx}
def rIndexN (K : Kx) : V → List V → Hp → VK → Prop := fun x xs H Q => ∃ (a : Addr) (ys : List V) (y : V) (ks : List NestedKey) (k : NestedKey), x = .ref a ∧ xs = [y] ∧ SqL K.fr H a ys ∧ Reps K H ys (keyNs ks) ∧ Rep K H y (keyN k) ∧ k.depth ≤ 8 ∧ k ∈ ks ∧ Q (.int (ks.idxOf k : Nat)) H
theorem mt_indexN (hu : X.A.units + 16 < cLine) (hP : X.prog = K.P := by rfl) (hw : X.w = K.w := by rfl) (hK : X.K = K.fr := by rfl) : MtR X "list.index" (rIndexN K) := by
  obtain ⟨fr, P, w⟩ := K
  obtain rfl : X.prog = P := hP
  obtain rfl : X.w = w := hw
  obtain rfl : X.K = fr := hK
  intro pins s σ H x xs v us Q I rx rxs h
  obtain ⟨a, ys, y, ks, k, rfl, rfl, hs, hr, hk, h8, hm, q⟩ := h
  cases rx
  cases rxs with
  | cons ry rt =>
    cases rt
    obtain ⟨its, rv, pl, hz⟩ := I.list hs
    have nd : NestedAll s.heap ks its := nestedAll_of (K := ⟨X.K, X.prog, X.w⟩) I.hok ks ys its hr rv
    have nk := nestedIs_of (K := ⟨X.K, X.prog, X.w⟩) I.hok k y _ hk ry
    have hl : ks.length ≤ sizeLine := by
      have e1 := hr.length
      have e2 : (keyNs ks).length = ks.length := by
        clear hr nd hm q hk h8 nk e1
        induction ks with
        | nil => rfl
        | cons z zs ih => exact congrArg (· + 1) ih
      omega
    exact SeqAt.call_list_index pl.isList (SeqAt.ItemsEq.nested nd nk (by show X.A.units + 1 + _ < cLine; omega)) hl hm ⟨.int (ks.idxOf k : Nat), H, I.tok _, ⟨_, rfl⟩, q⟩
end
section
variable {c : Cc} {κ : Type} [Enc κ] [NKc κ] [DecidableEq κ]
def idxN (xs : List κ) (a : κ) : M Int :=
  match xs.findIdx? fun y => decide (y = a) with
  | some i => .ok (i : Int)
  | none => .error .stuck
theorem wp_idxN {xs : List κ} {a : κ} {Qk : Int → Prop} {Qx : String → List D → Prop} (w : WP (idxN xs a) Qk Qx) : ∃ i : Nat, (xs.findIdx? fun y => decide (y = a)) = some i ∧ Qk (i : Int) := by
  unfold idxN at w
  cases h : xs.findIdx? fun y => decide (y = a) with
  | none =>
    simp only [h] at w
    exact w.elim
  | some i =>
    simp only [h] at w
    exact ⟨i, rfl, w⟩
theorem idx_nk (a : κ) : ∀ {xs : List κ} {i : Nat}, (xs.findIdx? fun y => decide (y = a)) = some i → NKc.nk a ∈ xs.map (NKc.nk (κ := κ)) ∧ (xs.map NKc.nk).idxOf (NKc.nk a) = i
  | x :: xs, i, h => by
    rw [List.findIdx?_cons] at h
    by_cases hx : x = a
    · subst hx
      simp at h
      subst h
      exact ⟨List.mem_cons_self .., by simp⟩
    · rw [decide_eq_false hx, if_neg (by decide)] at h
      cases hj : xs.findIdx? fun y => decide (y = a) with
      | none =>
        rw [hj] at h
        cases h
      | some j =>
        rw [hj] at h
        cases h
        obtain ⟨h1, h2⟩ := idx_nk a hj
        refine ⟨List.mem_cons_of_mem _ h1, ?_⟩
        have hne : NKc.nk x ≠ NKc.nk a := fun z => hx (NKc.inj z)
        rw [List.map_cons, List.idxOf_cons, beq_false_of_ne hne, h2]
        rfl
theorem o_lindexN [h8 : D8 κ] : Op2 c .see .dat .dat (fun x y => rIndexN c.K x [y]) (fun (xs : List κ) (a : κ) => idxN xs a) := fun σ F H xs a x y Q e r1 r2 w => by
  obtain ⟨p, o, rfl, hp, hr⟩ := r1
  obtain ⟨vs, rfl, hv⟩ := rootL_inv hr
  obtain ⟨i, hi, w⟩ := wp_idxN w
  obtain ⟨h1, h2⟩ := idx_nk a hi
  refine ⟨p, vs, y, xs.map NKc.nk, NKc.nk a, rfl, rfl, SqL.of hp, ?_, ?_, Nat.le_trans (NKc.hd a) D8.le, h1, ?_⟩
  · rw [keyNs_map]
    exact Reps.mono e hv
  · rw [← NKc.encN]
    exact Rep.mono e r2
  · rw [h2]
    exact w _ F H (.refl e) .int
end
/-! ### several names at once -/
section
variable {c : Cc} {xe env : Cells} {N B R : Type} {pn : N → Cells} {pb : B → Cells} {ret : RetP R} {u : TS} {ta tb : TE} {α β : Type} [Enc α] [Enc β] {i j : Nat}
theorem s_parDO {ma : M α} {mb : M β} {k : α → β → M (Fl N B R)} (ha : EvP c .dat ta env ma) (hb : EvP c .new tb env mb) (hx : Le xe env)
    (hu : ∀ a b, StX c xe u ((env.set i (some (.dat (enc a)))).set j (some (.own true (enc b)))) (k a b) pn pb ret) : StX c xe (tSeq (tPar i j (tCons ta (tCons tb tNil))) u) env (M.bind ma fun a => M.bind mb fun b => k a b) pn pb ret := fun σ F H Dn S w => by
  refine ha σ F H _ S ((wp_bind.mp w).imp (fun a w1 x F1 H1 g1 r1 => ?_) fun n p x => x.xp S hx)
  refine hb σ F1 H1 _ (S.g g1) ((wp_bind.mp w1).imp (fun b w2 y F2 H2 g2 r2 => ?_) fun n p x => x.xp (S.g g1) hx)
  have S2 := (S.g (g1.trans g2)).setD (i := i) (d := enc a) (Rep.mono g2.f r1)
  obtain ⟨q, o', rfl, q2, q3, q4, q5⟩ := r2
  have q2' : H q = none := ex_none g1.h q2
  refine ⟨x, _, rfl, hu a b _ F2 H2 Dn (S2.setO (i := j) (k := true) (p := q) (d := enc b) ⟨rfl, ⟨o', q3, q5⟩, q4, ex_none S.exG q2', fun _ => rfl, fun _ => S.grow q q2'⟩ fun m b' e he hs => ?_) w2⟩
  by_cases z : i = m
  · subst z
    have hl : i < env.length := by
      have := (List.getElem?_eq_some_iff.mp he).1
      rwa [List.length_set] at this
    rw [List.getElem?_set_self hl] at he
    cases he
  · rw [List.getElem?_set_ne z] at he hs
    obtain ⟨v, q1, l, q2, ⟨o', q3, _⟩, _⟩ := S.cell m _ he
    rw [hs] at q1
    cases q1
    cases q2
    rw [q2'] at q3
    cases q3
end
end HW

set_option Elab.async false
set_option linter.all false
set_option maxRecDepth 100000
set_option maxHeartbeats 2000000
set_option autoImplicit false
namespace HW
open PySem PySem.Spec L2 PyProof.Rows
open Evl (Ex)
/-- try, with the first clause that takes each exception -/
def tryM {N B R : Type} (mb : M (Fl N B R)) (pick : String → Option (M (Fl N B R))) : M (Fl N B R) :=
  match mb with
  | .ok f => .ok f
  | .error .stuck => .error .stuck
  | .error (.exc n _) => match pick n with
    | some m => m
    | none => .error .stuck
def tTry (K : PySem.W.Frag) (tb : WX → TS) (Wout : WX) (l : List (Value × (Addr → Value → Option Addr → TS))) : TS := fun D σ H => tb (wMany K Wout D l) D σ H
abbrev Cc.w (c : Cc) (W : WX) : Cc := { c with W := W }
section
variable {c : Cc} {env : Cells} {σ : L2.St} {F H : Hp} {W : WX}
theorem RS.w (R : RS c env σ F H) : RS (c.w W) env σ F H := ⟨R.len, R.exF, R.exF0, R.newF, R.exG, R.grow, R.gF, R.cell, R.dist⟩
theorem RS.unw (R : RS (c.w W) env σ F H) : RS c env σ F H := ⟨R.len, R.exF, R.exF0, R.newF, R.exG, R.grow, R.gF, R.cell, R.dist⟩
theorem RB.unw (R : RB (c.w W) F H) : RB c F H := ⟨R.exF, R.exF0, R.newF, R.exG, R.grow, R.gF⟩
variable {xe xe' : Cells} {N N' B R : Type} {pn : N → Cells} {pb : B → Cells} {ret : RetP R} {K : PySem.W.Frag}
/-- try: what follows stands behind -/
theorem s_try {tb : WX → TS} {l : List (Value × (Addr → Value → Option Addr → TS))} {mb : M (Fl N' B R)} {pick : String → Option (M (Fl N' B R))} {pn' : N' → Cells} {k : N' → M (Fl N B R)} {v : TS}
    (hb : ∀ W, StX (c.w W) xe' (tb W) env mb pn' pb ret)
    (hh : ∀ (n : String) (m : M (Fl N' B R)), pick n = some m → ∀ (C : Addr), c.mg (Str.ofString n) = some (.ref C) → ∀ (d : Option Addr) (σ : L2.St) (F H : Hp) (Dn : Ends), RS c xe' σ F H → WP m (Post c pn' pb ret Dn) (XE c xe) → wMany K c.W Dn l (.ref C) d σ H)
    (hv : ∀ n, StX c xe v (pn' n) (k n) pn pb ret) :
    StX c xe (tSeq (tTry K tb c.W l) v) env (bindF (tryM mb pick) k) pn pb ret := fun σ F H Dn S w => by
  have w1 := wp_bindF w
  have z : ∀ m : M (Fl N' B R), WP m (fun f => match f with | .nx n => WP (k n) (Post c pn pb ret Dn) (XE c xe) | .bk b => Post c pn pb ret Dn (.bk b) | .ct b => Post c pn pb ret Dn (.ct b) | .rt r => Post c pn pb ret Dn (.rt r)) (XE c xe) →
      WP m (Post c pn' pb ret { Dn with nx := v Dn }) (XE c xe) := fun m w => w.imp (fun f q => by
    cases f with
    | nx n => exact fun σ' F' H' S' => hv n σ' F' H' Dn S' q
    | bk b => exact q
    | ct b => exact q
    | rt r => exact q) fun _ _ x => x
  refine hb _ σ F H { Dn with nx := v Dn } S.w ?_
  unfold tryM at w1
  cases mb with
  | ok f =>
    have q := z (.ok f) w1
    cases f with
    | nx n => exact fun σ' F' H' S' => q σ' F' H' S'.unw
    | bk b => exact fun σ' F' H' S' => q σ' F' H' S'.unw
    | ct b => exact fun σ' F' H' S' => q σ' F' H' S'.unw
    | rt r => exact fun v F' H' rb => q v F' H' rb.unw
  | error e =>
    cases e with
    | stuck => exact w1.elim
    | exc n p =>
      cases hp : pick n with
      | none =>
        simp only [hp] at w1
        exact w1.elim
      | some m =>
        simp only [hp] at w1
        intro σ' F' H' cls d S' e
        obtain ⟨C, h1, h2, _⟩ := e
        subst h2
        exact hh n m hp C h1 d σ' F' H' _ S'.unw (z m w1)
/-- the first clause -/
theorem many_yes {c0 : Value} {ts : TS} {l : List (Value × (Addr → Value → Option Addr → TS))} {cls : Value} {d : Option Addr} {Dn : Ends} {W0 : WX} (h : PySem.W.exmOne K cls c0 = some true) (q : ts Dn σ H) : wMany K W0 Dn ((c0, fun _ _ _ => ts) :: l) cls d σ H :=
  ⟨true, h, (fun _ _ _ => q), (fun z => nomatch z)⟩
theorem many_no {c0 : Value} {ts : Addr → Value → Option Addr → TS} {l : List (Value × (Addr → Value → Option Addr → TS))} {cls : Value} {d : Option Addr} {Dn : Ends} {W0 : WX} (h : PySem.W.exmOne K cls c0 = some false) (q : wMany K W0 Dn l cls d σ H) : wMany K W0 Dn ((c0, ts) :: l) cls d σ H :=
  ⟨false, h, (fun z => nomatch z), fun _ => q⟩
end
section
variable {X : Cx} {body : List Stmt} {h₀ : ExceptHandler} {hds : List ExceptHandler} {l : List (Value × (Addr → Value → Option Addr → TS))} {pos : Pos} {tb : WX → TS} {Wout : WX}
theorem ps_try_manyK (hs : X.stack = X.env :: X.outer) (hf : X.env.frame = some X.env.locals) (tk : Takes X Wout)
    (hb : ∀ (W : WX) (pn : List (Addr × Obj)) (xe : Value → Shared → Prop), Takes (X.tr pn xe) W → PassesOwn (model X.prog X.w) X.A X.env xe → PSs (X.tr pn xe) body (tb W))
    (hh : HdsOk X (h₀ :: hds) l) : PS X (.Try body (h₀ :: hds) [] [] pos) (tTry X.K tb Wout l) := ps_try_many hs hf tk hb hh
end
end HW

set_option Elab.async false
set_option linter.all false
set_option maxRecDepth 100000
set_option maxHeartbeats 2000000
set_option autoImplicit false
namespace HW
open PySem PySem.Spec L2 PyProof.Rows
open Evl (Ex)

/-! ### repr, where no repr is under way -/
def reprM {α : Type} [Enc α] (a : α) : M Txt :=
  chk (okD (enc a) && (pyD (enc a)).showable && !(pyD (enc a)).hasDict && decide ((pyD (enc a)).depth ≤ 30) && decide ((pyD (enc a)).shown.length ≤ sizeLine)) (.ok ⟨(pyD (enc a)).shown.cps.toList⟩)
/-- what repr wants: a list or a tuple -/
class IsSeq (α : Type) [Enc α] : Prop where
  seq : ∀ a : α, (∃ ds, enc a = .lst ds) ∨ ∃ ds, enc a = .tup ds
instance {α : Type} [Enc α] : IsSeq (List α) := ⟨fun a => .inl ⟨_, rfl⟩⟩
instance {α : Type} [Enc α] : IsSeq (Tp α) := ⟨fun a => .inr ⟨_, rfl⟩⟩
instance {α β : Type} [Enc α] [Enc β] : IsSeq (α × β) := ⟨fun a => .inr ⟨_, rfl⟩⟩
def rRepr (K : PySem.W.Frag) : List V → Hp → VK → Prop := fun xs H Q => ∃ (a : Addr) (d : PyData), xs = [V.ref a] ∧ Dp K H (.ref a) d ∧ d.showable = true ∧ d.hasDict = false ∧ d.depth ≤ 30 ∧ d.shown.length ≤ sizeLine ∧ Q (.str d.shown) H
theorem call_repr {X : Cx} (hg : X.A.guards = some []) (hu : X.A.units + 64 < cLine) : CallR X (.builtin "repr") (rRepr X.K) := by
  intro pins s σ H xs us Q I r h
  obtain ⟨a, d, e, hd, h1, h2, h3, h4, q⟩ := h
  subst e
  obtain ⟨u, eu, rx⟩ := vals1 r
  subst eu
  obtain rfl : u = Value.ref a := rx
  obtain ⟨as, rd⟩ := Dp.reads I d _ _ hd rfl
  exact repr_of_reads' rd h1 (fun z => by rw [h2] at z; cases z) hg (by omega) (fun _ _ z => z) (fun h' u tk hk => ⟨.str d.shown, H, I.kept (t' := tk) hk, ⟨u, rfl⟩, q⟩) h4
theorem o_repr {c : Cc} {α : Type} [Enc α] [IsSeq α] : Op1 c .dat .dat (fun x => rRepr c.K.fr [x]) (fun (a : α) => reprM a) := fun σ F H a x Q e r w => by
  obtain ⟨w1, w2⟩ := wp_chk w
  simp only [Bool.and_eq_true, decide_eq_true_eq, Bool.not_eq_true'] at w1
  obtain ⟨⟨⟨⟨k1, k2⟩, k3⟩, k4⟩, k5⟩ := w1
  have r' : Rep c.K F x (enc a) := r
  have hx : ∃ p, x = .ref p := by
    rcases IsSeq.seq a with ⟨ds, h⟩ | ⟨ds, h⟩
    · rw [h] at r'
      obtain ⟨p, _, z, _⟩ := repL_inv r'
      exact ⟨p, z⟩
    · rw [h] at r'
      obtain ⟨p, _, z, _⟩ := repT_inv r'
      exact ⟨p, z⟩
  obtain ⟨p, rfl⟩ := hx
  exact ⟨p, _, rfl, dp_of k1 (Rep.mono e r'), k2, k3, k4, k5, w2 _ F H (.refl e) (Rep.strOf rfl)⟩

/-! ### the law's own def: called by nobody but the caller -/
section
variable {P : Program} {w : World} {K : PySem.W.Frag} {mg : Str → Option Value} {base : Heap} {CX : CXT}
structure LawOk (P : Program) (w : World) (K : PySem.W.Frag) (mg : Str → Option Value) (base : Heap) (CX : CXT) (f : Addr) (fd : FuncData) (ps : List Str) (sp : Sp) : Prop where
  run : ∀ (s : Shared) (H : Hp) (args : Args) (us : List Value) (vs : List V) (Q : VK) (E : XK), Env0 P w K mg base callerA [] s H → BindsTo s fd args (ps.zip us) → Vals vs us → sp vs H Q E →
    codeAny (model P w) callerA (.call (.ref f) args) (CR CX [] P w H s Q E) s
theorem Fun.lawG {x qual : Str} {st : Stmt} {f : Addr} {fd : FuncData} {N ps : List Str} {sp : Sp} (Fn : Fun K x qual st f fd) (S : FnScope N ps (defScope st)) (len : ∀ vs H Q E, sp vs H Q E → vs.length = ps.length)
    (body : ∀ (cdv : Value) (s : Shared) (H : Hp) (vs : List V) (Q : VK) (E : XK), sp vs H Q E →
      ∃ t, PSs (cxOf CX P w K mg base N qual (defScope st) f cdv callerA [] s H E) (defBody st) t ∧ t { nx := fun _ H' => Q .non H', rt := Q } (start N vs) H) : LawOk P w K mg base CX f fd ps sp := by
  obtain ⟨oc, od, kV, doc, pm, an, cdv, ct, osl, rfl, lk, hcd⟩ := Fn.ex
  constructor
  intro s H args us vs Q E e0 hb r hsp
  have keepB : ∀ b o, base.get? b = some o → s.heap.get? b = some o := fun b o z => (e0.bs b o z).1
  have inK : K.In s.heap := e0.mod.kin.keeps keepB
  have kinds : ∀ y ∈ ps.zip us, (defScope st).names.lookup y.1 = some .local ∨ ((defScope st).names.lookup y.1 = some .cell ∧ ((cellsFrom (s.heap.objs.size + 1) (defScope st).names []).lookup y.1).isSome = true) := fun y hy =>
    (S.par y.1 (List.of_mem_zip hy).1).imp id fun q => ⟨q, PySem.W.cellsFrom_some _ _ _ (.inl q)⟩
  refine codeAny_call_function (show callerA.depth < recursionLimit by decide) (inK _ _ lk) rfl S.co S.gen rfl (PySem.W.codeRec_of inK hcd) (hb _ _ _ _ ?_)
  refine wpAny_newFunctionEnv_cells S.kind kinds fun env he s1 x1 => ?_
  subst he
  refine ⟨(e0.mod.nolimit.keeps keepB).keeps x1.toInCall.keep, codeAny_func ?_⟩
  obtain ⟨t, ht, hq⟩ := body cdv s H vs Q E hsp
  have I := inv_start (CX := CX) (E := E) S rfl e0 (len _ _ _ _ hsp) r x1
  have done : ∀ (σ' : L2.St) (H' : Hp) (v : V) (u : Value) (s' : Shared), Inv (cxOf CX P w K mg base N qual (defScope st) f cdv callerA [] s H E) [] σ' H' s' → RelV v u → Q v H' → CE [] P w H s Q u s' :=
    fun σ' H' v u s' J rv q => ⟨v, H', J.os, J.bare, J.base, J.hok, rv, q⟩
  refine wpAny_mono (ht.run [] s1 (start N vs) H _ I hq) (fun fl s' hs => ?_) fun e s' hs => hs
  cases fl with
  | ret u => exact hs.elim fun v hs => hs.elim fun σ' hs => hs.elim fun H' hs => done σ' H' v u s' hs.1 hs.2.1 hs.2.2
  | next => exact hs.elim fun σ' hs => hs.elim fun H' hs => done σ' H' .non .none s' hs.1 rfl hs.2
  | brk => exact hs.elim fun σ' hs => hs.elim fun H' hs => hs.2.elim
  | cont => exact hs.elim fun σ' hs => hs.elim fun H' hs => hs.2.elim
/-- from the caller's side: in a heap where nothing but the script is tracked -/
theorem law_core {fa a : Addr} {fd : FuncData} {x : Str} {sp : Sp} {s : Shared} {vs : List Value} {mb : Str → Option Value}
    (inK : K.In s.heap) (hns : s.heap.Ns mainGlobals mg) (hb : s.heap.Ns builtinsNs mb) (hbb : ∀ x : Str, x ≠ "__name__" → mb x = bootBuiltins x) (hlim : s.heap.NoLimit) (hg : s.gens = #[])
    (ha : s.heap.get? a = some { cls := .type "list", data := .seq vs.toArray }) (F : ∀ base : Heap, K.In base → base.Ns mainGlobals mg → LawOk P w K mg base CX fa fd [x] sp) (hbind : ∀ (s : Shared) (u : Value), BindsTo s fd ⟨[u], []⟩ [(x, u)])
    (hCX : ∀ H e s', CX [] H s (fun _ _ _ => False) e s' → False) (H : Hp) (only : Only H) (hok : HOk P w H s.heap) (one : ∀ b, H b ≠ none → b = a) (notK : H a ≠ none → K.lookup a = none)
    (hsp : sp [.ref a] H (fun v _ => v = .bl true) fun _ _ _ => False) :
    codeAny (model P w) callerA (.call (.ref fa) ⟨[.ref a], []⟩) (fun r s' => r = .ok (.ret (.bool true)) ∧ OldK s.heap s'.heap ∧ s'.os = s.os ∧ AllBare s'.gens) s := by
  have isA : ∀ {b : Addr}, ¬ H b = none → b = a := fun {b} z => one b z
  have hidden : ∀ {b : Addr} {m : Str → Option Value}, s.heap.Ns b m → (hidT s.heap H).Ns b m := fun {b m} ⟨o, es, ep, e, d, r⟩ => by
    refine ⟨o, es, ep, hidT_get e ?_, d, r⟩
    by_cases z : H b = none
    · exact z
    · have q := isA z
      subst q
      rw [ha] at e
      cases e
      cases d
  have inB : K.In (hidT s.heap H) := fun b o e => by
    refine hidT_get (inK b o e) ?_
    by_cases z : H b = none
    · exact z
    · have q := isA z
      subst q
      rw [notK z] at e
      cases e
  have md : Mod K mg (hidT s.heap H) := ⟨inB, hidden hns, ⟨mb, hidden hb, hbb⟩, hlim.elim fun mc q => ⟨mc, hidden q.1, q.2⟩⟩
  have e0 : Env0 P w K mg (hidT s.heap H) callerA [] s H := ⟨rfl, md, fun b o e => of_hidT e, Nat.le_of_eq (hidT_size _ _), trivial, fun b hb => absurd (show b ∈ ([] : List Addr) from hb) (by simp), hok, .of_eq hg⟩
  refine codeAny_mono ((F _ inB (hidden hns)).run s H ⟨[.ref a], []⟩ [.ref a] [.ref a] _ _ e0 (hbind s (.ref a)) (.cons rfl .nil) hsp) fun r s' h => ?_
  match r, h with
  | .error e, h => exact (hCX H e s' h).elim
  | .ok .next, h => exact False.elim h
  | .ok .brk, h => exact False.elim h
  | .ok .cont, h => exact False.elim h
  | .ok (.ret u), ⟨v, H', os, bare, un, hok', rv, q⟩ =>
    have q' : v = .bl true := q
    subst q'
    obtain rfl : u = Value.bool true := rv
    refine ⟨rfl, OldK.of_keep fun b o e => ?_, os, bare⟩
    by_cases z : H b = none
    · exact un.keep b o e z (by intro y; exact absurd (show b ∈ ([] : List Addr) from y) (by simp)) (by simp)
    · rcases only b with y | ⟨ob, xs, y⟩
      · exact absurd y z
      · obtain ⟨k1, _⟩ := hok b _ y
        obtain ⟨k2, _⟩ := hok' b _ (un.frzs b ob _ y)
        rw [e] at k1
        cases k1
        exact k2
theorem law_callG {fa a : Addr} {fd : FuncData} {x : Str} {sp : Sp} {s : Shared} {vs : List Value} {ns : List Int} {mb : Str → Option Value}
    (inK : K.In s.heap) (hns : s.heap.Ns mainGlobals mg) (hb : s.heap.Ns builtinsNs mb) (hbb : ∀ x : Str, x ≠ "__name__" → mb x = bootBuiltins x) (hlim : s.heap.NoLimit) (hg : s.gens = #[])
    (ha : s.heap.get? a = some { cls := .type "list", data := .seq vs.toArray }) (hi : IntsAre vs ns) (hl : ns.length ≤ sizeLine)
    (F : ∀ base : Heap, K.In base → base.Ns mainGlobals mg → LawOk P w K mg base CX fa fd [x] sp) (hbind : ∀ (s : Shared) (u : Value), BindsTo s fd ⟨[u], []⟩ [(x, u)])
    (hCX : ∀ H e s', CX [] H s (fun _ _ _ => False) e s' → False) (hsp : ∀ H : Hp, Only H → SqL K H a (ns.map V.int) → sp [.ref a] H (fun v _ => v = .bl true) fun _ _ _ => False) :
    codeAny (model P w) callerA (.call (.ref fa) ⟨[.ref a], []⟩) (fun r s' => r = .ok (.ret (.bool true)) ∧ OldK s.heap s'.heap ∧ s'.os = s.os ∧ AllBare s'.gens) s := by
  have rv := vals_ints hi
  cases hk : K.lookup a with
  | some o =>
    have e := inK a o hk
    rw [ha] at e
    cases e
    have only : Only (fun _ => none) := fun _ => .inl rfl
    refine law_core inK hns hb hbb hlim hg ha F hbind hCX (fun _ => none) only (fun b u z => by cases z) (fun b z => absurd rfl z) (fun z => absurd rfl z) (hsp _ only ?_)
    exact .inr ⟨_, vs.toArray, _, hk, rfl, rfl, rfl, by rw [List.size_toArray, hi.length]; exact hl, by simpa using rv⟩
  | none =>
    let H : Hp := fun b => if b = a then some (.frz { cls := .type "list", data := .seq vs.toArray } (.lst (ns.map V.int))) else none
    have at_a : H a = some (.frz { cls := .type "list", data := .seq vs.toArray } (.lst (ns.map V.int))) := if_pos rfl
    have off : ∀ b, b ≠ a → H b = none := fun b z => if_neg z
    have only : Only H := fun b => by
      by_cases z : b = a
      · subst z
        exact .inr ⟨_, _, at_a⟩
      · exact .inl (off b z)
    refine law_core inK hns hb hbb hlim hg ha F hbind hCX H only (fun b u z => ?_) (fun b z => ?_) (fun _ => hk) (hsp H only (.inl (.inr ⟨_, at_a⟩)))
    · by_cases q : b = a
      · subst q
        rw [at_a] at z
        cases z
        exact ⟨ha, by rw [List.length_map]; exact hl, vs, _, rv, ha⟩
      · rw [off b q] at z
        cases z
    · by_cases q : b = a
      · exact q
      · exact absurd (off b q) z
end
/-- the walk of a law whose def is told at its caller -/
theorem walk_G {l : PySem.W.OpenLaw} {n : Nat} {q : Program} {loose : List Str} {XP : (Str → Option Value) → Heap → Prop} {YP : World → Heap → Prop} {d : DefRec} {K : Params → PySem.W.Frag} {CX : World → CXT} {sp : World → Sp} {x : Str}
    (hn : l.most = some n) (hn2 : n ≤ sizeLine) (hdf : d.params.defaults = []) (hY : ∀ (w : World) (h : Heap), YP w h → (K w.params).In h)
    (F : ∀ (w : World) (mg : Str → Option Value) (fa : Addr) (h : Heap), (K w.params).In h → h.Ns mainGlobals mg → mg d.name = some (.ref fa) →
      ∃ fd : FuncData, (∀ (s : Shared) (u : Value), BindsTo s fd ⟨[u], []⟩ [(x, u)]) ∧ ∀ base : Heap, (K w.params).In base → base.Ns mainGlobals mg → LawOk l.prog w (K w.params) mg base (CX w) fa fd [x] (sp w))
    (hsp : ∀ (w : World) (H : Hp) (a : Addr) (ns : List Int), ns.length ≤ n → Only H → SqL (K w.params) H a (ns.map V.int) → sp w [.ref a] H (fun v _ => v = .bl true) fun _ _ _ => False)
    (hCX : ∀ (w : World) (H : Hp) (s : Shared) (e : Value) (s' : Shared), CX w [] H s (fun _ _ _ => False) e s' → False) : PySem.W.WalkO q loose XP YP l.row.toRowW d [] (fun f vs => PySem.call f vs) := by
  refine Att.attach_call hn hdf fun w s₀ s₁ mg mb fa o pm cd doc a vs ns G Y ho hd hcd hmg hobj hints hlen hg => ?_
  have inK := hY w _ Y
  obtain ⟨fd, hb, hF⟩ := F w mg fa _ inK G.T.g hmg
  exact law_callG inK G.T.g G.T.b G.T.builtins G.T.nolimit hg hobj hints (Nat.le_trans hlen hn2) hF hb (fun H e s' => hCX w H s₁ e s') fun H hO hS => hsp w H a ns hlen hO hS
/-- the law's def keeps its mirror -/
theorem fn_law {K : Kx} {mg : Str → Option Value} {base : Heap} {x qual : Str} {st : Stmt} {f : Addr} {fd : FuncData} {N ps : List Str} {Rm : List D → M D → Prop} {rk : RK} {R : Type} [Enc R] (o : Option R) (ho : ∀ r, o = some r → enc r = D.non ∧ rk = .dat)
    (Fn : Fun K.fr x qual st f fd) (S : FnScope N ps (defScope st)) (len : ∀ ds m, Rm ds m → ds.length = ps.length) (lN : ps.length ≤ N.length)
    (hb : ∀ (cdv : Value) (s : Shared) (H : Hp) (E : XK) (c : Cc) (ds : List D) (m : M D), Rm ds m → c.K = K → c.mg = mg → (c.W = fun cls d _ H' => E cls d H') →
      ∃ (t : TS) (m' : M (Fl Unit Unit R)), PSs (cxOf (L2.CX K.P K.w) K.P K.w K.fr mg base N qual (defScope st) f cdv callerA [] s H E) (defBody st) t ∧ m = mapE (finR o m') ∧
        StX c (noneC N.length) t (argC ds N.length) m' (fun _ => noneC N.length) (fun _ => noneC N.length) (RetOf c rk)) :
    LawOk K.P K.w K.fr mg base (L2.CX K.P K.w) f fd ps (spM K mg rk Rm) := by
  refine Fun.lawG Fn S (fun vs H Q E h => ?_) (fun cdv s H vs Q E h => ?_)
  · obtain ⟨F, ds, m, h1, _, h2, _⟩ := h
    rw [h2.length, len ds m h1]
  · obtain ⟨F, ds, m, h1, h2, h3, h4⟩ := h
    obtain ⟨t, m', p1, rfl, p3⟩ := hb cdv s H E ⟨K, mg, F, H, H, fun cls d _ H' => E cls d H'⟩ ds m h1 rfl rfl rfl
    refine ⟨t, p1, ?_⟩
    have el := h3.length
    have ep := len _ _ h1
    refine p3 _ F H _ ?_ ?_
    · refine ⟨?_, h2, Ex.refl F, fun a q _ => q, Ex.refl H, fun a q => q, fun a _ q => q, fun i y e => ?_, fun i j b b' d e l _ hi => ?_⟩
      · show (vs.map some ++ List.replicate (N.length - vs.length) none).length = (ds.map (fun d => some (Cell.dat d)) ++ List.replicate (N.length - ds.length) none).length
        simp [el]
      · have e' : (ds.map (fun d => some (Cell.dat d)) ++ List.replicate (N.length - ds.length) none)[i]? = some (some y) := e
        by_cases hi : i < ds.length
        · rw [List.getElem?_append_left (by simpa using hi), List.getElem?_map, List.getElem?_eq_getElem hi] at e'
          cases e'
          obtain ⟨v, q1, q2⟩ := h3.getD (i := i) (List.getElem?_eq_getElem hi)
          refine ⟨v, ?_, q2⟩
          show (vs.map some ++ List.replicate (N.length - vs.length) none)[i]? = some (some v)
          rw [List.getElem?_append_left (by simp; omega), List.getElem?_map, q1]
          rfl
        · rw [List.getElem?_append_right (by simpa using hi), List.getElem?_replicate] at e'
          split at e' <;> cases e'
      · have e' : (ds.map (fun d => some (Cell.dat d)) ++ List.replicate (N.length - ds.length) none)[i]? = some (some (.own b d)) := hi
        by_cases hi : i < ds.length
        · rw [List.getElem?_append_left (by simpa using hi), List.getElem?_map, List.getElem?_eq_getElem hi] at e'
          cases e'
        · rw [List.getElem?_append_right (by simpa using hi), List.getElem?_replicate] at e'
          split at e' <;> cases e'
    · have h5 := wp_mapE.mp h4
      cases hm : m' with
      | error e =>
        rw [hm] at h5
        cases e with
        | stuck => exact h5.elim
        | exc n p => exact fun σ' F' H' cls d S' e => h5 F' H' cls d ⟨S'.exF0, S'.exG, S'.exF, fun a q1 q2 => S'.newF a q1 q2⟩ e
      | ok fl =>
        rw [hm] at h5
        cases fl with
        | nx n =>
          cases o with
          | none => exact h5.elim
          | some r =>
            obtain ⟨q1, q2⟩ := ho r rfl
            subst q2
            exact fun σ' F' H' S' => h5 .non F' H' ⟨S'.exF0, S'.exG, S'.exF, fun a q1 q2 => S'.newF a q1 q2⟩ (by
              show Rep K F' .non (enc r)
              rw [q1]
              exact .non)
        | bk b => exact h5.elim
        | ct b => exact h5.elim
        | rt r => exact fun v F' H' rb z => h5 v F' H' ⟨rb.exF0, rb.exG, rb.exF, fun a q1 q2 => rb.newF a q1 q2⟩ z
theorem room60 : Room 60 callerA := ⟨rfl, by decide, by decide⟩
end HW

set_option Elab.async false
set_option linter.all false
set_option maxRecDepth 100000
set_option maxHeartbeats 2000000
set_option autoImplicit false
namespace HW
open PySem PySem.Spec L2 PyProof.Rows
open Evl (Ex)

/-! ### values that share nothing with what was there -/
def uniH (A B : Hp) : Hp := fun a => match A a with | some o => some o | none => B a
theorem uni_l {A B : Hp} {a : Addr} {o : HO} (h : A a = some o) : uniH A B a = some o := by
  unfold uniH
  rw [h]
theorem uni_r {A B : Hp} {a : Addr} (h : A a = none) : uniH A B a = B a := by
  unfold uniH
  rw [h]
theorem uni_ex_l {A B : Hp} : Ex A (uniH A B) := fun a u h => uni_l h
theorem uni_ex_r {A B : Hp} (d : ∀ a, A a ≠ none → B a = none) : Ex B (uniH A B) := fun a u h => by
  cases e : A a with
  | none => rw [uni_r e]; exact h
  | some o =>
    have := d a (by rw [e]; simp)
    rw [h] at this
    cases this
theorem uni_ex {A B H : Hp} (h1 : Ex A H) (h2 : Ex B H) : Ex (uniH A B) H := fun a u h => by
  cases e : A a with
  | none => rw [uni_r e] at h; exact h2 a u h
  | some o => rw [uni_l e] at h; cases h; exact h1 a _ e
theorem uni_none {A B : Hp} {a : Addr} (h1 : A a = none) (h2 : B a = none) : uniH A B a = none := by rw [uni_r h1, h2]
theorem ne_some {A : Hp} {a : Addr} {o : HO} (h : A a = some o) : A a ≠ none := by rw [h]; simp
section
variable {c : Cc} {xe env : Cells} {te ta tb : TE} {tt : TT} {wi : TI} {g : TG} {vs : List Nat} {α β γ : Type} [Enc α] [Enc β] [Enc γ]
theorem Grow.uni {F Hb F' H Fd : Hp} (g : Grow F Hb F' H) (e : Ex Fd H) (d : ∀ a, Fd a ≠ none → Hb a = none ∧ F' a = none) : Grow F Hb (uniH Fd F') H :=
  ⟨g.f.trans (uni_ex_r fun a q => (d a q).2), g.h, uni_ex e g.fh, fun a h1 h2 => by
    refine uni_none ?_ (g.n a h1 h2)
    cases q : Fd a with
    | none => rfl
    | some o => exact absurd (d a (ne_some q)).1 h2⟩
theorem EvP.shallow {m : M α} (h : EvP c .deep te env m) : EvP c .dat te env m := fun σ F H Q R w => h σ F H Q R (w.imp (fun a q v F' H' g r => by
  obtain ⟨Fd, h1, h2, h3⟩ := r
  exact q v _ H' (g.uni h2 h3) (Rep.mono uni_ex_l h1)) fun _ _ x => x)
/-- data without heap -/
class HFree (α : Type) [Enc α] : Prop where
  free : ∀ {K : Kx} {F : Hp} {v : V} {a : α}, Rep K F v (enc a) → ∀ F' : Hp, Rep K F' v (enc a)
instance : HFree Int := ⟨fun {K F v a} h F' => by rw [repI_inv h]; exact .int⟩
instance : HFree Bool := ⟨fun {K F v a} h F' => by rw [repB_inv h]; exact .bl⟩
instance : HFree Txt := ⟨fun {K F v a} h F' => by rw [repS_inv h]; exact .str⟩
instance : HFree Unit := ⟨fun {K F v a} h F' => by
  have h' : Rep K F v .non := h
  cases h'
  exact .non⟩
theorem reps_free [HFree α] {K : Kx} {F F' : Hp} : ∀ {vs : List V} {xs : List α}, Reps K F vs (xs.map enc) → Reps K F' vs (xs.map enc)
  | _, [], .nil => .nil
  | _, _ :: _, .cons h r => .cons (HFree.free h F') (reps_free r)
theorem EvP.deepS [HFree α] {m : M α} (h : EvP c .dat te env m) : EvP c .deep te env m := fun σ F H Q R w => h σ F H Q R (w.imp (fun a q v F' H' g r =>
  q v F' H' g ⟨fun _ => none, HFree.free r _, (fun a u e => nomatch e), (fun a e => absurd rfl e)⟩) fun _ _ x => x)
theorem EvP.deepL [HFree α] {m : M (List α)} (h : EvP c .new te env m) : EvP c .deep te env m := fun σ F H Q R w => h σ F H Q R (w.imp (fun a q v F' H' g r => by
  obtain ⟨p, o, rfl, h2, h3, h4, h5⟩ := r
  obtain ⟨xs, rfl, hr⟩ := rootL_inv h5
  refine q _ F' H' g ⟨upd (fun _ => none) p (.lst xs), .lst upd_same (reps_free hr), fun b u e => ?_, fun b e => ?_⟩
  · by_cases z : b = p
    · subst z
      rw [upd_same] at e
      cases e
      exact h3
    · rw [upd_ne z] at e
      cases e
  · by_cases z : b = p
    · subst z
      exact ⟨h2, h4⟩
    · rw [upd_ne z] at e
      exact absurd rfl e) fun _ _ x => x)
/-- a comprehension of such values -/
theorem e_lcD {mxs : M (List α)} {me : α → M β} {f : α → Cells → Cells} (hi : EvIt c wi env mxs) (ht : TgIs c.nx g vs f)
    (he : ∀ x, EvP c.nx .deep te (f x (wipeE env vs)) (me x)) : EvP c .deep (tLc wi g tYes te vs) env (mxs.bind fun xs => lcM me xs) := fun σ F H Q R w => by
  refine hi σ F H _ R ((wp_bind.mp w).imp (fun xs w1 J F1 H1 g1 hz it D hD => ?_) fun _ _ x => x)
  obtain ⟨G, Y, wk, hG, hY⟩ := it
  have e : (xs.map enc).length = xs.length := List.length_map _
  rw [e] at wk
  refine lc_it wk (fun i H' => i ≤ xs.length ∧ ∃ F' Fd acc ys, Grow F1 H1 F' H' ∧ H' D = some (.lst acc) ∧ F' D = none ∧ Fd D = none ∧ acc.length ≤ i ∧ Reps c.K Fd acc (ys.map enc) ∧ Ex Fd H' ∧ (∀ a, Fd a ≠ none → H1 a = none ∧ F' a = none) ∧
    WP (lcM me (xs.drop i)) (fun zs => ∀ v F' H', Grow F H F' H' → ResIs c .deep H F' H' v (enc (ys ++ zs)) → Q v H') (XP c σ F H)) ?_ ?_ ?_ ?_
  · exact ⟨Nat.zero_le _, F1, fun _ => none, [], [], .made g1.fh hD, upd_same, ex_none g1.fh hD, rfl, Nat.le_refl _, .nil, (fun a u e => nomatch e), (fun a e => absurd rfl e), w1⟩
  · rintro i H' _ ⟨_, F', Fd, acc, ys, g2, _⟩
    exact hG H' (g2.f.trans g2.fh)
  · rintro i x H' H2 hlt ⟨_, F', Fd, acc, ys, g2, hacc, hFD, hFdD, hle, hr, hex, hds, hw⟩ hy
    have hx : xs[i]? = some xs[i] := List.getElem?_eq_getElem hlt
    obtain ⟨F2, g3, r3⟩ := hY i (enc xs[i]) H' x H2 (by rw [List.getElem?_map, hx]; rfl) hy F' g2.f g2.fh
    have g23 := g2.trans g3
    have R2 : RS c.nx (wipeE env vs) (wipe σ vs) F2 H2 := ((R.g (g1.trans g23)).wiped vs).nx
    refine ht xs[i] x _ _ F2 H2 _ R2 r3 fun σ' R3 hwp => ⟨by rw [hwp, wipe_wipe], ?_⟩
    rw [drop_cons hlt] at hw
    refine tYes_if ?_
    refine he xs[i] σ' F2 H2 _ R3 ((wp_noX (wp_bind.mp hw)).imp (fun z hw4 v F4 H4 g5 r5 => ?_) fun _ _ z => z)
    have hD2 : H2 D = some (.lst acc) := g3.h _ _ hacc
    have hFD2 : F2 D = none := g3.n D hFD (by rw [hacc]; simp)
    have hD4 : H4 D = some (.lst acc) := g5.h _ _ hD2
    have hFD4 : F4 D = none := g5.n D hFD2 (by rw [hD2]; simp)
    have g235 := g23.trans g5
    obtain ⟨Fe, q1, q2, q3⟩ := r5
    have inH : ∀ a, Fd a ≠ none → H2 a ≠ none := fun a z q => by
      cases e : Fd a with
      | none => exact z e
      | some u =>
        have := g3.h a u (hex a u e)
        rw [q] at this
        cases this
    have dis : ∀ a, Fe a ≠ none → Fd a = none := fun a z => by
      cases e : Fd a with
      | none => rfl
      | some u => exact absurd (q3 a z).1 (inH a (ne_some e))
    have FeD : Fe D = none := by
      cases e : Fe D with
      | none => rfl
      | some u =>
        have := (q3 D (ne_some e)).1
        rw [hD2] at this
        cases this
    have ex4 : Ex (uniH Fe Fd) H4 := uni_ex q2 (hex.trans (g3.h.trans g5.h))
    have uD : uniH Fe Fd D = none := uni_none FeD hFdD
    refine ⟨acc, hD4, by omega, by omega, F4, uniH Fe Fd, acc ++ [v], ys ++ [z], ⟨g235.f, Ex.mut g235.h hD, Ex.mut g235.fh hFD4, g235.n⟩, upd_same, hFD4, uD, by simp; omega, ?_, Ex.mut ex4 uD, fun a q => ?_, ?_⟩
    · rw [List.map_append]
      exact (Reps.mono (uni_ex_r dis) hr).append (.cons (Rep.mono uni_ex_l q1) .nil)
    · cases e : Fe a with
      | some u =>
        obtain ⟨k1, k2⟩ := q3 a (ne_some e)
        exact ⟨ex_none g23.h k1, k2⟩
      | none =>
        rw [uni_r e] at q
        obtain ⟨k1, k2⟩ := hds a q
        refine ⟨k1, g5.n a (g3.n a k2 fun z => inH a q ?_) (inH a q)⟩
        exact absurd (show H2 a = none by
          cases e2 : Fd a with
          | none => exact absurd e2 q
          | some u =>
            have := hex a u e2
            rw [z] at this
            cases this) (inH a q)
    · refine (wp_bind.mp hw4).imp (fun zs q => ?_) fun _ _ z => z
      have q' : ∀ v F' H', Grow F H F' H' → ResIs c .deep H F' H' v (enc (ys ++ z :: zs)) → Q v H' := q
      rw [show ys ++ z :: zs = (ys ++ [z]) ++ zs by simp] at q'
      exact q'
  · rintro H' ⟨_, F', Fd, acc, ys, g2, hacc, hFD, hFdD, hle, hr, hex, hds, hw⟩
    rw [List.drop_eq_nil_of_le (Nat.le_refl _)] at hw
    have q : ∀ v F' H', Grow F H F' H' → ResIs c .deep H F' H' v (enc (ys ++ [])) → Q v H' := hw
    rw [List.append_nil] at q
    have eD : Ex Fd (upd Fd D (.lst acc)) := Ex.new hFdD
    refine q _ F' H' (g1.trans g2) ⟨upd Fd D (.lst acc), .lst upd_same (Reps.mono eD hr), fun a u e => ?_, fun a z => ?_⟩
    · by_cases k : a = D
      · subst k
        rw [upd_same] at e
        cases e
        exact hacc
      · rw [upd_ne k] at e
        exact hex a u e
    · by_cases k : a = D
      · subst k
        exact ⟨ex_none g1.h hD, hFD⟩
      · rw [upd_ne k] at z
        obtain ⟨k1, k2⟩ := hds a z
        exact ⟨ex_none g1.h k1, k2⟩
end

/-! ### what is returned is changed behind: rows of numbers -/
def rowOk (xs : List (List Int)) : M Unit :=
  match xs with
  | r :: _ => chk (decide (r.length < LIM)) (.ok ())
  | [] => .error .stuck
section
variable {c : Cc} {xe env : Cells} {N B R : Type} {pn : N → Cells} {pb : B → Cells} {ret : RetP R} {te : TE} {tt : TT} {α : Type} [Enc α] {i : Nat}
/-- t = f(..); if test: ..; t[0].append(0); t.clear() -/
theorem s_spoil {K : PySem.W.Frag} {tR v : TS} {f : α → Option (List (List Int))} (hf : ∀ a xs, f a = some xs → enc a = enc xs) {m : M α} {mt : α → M Bool} {mr : α → M (Fl N B R)} {mv : M (Fl N B R)} (h : EvP c .deep te env m)
    (ht : ∀ a, EvT c tt (env.set i (some (.dat (enc a)))) (mt a)) (hr : ∀ a w, StX c xe (tSeq tR w) (env.set i (some (.dat (enc a)))) (mr a) pn pb ret) (hx : Le xe env) (hx2 : ∀ a : α, Le xe (env.set i (some (.dat (enc a))))) (hi : i < env.length)
    (hv : StX c xe v (env.set i none) mv pn pb ret) :
    StX c xe (tSeq (tAsg te (gName i)) (tSeq (tIfS tt tR tNext) (tSeq (tDrop (tBM K "list" rAppend (tOp (rIxL c.K.fr) (tVar i) (tC (.int 0))) (tCons (tC (.int 0)) tNil))) (tSeq (tDrop (tBM0 K "list" rClear (tVar i))) v)))) env
      (M.bind m fun a => M.bind (mt a) fun b => if b = true then mr a else match f a with | some xs => M.bind (rowOk xs) fun _ => mv | none => .error .stuck) pn pb ret := fun σ F H Dn S w => by
  refine h σ F H _ S ((wp_bind.mp w).imp (fun a w1 x F1 H1 g1 r1 => ?_) fun n p x => x.xp S hx)
  obtain ⟨Fd, d1, d2, d3⟩ := r1
  have g1d := g1.uni d2 d3
  have Sd := (S.g g1d).setD (i := i) (Rep.mono (uni_ex_l (B := F1)) d1)
  refine ht a _ _ H1 _ Sd ((wp_bind.mp w1).imp (fun b w2 F2 H2 g2 => ?_) fun n p x => x.xp Sd (hx2 a))
  cases b with
  | true => exact hr a _ _ F2 H2 Dn (Sd.g g2) w2
  | false =>
    rw [if_neg (by decide)] at w2
    cases hfa : f a with
    | none =>
      rw [hfa] at w2
      exact w2.elim
    | some xs =>
    rw [hfa] at w2
    have e := hf a xs hfa
    rw [e] at d1
    cases xs with
    | nil => exact w2.elim
    | cons r xs =>
    have w3 := wp_bind.mp w2
    obtain ⟨w4, w5⟩ := wp_chk w3
    have w4 := of_decide_eq_true w4
    -- the rows
    obtain ⟨l, us, rfl, hl, hus⟩ := repL_inv (show Rep c.K Fd x (.lst ((r :: xs).map enc)) from d1)
    obtain ⟨v0, hv0, hr0⟩ := hus.getD (i := 0) (d := enc r) rfl
    obtain ⟨a0, ys, rfl, ha0, hys⟩ := repL_inv (show Rep c.K Fd v0 (.lst (r.map enc)) from hr0)
    have eys := reps_int hys
    subst eys
    have hne : a0 ≠ l := fun z => by
      subst z
      rw [hl] at ha0
      injection ha0 with ha0
      injection ha0 with ha0
      rw [ha0] at hv0
      cases r with
      | nil => cases hv0
      | cons q r => cases hv0
    have exd : Ex Fd H2 := d2.trans g2.h
    have hl2 := exd _ _ hl
    have ha2 := exd _ _ ha0
    obtain ⟨kl1, kl2⟩ := d3 l (ne_some hl)
    obtain ⟨ka1, ka2⟩ := d3 a0 (ne_some ha0)
    -- back to what was frozen before
    have ee : Ex F1 H2 := g1.fh.trans g2.h
    have S2 : RS c env σ F1 H2 := (S.g g1).g ⟨Ex.refl F1, g2.h, ee, fun _ q _ => q⟩
    have S3 : RS c (env.set i none) (σ.set i (some (.ref l))) F1 H2 := S2.drop
    have far : ∀ (b : Addr), H b = none → ∀ (j : Nat) (k : Bool) (d : D), (env.set i none)[j]? = some (some (.own k d)) → (σ.set i (some (.ref l)))[j]? ≠ some (some (.ref b)) := fun b hb j k d hj hs => by
      have hij : i ≠ j := fun z => by
        subst z
        have hlen := (List.getElem?_eq_some_iff.mp hj).1
        rw [List.length_set] at hlen
        rw [List.getElem?_set_self hlen] at hj
        cases hj
      rw [List.getElem?_set_ne hij] at hj hs
      obtain ⟨v', q1, l', q2, ⟨o', q3, _⟩, _⟩ := S.cell j _ hj
      rw [hs] at q1
      cases q1
      cases q2
      rw [hb] at q3
      cases q3
    have S4 := S3.poke (P := a0) (o := .lst (r.map V.int ++ [.int 0])) ka2 (ex_none S.exG ka1) (far a0 ka1)
    have hl4 : upd H2 a0 (.lst (r.map V.int ++ [.int 0])) l = some (.lst us) := by rw [upd_ne (Ne.symm hne)]; exact hl2
    have S5 := S4.poke (P := l) (o := .lst []) kl2 (ex_none S.exG kl1) (far l kl1)
    have hs : (σ.set i (some (V.ref l)))[i]? = some (some (.ref l)) := List.getElem?_set_self (by rw [S.len]; exact hi)
    show (if false = true then _ else _)
    rw [if_neg (by decide)]
    refine ⟨_, hs, l, us, 0, .ref a0, rfl, rfl, SqL.of hl2, atI_nat (j := 0) hv0, .inl ⟨rfl, _, SqL.of ha2⟩, a0, _, .int 0, rfl, rfl, ha2, ?_, ?_⟩
    · rw [List.length_map]
      exact lim_line w4
    · exact ⟨_, hs, .inl ⟨rfl, us, SqL.of hl4⟩, l, us, rfl, rfl, hl4, hv _ F1 _ Dn S5 w5⟩
end
/-! ### one of two types -/
@[reducible] instance {α β : Type} [Enc α] [Enc β] : Enc (α ⊕ β) := ⟨fun s => match s with | .inl a => enc a | .inr b => enc b⟩
def leftO {α β : Type} (s : α ⊕ β) : Option α :=
  match s with
  | .inl a => some a
  | .inr _ => none
theorem leftO_enc {α β : Type} [Enc α] [Enc β] : ∀ (s : α ⊕ β) (a : α), leftO s = some a → enc s = enc a := fun s a h => by
  cases s with
  | inl b =>
    injection h with h
    rw [h]
    rfl
  | inr b => cases h
def unsum {α β : Type} (s : α ⊕ β) : M α :=
  match s with
  | .inl a => .ok a
  | .inr _ => .error .stuck
section
variable {c : Cc} {env : Cells} {k : RK} {te ta tb : TE} {α β γ : Type} [Enc α] [Enc β] [Enc γ]
theorem e_unsum {m : M (α ⊕ β)} (h : EvP c .dat te env m) : EvP c .dat te env (M.bind m unsum) := fun σ F H Q R w =>
  h σ F H Q R ((wp_bind.mp w).imp (fun o q v F' H' g r => by
    cases o with
    | inr b => exact q.elim
    | inl a => exact q v F' H' g r) fun _ _ x => x)
/-- isinstance(xs, list) -/
theorem e_isL {m : M (List α)} (h : EvP c .dat te env m) : EvP c .dat (tCB RZ.rIsTy (tCons te (tCons (tC (.ty "list")) tNil))) env (M.bind m fun _ => .ok true) := fun σ F H Q R w => by
  refine h σ F H _ R ((wp_bind.mp w).imp (fun a q v F' H' g r => ?_) fun _ _ x => x)
  obtain ⟨p, xs, rfl, hp, _⟩ := repL_inv (show Rep c.K F' v (.lst (a.map enc)) from r)
  exact ⟨_, _, rfl, .lst (g.fh _ _ hp), q _ F' H' g .bl⟩
/-- xs * n -/
theorem o_rep : Op2 c .see .dat .new rRep (fun (xs : List α) (n : Int) => chk (decide (n < 1000000 ∧ -1000000 < n ∧ xs.length * n.toNat < LIM)) (.ok (List.replicate n.toNat xs).flatten)) := fun σ F H a b x y Q e r1 r2 w => by
  obtain ⟨p, o, rfl, hp, hr⟩ := r1
  obtain ⟨vs, rfl, hv⟩ := rootL_inv hr
  have e2 := repI_inv (show Rep c.K F y (.int b) from r2)
  obtain ⟨w1, w2⟩ := wp_chk w
  have w1 := of_decide_eq_true w1
  have el := hv.length
  rw [List.length_map] at el
  refine ⟨p, b, vs, rfl, e2, hp, by omega, by omega, by rw [el]; exact Nat.le_of_lt (lim_line w1.2.2), fun q hq => ?_⟩
  refine w2 _ F _ (.made e hq) ⟨q, _, rfl, hq, upd_same, ex_none e hq, ?_⟩
  have z : ∀ n : Nat, Reps c.K F (List.replicate n vs).flatten ((List.replicate n a).flatten.map enc) := fun n => by
    induction n with
    | zero => exact .nil
    | succ n ih =>
      rw [List.replicate_succ, List.replicate_succ, List.flatten_cons, List.flatten_cons, List.map_append]
      exact hv.append ih
  exact .lst (z b.toNat)
def powB (i j : Int) : Bool := decide (0 ≤ j ∧ j ≤ 1000000 ∧ i.natAbs < 2 ^ 64)
theorem o_pow : Op2 c .dat .dat .dat (rI CPow fun i j => .int (i ^ j.toNat)) (fun (a b : Int) => chk (powB a b) (.ok (a ^ b.toNat))) := op_I (fun _ _ _ => .int) fun i j h => by
  unfold powB at h
  have h := of_decide_eq_true h
  exact h
end
/-! ### what is never come to -/
section
variable {c : Cc} {xe env : Cells} {N B R : Type} {pn : N → Cells} {pb : B → Cells} {ret : RetP R} {t u : TS} {te : TE} {α : Type} [Enc α] {k : RK}
theorem s_stuck : StX c xe t env (.error .stuck : M (Fl N B R)) pn pb ret := fun _ _ _ _ _ w => w.elim
theorem s_retNo {m : M α} (h : EvP c k te env m) (hx : Le xe env) : StX c xe (tSeq (tRet te) u) env (M.bind m fun _ => .error .stuck : M (Fl N B R)) pn pb ret := fun σ F H Dn S w =>
  h σ F H _ S ((wp_bind.mp w).imp (fun _ q => q.elim) fun n p x => x.xp S hx)
end
end HW

set_option Elab.async false
set_option linter.all false
set_option maxRecDepth 100000
set_option autoImplicit false
namespace HW
open PySem PySem.Spec L2 PyProof.Rows
open Evl (Ex)
/-! ### a written root looked at as data for one expression -/
section
variable {c : Cc} {env : Cells} {te : TE} {α β : Type} [Enc α] [Enc β] {i : Nat} {b : Bool}
theorem RS.tmp {σ : L2.St} {F H : Hp} {d : D} (S : RS c env σ F H) (he : env[i]? = some (some (.own b d))) :
    ∃ Fz, Ex F Fz ∧ RS (c.f0 Fz) (env.set i (some (.dat d))) σ Fz H := by
  obtain ⟨v, h1, l, rfl, ⟨o, h3, h4⟩, h5, h6, h7⟩ := S.cell i _ he
  have hi : i < env.length := (List.getElem?_eq_some_iff.mp he).1
  have ez : Ex F (upd F l o) := Ex.new h5
  refine ⟨upd F l o, ez, ⟨?_, ?_, Ex.refl _, fun a q _ => q, S.exG, S.grow, fun a _ q => q, fun j x e => ?_, fun j m k k' d' e' l' n hj hm => ?_⟩⟩
  · rw [List.length_set]
    exact S.len
  · intro a u e
    by_cases q : a = l
    · subst q
      rw [upd_same] at e
      cases e
      exact h3
    · rw [upd_ne q] at e
      exact S.exF a u e
  · by_cases q : i = j
    · subst q
      rw [List.getElem?_set_self hi] at e
      cases e
      exact ⟨_, h1, h4.rep h5⟩
    · rw [List.getElem?_set_ne q] at e
      obtain ⟨v', k1, k2⟩ := S.cell j x e
      refine ⟨v', k1, ?_⟩
      cases x with
      | dat d' => exact Rep.mono ez k2
      | own b' d' =>
        obtain ⟨l', q1, ⟨o', q2, q3⟩, q4, q5⟩ := k2
        refine ⟨l', q1, ⟨o', q2, q3.mono ez⟩, ?_, q5⟩
        have hne : l' ≠ l := fun z => by
          subst z
          exact S.dist i j b b' d d' l' q he e h1 (by rw [k1, q1])
        show upd F l o l' = none
        rw [upd_ne hne]
        exact q4
  · have zj : i ≠ j := fun z => by
      subst z
      rw [List.getElem?_set_self hi] at hj
      cases hj
    have zm : i ≠ m := fun z => by
      subst z
      rw [List.getElem?_set_self hi] at hm
      cases hm
    rw [List.getElem?_set_ne zj] at hj
    rw [List.getElem?_set_ne zm] at hm
    exact S.dist j m k k' d' e' l' n hj hm
/-- numbers, truths, texts -/
theorem e_tmpL [HFree β] {a : α} {m : M (List β)} (he : env[i]? = some (some (.own b (enc a)))) (h : ∀ Fz, EvP (c.f0 Fz).nx .new te (env.set i (some (.dat (enc a)))) m) : EvP c .new te env (noX m) := fun σ F H Q S w => by
  obtain ⟨Fz, ez, S'⟩ := S.tmp he
  refine h Fz σ Fz H Q S'.nx ((wp_noX w).imp (fun xs q v F' H' g r => ?_) fun _ _ z => z)
  obtain ⟨p, o, rfl, h2, h3, h4, h5⟩ := r
  obtain ⟨vs, rfl, hr⟩ := rootL_inv h5
  have hF : F p = none := ex_none S.exF h2
  exact q _ F H' ⟨Ex.refl F, g.h, S.exF.trans g.h, fun _ z _ => z⟩ ⟨p, _, rfl, h2, h3, hF, .lst (reps_free hr)⟩
theorem e_tmp [HFree β] {a : α} {m : M β} (he : env[i]? = some (some (.own b (enc a)))) (h : ∀ Fz, EvP (c.f0 Fz).nx .dat te (env.set i (some (.dat (enc a)))) m) : EvP c .dat te env (noX m) := fun σ F H Q S w => by
  obtain ⟨Fz, ez, S'⟩ := S.tmp he
  refine h Fz σ Fz H Q S'.nx ((wp_noX w).imp (fun xs q v F' H' g r => ?_) fun _ _ z => z)
  exact q v F H' ⟨Ex.refl F, g.h, S.exF.trans g.h, fun _ z _ => z⟩ (HFree.free r F)
end
end HW

set_option Elab.async false
set_option linter.all false
set_option maxRecDepth 100000
set_option autoImplicit false
namespace HW
open PySem PySem.Spec L2 PyProof.Rows
open Evl (Ex)
theorem law_end0 {P : Program} {w : World} {K : PySem.W.Frag} {mg : Str → Option Value} {H : Hp} {a : Addr} {ns : List Int} {law : Scr → M Bool} (h : law ⟨ns⟩ = .ok true) (hS : SqL K H a (ns.map V.int)) : spM ⟨K, P, w⟩ mg .dat (Rm1 law) [.ref a] H (fun v _ => v = .bl true) fun _ _ _ => False := by
  refine ⟨H, [D.scr ns], mapE (law ⟨ns⟩), ⟨⟨ns⟩, rfl, rfl⟩, Ex.refl H, .cons (.scr hS) .nil, ?_⟩
  rw [h]
  intro v F' H' g r
  exact repB_inv (show Rep _ F' v (.bl true) from r)
theorem cx_false {P : Program} {w : World} {H : Hp} {s : Shared} {e : Value} {s' : Shared} : L2.CX P w [] H s (fun _ _ _ => False) e s' → False := fun h => by
  obtain ⟨_, _, _, _, _, _, _, _, _, _, _, _, _, _, _, _, q⟩ := h
end HW

set_option Elab.async false
set_option linter.all false
set_option maxRecDepth 100000
set_option autoImplicit false
namespace HW
open PySem L2 PyProof.Rows
noncomputable def places_of_b (letters_0 : Txt) (word_1 : Txt) : M (Fl Unit Unit (List Int)) := (M.bind (M.bind (chk (decide ((word_1).cs.length < LIM)) (.ok (signs word_1))) fun z3 => (lcM (fun x2 => (idxT letters_0 x2)) z3)) fun r4 => .ok (.rt r4))
noncomputable def places_of (letters_0 : Txt) (word_1 : Txt) : M (List Int) := finR none (places_of_b letters_0 word_1)
noncomputable def run_from_b (letters_5 : Txt) (machine_6 : ((List (List Int)) × (List Bool))) (state_7 : Int) (word_8 : Txt) : M (Fl Unit Unit Int) := (M.bind (places_of letters_5 word_8) fun xs14 => bindF (forF (fun (s9 : Int) (x10 : Int) => (M.bind (M.bind (getL (machine_6).1 s9) fun z11 => (getL z11 x10)) fun state_12 => (.ok (.nx state_12)))) xs14 state_7) fun (s9 : Int) => (M.bind (.ok s9) fun r13 => .ok (.rt r13)))
noncomputable def run_from (letters_5 : Txt) (machine_6 : ((List (List Int)) × (List Bool))) (state_7 : Int) (word_8 : Txt) : M Int := finR none (run_from_b letters_5 machine_6 state_7 word_8)
noncomputable def reached_b (table_15 : (List (List Int))) (first_16 : Int) : M (Fl Unit Unit (List Int)) := (M.bind (chk (decide (((first_16 :: ([] : (List Int)))).length < LIM)) (.ok (first_16 :: ([] : (List Int))))) fun found_17 => (M.bind (.ok (Dic.mk [(first_16, true)])) fun seen_18 => (M.bind (.ok (0 : Int)) fun at_19 => (bindF (whileF (fun (s20 : ((List Int) × (Dic Int Bool) × Int)) => (.ok (decide (s20.2.2 < ((s20.1).length : Int))))) (fun (s20 : ((List Int) × (Dic Int Bool) × Int)) => (M.bind (M.bind (getL s20.1 s20.2.2) fun z21 => (getL table_15 z21)) fun xs33 => bindF (forF (fun (s22 : ((List Int) × (Dic Int Bool))) (x23 : Int) => (bindF (M.bind (.ok (!hasD s22.2 x23)) fun t24 => if t24 = true then (M.bind (.ok true) fun a29 => M.bind (.ok x23) fun k30 => chk (decide ((s22.2).kvs.length < LIM)) (M.bind (.ok x23) fun a31 => chk (decide ((s22.1).length < LIM)) (.ok (.nx ((s22.1 ++ [a31]), (Dic.mk (pt (s22.2).kvs k30 a29))))))) else (.ok (.nx (s22.1, s22.2)))) fun (j28 : ((List Int) × (Dic Int Bool))) => (.ok (.nx (j28.1, j28.2))))) xs33 (s20.1, s20.2.1)) fun (s22 : ((List Int) × (Dic Int Bool))) => (M.bind (.ok (1 : Int)) fun b32 => (.ok (.nx (s22.1, s22.2, (s20.2.2 + b32))))))) (found_17, seen_18, at_19)) fun (s20 : ((List Int) × (Dic Int Bool) × Int)) => (.ok (.rt s20.1))))))
noncomputable def reached (table_15 : (List (List Int))) (first_16 : Int) : M (List Int) := finR none (reached_b table_15 first_16)
noncomputable def classes_of_b (table_34 : (List (List Int))) (ends_35 : (List Bool)) (states_36 : (List Int)) (most_37 : Int) : M (Fl Unit Unit (Option (Dic Int Int))) := (M.bind (dcM (fun x38 => (.ok x38)) (fun x38 => (M.bind (getL ends_35 x38) fun z39 => (.ok (if z39 then (1 : Int) else 0)))) states_36 []) fun classes_40 => (M.bind (chk (decide ((((classes_40).kvs.map (·.2))).length ≤ 4000)) (.ok ((dedupI ((classes_40).kvs.map (·.2))).length : Int))) fun many_41 => (bindF (whileF (fun (s42 : ((Dic Int Int) × Int)) => (.ok (decide (s42.2 ≤ most_37)))) (fun (s42 : ((Dic Int Int) × Int)) => (M.bind (.ok (DicN.mk [] : (DicN (Int × (Tp Int)) Int))) fun kinds_43 => (M.bind (.ok (Dic.mk [] : (Dic Int Int))) fun later_44 => (M.bind (.ok states_36) fun xs64 => bindF (forF (fun (s45 : ((DicN (Int × (Tp Int)) Int) × (Dic Int Int))) (x46 : Int) => (M.bind (M.bind (getD s42.1 x46) fun z52 => (M.bind (M.bind (M.bind (getL table_34 x46) fun z50 => (lcM (fun x49 => (getD s42.1 x49)) z50)) fun z51 => (.ok (Tp.mk z51))) fun z53 => (.ok (z52, z53)))) fun kind_54 => (M.bind (chk (decide ((s45.1).kvs.length < LIM)) (.ok (setdN s45.1 kind_54 ((s45.1).kvs.length : Int)))) fun a56 => M.bind (.ok x46) fun k57 => chk (decide ((s45.2).kvs.length < LIM)) (.ok (.nx (a56.1, (Dic.mk (pt (s45.2).kvs k57 a56.2)))))))) xs64 (kinds_43, later_44)) fun (s45 : ((DicN (Int × (Tp Int)) Int) × (Dic Int Int))) => (M.bind (.ok (eqD ((s45.1).kvs.length : Int) s42.2)) fun t63 => if t63 = true then (M.bind (.ok s45.2) fun r59 => .ok (.rt (some r59))) else (M.bind (.ok ((s45.1).kvs.length : Int)) fun many_60 => (M.bind (.ok s45.2) fun classes_62 => (.ok (.nx (classes_62, many_60)))))))))) (classes_40, many_41)) fun (s42 : ((Dic Int Int) × Int)) => (M.bind (.ok (none : (Option (Dic Int Int)))) fun r65 => .ok (.rt r65)))))
noncomputable def classes_of (table_34 : (List (List Int))) (ends_35 : (List Bool)) (states_36 : (List Int)) (most_37 : Int) : M (Option (Dic Int Int)) := finR none (classes_of_b table_34 ends_35 states_36 most_37)
noncomputable def merged_b (table_66 : (List (List Int))) (ends_67 : (List Bool)) (states_68 : (List Int)) (classes_69 : (Dic Int Int)) : M (Fl Unit Unit ((List (List Int)) × (List Bool))) := (M.bind (.ok (Dic.mk [] : (Dic Int Int))) fun numbers_70 => (M.bind (.ok ([] : (List Int))) fun first_71 => (M.bind (.ok states_68) fun xs91 => bindF (forF (fun (s72 : ((Dic Int Int) × (List Int))) (x73 : Int) => (bindF (M.bind (M.bind (getD classes_69 x73) fun z74 => (.ok (!hasD s72.1 z74))) fun t75 => if t75 = true then (M.bind (.ok ((s72.1).kvs.length : Int)) fun a80 => M.bind (getD classes_69 x73) fun k81 => chk (decide ((s72.1).kvs.length < LIM)) (M.bind (.ok x73) fun a82 => chk (decide ((s72.2).length < LIM)) (.ok (.nx ((Dic.mk (pt (s72.1).kvs k81 a80)), (s72.2 ++ [a82])))))) else (.ok (.nx (s72.1, s72.2)))) fun (j79 : ((Dic Int Int) × (List Int))) => (.ok (.nx (j79.1, j79.2))))) xs91 (numbers_70, first_71)) fun (s72 : ((Dic Int Int) × (List Int))) => (M.bind (lcM (fun x83 => (M.bind (getL table_66 x83) fun z86 => (lcM (fun x84 => (M.bind (getD classes_69 x84) fun z85 => (getD s72.1 z85))) z86))) s72.2) fun rows_87 => (M.bind (M.bind (lcM (fun x88 => (getL ends_67 x88)) s72.2) fun z89 => (.ok (rows_87, z89))) fun r90 => .ok (.rt r90))))))
noncomputable def merged (table_66 : (List (List Int))) (ends_67 : (List Bool)) (states_68 : (List Int)) (classes_69 : (Dic Int Int)) : M ((List (List Int)) × (List Bool)) := finR none (merged_b table_66 ends_67 states_68 classes_69)
noncomputable def least_b (letters_92 : Txt) (machine_93 : ((List (List Int)) × (List Bool))) : M (Fl Unit Unit ((List (List Int)) × (List Bool))) := (M.bind (.ok machine_93) fun p94 => (M.bind (reached p94.1 (0 : Int)) fun states_95 => (M.bind (M.bind (M.bind (classes_of p94.1 p94.2 states_95 ((p94.1).length : Int)) fun z96 => (unopt z96)) fun z97 => (merged p94.1 p94.2 states_95 z97)) fun r98 => .ok (.rt r98))))
noncomputable def least (letters_92 : Txt) (machine_93 : ((List (List Int)) × (List Bool))) : M ((List (List Int)) × (List Bool)) := finR none (least_b letters_92 machine_93)
noncomputable def turning_of_b (letters_99 : Txt) (machine_100 : ((List (List Int)) × (List Bool))) (word_101 : Txt) : M (Fl Unit Unit (List Int)) := (M.bind (least letters_99 machine_100) fun small_102 => (M.bind (M.bind (chk (rngB 0 (((small_102).1).length : Int)) (.ok (rng 0 (((small_102).1).length : Int)))) fun z104 => (lcM (fun x103 => (run_from letters_99 small_102 x103 word_101)) z104)) fun r105 => .ok (.rt r105)))
noncomputable def turning_of (letters_99 : Txt) (machine_100 : ((List (List Int)) × (List Bool))) (word_101 : Txt) : M (List Int) := finR none (turning_of_b letters_99 machine_100 word_101)
noncomputable def rows_met_b (letters_106 : Txt) (table_107 : (List (List Int))) : M (Fl Unit Unit (List ((Tp Int) × Txt))) := (M.bind (chk (rngB 0 ((table_107).length : Int)) (.ok (Tp.mk (rng 0 ((table_107).length : Int))))) fun begin_108 => (M.bind (.ok (DicN.mk [(begin_108, (Txt.mk []))])) fun words_109 => (M.bind (chk (decide (((begin_108 :: ([] : (List (Tp Int))))).length < LIM)) (.ok (begin_108 :: ([] : (List (Tp Int)))))) fun order_110 => (M.bind (.ok (0 : Int)) fun at_111 => (bindF (whileF (fun (s112 : ((DicN (Tp Int) Txt) × (List (Tp Int)) × Int)) => (.ok (decide (s112.2.2 < ((s112.2.1).length : Int))))) (fun (s112 : ((DicN (Tp Int) Txt) × (List (Tp Int)) × Int)) => (M.bind (chk (decide ((letters_106).cs.length < LIM)) (.ok (enumL (signs letters_106)))) fun xs140 => bindF (forF (fun (s113 : ((DicN (Tp Int) Txt) × (List (Tp Int)))) (x114 : (Int × Txt)) => (M.bind (M.bind (M.bind (M.bind (getL s113.2 s112.2.2) fun z119 => (.ok (z119).xs)) fun z122 => (lcM (fun x120 => (M.bind (getL table_107 x120) fun z121 => (getL z121 x114.1))) z122)) fun z123 => (.ok (Tp.mk z123))) fun behind_124 => (bindF (M.bind (.ok (!hasN s113.1 behind_124)) fun t125 => if t125 = true then (M.bind (M.bind (M.bind (getL s113.2 s112.2.2) fun z133 => (getN s113.1 z133)) fun z134 => (chk (decide ((z134).cs.length + (x114.2).cs.length < LIM)) (.ok (Txt.mk ((z134).cs ++ (x114.2).cs))))) fun a135 => M.bind (.ok behind_124) fun k136 => chk (decide ((s113.1).kvs.length < LIM)) (M.bind (.ok behind_124) fun a137 => chk (decide ((s113.2).length < LIM)) (M.bind (.ok (decide ((2000 : Int) < (((s113.2 ++ [a137])).length : Int)))) fun t138 => if t138 = true then (.error (.exc "TooMany" [])) else (.ok (.nx ((DicN.mk (pt (s113.1).kvs k136 a135)), (s113.2 ++ [a137]))))))) else (.ok (.nx (s113.1, s113.2)))) fun (j132 : ((DicN (Tp Int) Txt) × (List (Tp Int)))) => (.ok (.nx (j132.1, j132.2)))))) xs140 (s112.1, s112.2.1)) fun (s113 : ((DicN (Tp Int) Txt) × (List (Tp Int)))) => (M.bind (.ok (1 : Int)) fun b139 => (.ok (.nx (s113.1, s113.2, (s112.2.2 + b139))))))) (words_109, order_110, at_111)) fun (s112 : ((DicN (Tp Int) Txt) × (List (Tp Int)) × Int)) => (M.bind (lcM (fun x141 => (M.bind (getN s112.1 x141) fun z142 => (.ok (x141, z142)))) s112.2.1) fun r143 => .ok (.rt r143)))))))
noncomputable def rows_met (letters_106 : Txt) (table_107 : (List (List Int))) : M (List ((Tp Int) × Txt)) := finR none (rows_met_b letters_106 table_107)
noncomputable def members_b (letters_144 : Txt) (machine_145 : ((List (List Int)) × (List Bool))) : M (Fl Unit Unit (List (List Int))) := (M.bind (M.bind (M.bind (M.bind (least letters_144 machine_145) fun z146 => (.ok (z146).1)) fun z147 => (rows_met letters_144 z147)) fun z149 => (lcM (fun x148 => (.ok (x148.1).xs)) z149)) fun r150 => .ok (.rt r150))
noncomputable def members (letters_144 : Txt) (machine_145 : ((List (List Int)) × (List Bool))) : M (List (List Int)) := finR none (members_b letters_144 machine_145)
noncomputable def ring_of_b (letters_151 : Txt) (machine_152 : ((List (List Int)) × (List Bool))) : M (Fl Unit Unit Int) := (M.bind (M.bind (M.bind (least letters_151 machine_152) fun z153 => (.ok (z153).1)) fun z154 => (rows_met letters_151 z154)) fun xs157 => bindF (forF (fun (s155 : Unit) (x156 : ((Tp Int) × Txt)) => (.error .stuck)) xs157 ()) fun (s155 : Unit) => (.error .stuck))
noncomputable def ring_of (letters_151 : Txt) (machine_152 : ((List (List Int)) × (List Bool))) : M Int := finR none (ring_of_b letters_151 machine_152)
noncomputable def rest_paper_b (letters_158 : Txt) (machine_159 : ((List (List Int)) × (List Bool))) : M (Fl Unit Unit Int) := (M.bind (members letters_158 machine_159) fun rows_160 => (.error .stuck))
noncomputable def rest_paper (letters_158 : Txt) (machine_159 : ((List (List Int)) × (List Bool))) : M Int := finR none (rest_paper_b letters_158 machine_159)
noncomputable def _law_pool_b (script_162 : Scr) : M (Fl Unit Unit (List Int)) := (M.bind (.ok ([] : (List Int))) fun pool_163 => (M.bind (.ok (17 : Int)) fun state_164 => (M.bind (chk (rngB 0 (if (63 : Int) < ((script_162).xs.length : Int) then (63 : Int) else ((script_162).xs.length : Int))) (.ok (rng 0 (if (63 : Int) < ((script_162).xs.length : Int) then (63 : Int) else ((script_162).xs.length : Int))))) fun xs255 => bindF (forF (fun (s165 : ((List Int) × Int)) (x166 : Int) => (M.bind (getL (script_162).xs x166) fun cell_167 => (M.bind (M.bind (M.bind (M.bind (M.bind (chk (cmulB s165.2 (69621 : Int)) (.ok (s165.2 * (69621 : Int)))) fun z171 => (M.bind (chk (cmulB cell_167 (48271 : Int)) (.ok (cell_167 * (48271 : Int)))) fun z172 => (.ok (z171 + z172)))) fun z173 => (.ok (z173 + x166))) fun z174 => (.ok z174)) fun z175 => (chk (posB z175 (2147483647 : Int)) (.ok (z175 % (2147483647 : Int))))) fun state_176 => (bindF (M.bind (M.bind (chk (powB (10 : Int) (18 : Int)) (.ok ((10 : Int) ^ ((18 : Int)).toNat))) fun z177 => (.ok (decide (z177 ≤ cell_167)))) fun t178 => if t178 = true then (M.bind (chk (rngB 0 (60 : Int)) (.ok (rng 0 (60 : Int)))) fun xs217 => bindF (forF (fun (s212 : ((List Int) × Int)) (x213 : Int) => (M.bind (.ok (eqD s212.2 (0 : Int))) fun t216 => if t216 = true then (.ok (.bk (s212.1, s212.2))) else (M.bind (chk (posB s212.2 (60 : Int)) (.ok (s212.2 % (60 : Int)))) fun a214 => chk (decide ((s212.1).length < LIM)) (M.bind (chk (divB s212.2 (60 : Int)) (.ok (s212.2 / (60 : Int)))) fun cell_215 => (.ok (.nx ((s212.1 ++ [a214]), cell_215))))))) xs217 (s165.1, cell_167)) fun (s212 : ((List Int) × Int)) => (.ok (.nx (s212.1, s212.2)))) else (M.bind (M.bind (M.bind (M.bind (M.bind (chk (cmulB cell_167 (48271 : Int)) (.ok (cell_167 * (48271 : Int)))) fun z221 => (M.bind (chk (cmulB x166 (69621 : Int)) (.ok (x166 * (69621 : Int)))) fun z222 => (.ok (z221 + z222)))) fun z223 => (.ok (z223 + (7 : Int)))) fun z224 => (.ok z224)) fun z225 => (chk (posB z225 (2147483647 : Int)) (.ok (z225 % (2147483647 : Int))))) fun one_226 => (M.bind (M.bind (M.bind (M.bind (M.bind (chk (cmulB one_226 (16807 : Int)) (.ok (one_226 * (16807 : Int)))) fun z230 => (M.bind (chk (cmulB cell_167 (31 : Int)) (.ok (cell_167 * (31 : Int)))) fun z231 => (.ok (z230 + z231)))) fun z232 => (.ok (z232 + x166))) fun z233 => (.ok z233)) fun z234 => (chk (posB z234 (1000003 : Int)) (.ok (z234 % (1000003 : Int))))) fun two_235 => (M.bind (M.bind (M.bind (M.bind (M.bind (M.bind (chk (divB one_226 (11 : Int)) (.ok (one_226 / (11 : Int)))) fun z236 => (.ok z236)) fun z237 => (chk (posB z237 (60 : Int)) (.ok (z237 % (60 : Int))))) fun z238 => (M.bind (M.bind (chk (posB two_235 (60 : Int)) (.ok (two_235 % (60 : Int)))) fun z239 => (.ok (z239 :: ([] : (List Int))))) fun z240 => (.ok (z238 :: z240)))) fun z241 => (chk (decide ((z241).length < LIM)) (.ok z241))) fun z242 => (chk (decide ((s165.1).length + (z242).length < LIM)) (.ok (s165.1 ++ z242)))) fun pool_243 => (.ok (.nx (pool_243, cell_167))))))) fun (j211 : ((List Int) × Int)) => (.ok (.nx (j211.1, state_176))))))) xs255 (pool_163, state_164)) fun (s165 : ((List Int) × Int)) => (M.bind (chk (rngB 0 (300 : Int)) (.ok (rng 0 (300 : Int)))) fun xs254 => bindF (forF (fun (s244 : ((List Int) × Int)) (x245 : Int) => (M.bind (M.bind (M.bind (M.bind (chk (cmulB s244.2 (48271 : Int)) (.ok (s244.2 * (48271 : Int)))) fun z247 => (.ok (z247 + (11 : Int)))) fun z248 => (.ok z248)) fun z249 => (chk (posB z249 (2147483647 : Int)) (.ok (z249 % (2147483647 : Int))))) fun state_250 => (M.bind (M.bind (M.bind (chk (divB state_250 (97 : Int)) (.ok (state_250 / (97 : Int)))) fun z251 => (.ok z251)) fun z252 => (chk (posB z252 (60 : Int)) (.ok (z252 % (60 : Int))))) fun a253 => chk (decide ((s244.1).length < LIM)) (.ok (.nx ((s244.1 ++ [a253]), state_250)))))) xs254 (s165.1, s165.2)) fun (s244 : ((List Int) × Int)) => (.ok (.rt s244.1))))))
noncomputable def _law_pool (script_162 : Scr) : M (List Int) := finR none (_law_pool_b script_162)
noncomputable def _law_stream_b (script_256 : Scr) : M (Fl Unit Unit (List Int)) := (M.bind (M.bind (chk (decide ((((0 : Int) :: ([] : (List Int)))).length < LIM)) (.ok ((0 : Int) :: ([] : (List Int))))) fun z257 => (M.bind (_law_pool script_256) fun z258 => (chk (decide ((z257).length + (z258).length < LIM)) (.ok (z257 ++ z258))))) fun r259 => .ok (.rt r259))
noncomputable def _law_stream (script_256 : Scr) : M (List Int) := finR none (_law_stream_b script_256)
noncomputable def _law_pick_b (pool_260 : (List Int)) (many_261 : Int) : M (Fl Unit Unit ((List Int) × Int)) := (M.bind (M.bind (M.bind (M.bind (getL pool_260 (0 : Int)) fun z262 => (.ok z262)) fun z263 => (chk (posB z263 (((pool_260).length : Int) - (1 : Int))) (.ok (z263 % (((pool_260).length : Int) - (1 : Int)))))) fun z264 => (.ok ((1 : Int) + z264))) fun a265 => M.bind (.ok (0 : Int)) fun n266 => M.bind (setL pool_260 n266 a265) fun pool_267 => (M.bind (M.bind (M.bind (M.bind (getL pool_267 (0 : Int)) fun z269 => (getL pool_267 z269)) fun z270 => (.ok z270)) fun z271 => (chk (posB z271 many_261) (.ok (z271 % many_261)))) fun r272 => .ok (.rt (pool_267, r272))))
noncomputable def _law_pick (pool_260 : (List Int)) (many_261 : Int) : M ((List Int) × Int) := finIO (_law_pick_b pool_260 many_261)
noncomputable def _law_letters_b (pool_273 : (List Int)) (most_274 : Int) : M (Fl Unit Unit ((List Int) × Txt)) := (M.bind (M.bind (noX (_law_pick pool_273 most_274)) fun s275 => (.ok (s275.1, ((1 : Int) + s275.2)))) fun many_276 => (M.bind (.ok (Txt.mk [97, 98, 99, 100, 101, 102, 103, 104, 105, 106, 107, 108, 109, 110, 111, 112, 113, 114, 115, 116, 117, 118, 119, 120, 121, 122])) fun signs_277 => (M.bind (M.bind (noX (_law_pick many_276.1 (26 : Int))) fun s287 => (M.bind (M.bind (M.bind (chk (decide ((((1 : Int) :: ((3 : Int) :: ((5 : Int) :: ((7 : Int) :: ((9 : Int) :: ((11 : Int) :: ([] : (List Int))))))))).length < LIM)) (.ok ((1 : Int) :: ((3 : Int) :: ((5 : Int) :: ((7 : Int) :: ((9 : Int) :: ((11 : Int) :: ([] : (List Int)))))))))) fun a288 => .ok (s287.1, a288)) fun s289 => (M.bind (noX (_law_pick s289.1 (6 : Int))) fun s290 => (M.bind (getL s289.2 s290.2) fun a291 => .ok (s290.1, a291)))) fun s292 => (.ok (s292.1, (s287.2, s292.2))))) fun p293 => (M.bind (M.bind (M.bind (chk (rngB 0 many_276.2) (.ok (rng 0 many_276.2))) fun z300 => (lcM (fun x294 => (M.bind (M.bind (M.bind (M.bind (chk (cmulB p293.2.2 x294) (.ok (p293.2.2 * x294))) fun z296 => (.ok (p293.2.1 + z296))) fun z297 => (.ok z297)) fun z298 => (chk (posB z298 (26 : Int)) (.ok (z298 % (26 : Int))))) fun z299 => (getT signs_277 z299))) z300)) fun z301 => (joinM (Txt.mk []) z301)) fun r302 => .ok (.rt (p293.1, r302))))))
noncomputable def _law_letters (pool_273 : (List Int)) (most_274 : Int) : M ((List Int) × Txt) := finIO (_law_letters_b pool_273 most_274)
noncomputable def _law_machine_b (pool_303 : (List Int)) (letters_304 : Txt) (most_305 : Int) : M (Fl Unit Unit ((List Int) × ((List (List Int)) × (List Bool)))) := (M.bind (M.bind (noX (_law_pick pool_303 most_305)) fun s306 => (.ok (s306.1, ((1 : Int) + s306.2)))) fun many_307 => (M.bind (M.bind (M.bind (chk (rngB 0 many_307.2) (.ok (rng 0 many_307.2))) fun a318 => .ok (many_307.1, a318)) fun s319 => (lcX (fun s313 x308 => (M.bind (M.bind (chk (decide ((letters_304).cs.length < LIM)) (.ok (signs letters_304))) fun a316 => .ok (s313, a316)) fun s317 => (lcX (fun s315 x314 => (noX (_law_pick s315 many_307.2))) s317.2 s317.1))) s319.2 s319.1)) fun table_320 => (M.bind (M.bind (M.bind (M.bind (chk (rngB 0 many_307.2) (.ok (rng 0 many_307.2))) fun a344 => .ok (table_320.1, a344)) fun s345 => (lcX (fun s341 x338 => (M.bind (noX (_law_pick s341 (3 : Int))) fun s343 => (.ok (s343.1, (eqD s343.2 (0 : Int)))))) s345.2 s345.1)) fun s346 => (.ok (s346.1, (table_320.2, s346.2)))) fun r347 => .ok (.rt (r347.1, r347.2)))))
noncomputable def _law_machine (pool_303 : (List Int)) (letters_304 : Txt) (most_305 : Int) : M ((List Int) × ((List (List Int)) × (List Bool))) := finIO (_law_machine_b pool_303 letters_304 most_305)
noncomputable def _law_least_b (letters_348 : Txt) (machine_349 : ((List (List Int)) × (List Bool))) : M (Fl Unit Unit ((List (List Int)) × (List Bool))) := (M.bind (.ok machine_349) fun p350 => (M.bind (chk (decide ((((0 : Int) :: ([] : (List Int)))).length < LIM)) (.ok ((0 : Int) :: ([] : (List Int))))) fun order_351 => (M.bind (chk (rngB 0 ((p350.1).length : Int)) (.ok (rng 0 ((p350.1).length : Int)))) fun xs411 => bindF (forF (fun (s352 : (List Int)) (x353 : Int) => (M.bind (.ok (cutL s352 (some x353) (some (x353 + (1 : Int))))) fun xs364 => bindF (forF (fun (s354 : (List Int)) (x355 : Int) => (M.bind (M.bind (M.bind (M.bind (getL p350.1 x355) fun z356 => (.ok (enumL z356))) fun z361 => (lcF (fun x357 => (if (!memB x357.2 s354) = true then (M.bind (M.bind (getL p350.1 x355) fun z359 => (.ok (cutL z359 none (some x357.1)))) fun z360 => (.ok (!memB x357.2 z360))) else .ok false)) (fun x357 => (.ok x357.2)) z361)) fun z362 => (chk (decide ((s354).length + (z362).length < LIM)) (.ok (s354 ++ z362)))) fun order_363 => (.ok (.nx order_363)))) xs364 s352) fun (s354 : (List Int)) => (.ok (.nx s354)))) xs411 order_351) fun (s352 : (List Int)) => (M.bind (lcM (fun x365 => (.ok (if x365 then (1 : Int) else 0))) p350.2) fun marks_366 => (M.bind (chk (rngB 0 ((p350.1).length : Int)) (.ok (rng 0 ((p350.1).length : Int)))) fun xs410 => bindF (forF (fun (s367 : (List Int)) (x368 : Int) => (M.bind (M.bind (chk (rngB 0 ((p350.1).length : Int)) (.ok (rng 0 ((p350.1).length : Int)))) fun z377 => (lcM (fun x369 => (M.bind (getL s367 x369) fun z375 => (M.bind (M.bind (M.bind (getL p350.1 x369) fun z373 => (lcM (fun x372 => (getL s367 x372)) z373)) fun z374 => (.ok (Tp.mk z374))) fun z376 => (.ok (z375, z376))))) z377)) fun rows_378 => (M.bind (lcM (fun x379 => (idxN rows_378 x379)) rows_378) fun marks_380 => (.ok (.nx marks_380))))) xs410 marks_366) fun (s367 : (List Int)) => (M.bind (.ok ([] : (List Int))) fun first_381 => (M.bind (.ok s352) fun xs409 => bindF (forF (fun (s382 : (List Int)) (x383 : Int) => (bindF (M.bind (M.bind (getL s367 x383) fun z388 => (M.bind (noX (lcM (fun x386 => (getL s367 x386)) s382)) fun z389 => (.ok (!memB z388 z389)))) fun t390 => if t390 = true then (M.bind (.ok x383) fun a393 => chk (decide ((s382).length < LIM)) (.ok (.nx (s382 ++ [a393])))) else (.ok (.nx s382))) fun (j392 : (List Int)) => (.ok (.nx j392)))) xs409 first_381) fun (s382 : (List Int)) => (M.bind (noX (lcM (fun x394 => (getL s367 x394)) s382)) fun numbers_396 => (M.bind (M.bind (lcM (fun x401 => (M.bind (getL p350.1 x401) fun z404 => (lcM (fun x402 => (M.bind (getL s367 x402) fun z403 => (idxL numbers_396 z403))) z404))) s382) fun z406 => (M.bind (lcM (fun x405 => (getL p350.2 x405)) s382) fun z407 => (.ok (z406, z407)))) fun r408 => .ok (.rt r408))))))))))
noncomputable def _law_least (letters_348 : Txt) (machine_349 : ((List (List Int)) × (List Bool))) : M ((List (List Int)) × (List Bool)) := finR none (_law_least_b letters_348 machine_349)
noncomputable def _law_told_b (letters_412 : Txt) (machine_413 : ((List (List Int)) × (List Bool))) (which_414 : Int) : M (Fl Unit Unit ((List (List Int)) ⊕ Txt)) := (bindF (tryM (M.bind (.ok (eqD which_414 (1 : Int))) fun t420 => if t420 = true then (M.bind (ring_of letters_412 machine_413) fun r416 => .error .stuck) else (M.bind (.ok (eqD which_414 (2 : Int))) fun t419 => if t419 = true then (M.bind (rest_paper letters_412 machine_413) fun r417 => .error .stuck) else (M.bind (members letters_412 machine_413) fun r418 => .ok (.rt (Sum.inl r418))))) (fun n => if n = "TooMany" then some (M.bind (.ok (Txt.mk [109, 97, 110, 121])) fun r421 => .ok (.rt (Sum.inr r421))) else none)) fun (_ : Unit) => .error .stuck)
noncomputable def _law_told (letters_412 : Txt) (machine_413 : ((List (List Int)) × (List Bool))) (which_414 : Int) : M ((List (List Int)) ⊕ Txt) := finR none (_law_told_b letters_412 machine_413 which_414)
noncomputable def _law_members_b (letters_423 : Txt) (table_424 : (List (List Int))) : M (Fl Unit Unit (Option (List (List Int)))) := (M.bind (M.bind (M.bind (chk (rngB 0 ((table_424).length : Int)) (.ok (rng 0 ((table_424).length : Int)))) fun z425 => (.ok (z425 :: ([] : (List (List Int)))))) fun z426 => (chk (decide ((z426).length < LIM)) (.ok z426))) fun found_428 => M.bind (M.bind (chk (rngB 0 ((table_424).length : Int)) (.ok (Tp.mk (rng 0 ((table_424).length : Int))))) fun z427 => (.ok (DicN.mk [(z427, true)]))) fun there_429 => (M.bind (chk (rngB 0 (2001 : Int)) (.ok (rng 0 (2001 : Int)))) fun xs454 => bindF (forF (fun (s430 : ((List (List Int)) × (DicN (Tp Int) Bool))) (x431 : Int) => (M.bind (.ok (eqD x431 ((s430.1).length : Int))) fun t452 => if t452 = true then (M.bind (.ok s430.1) fun r433 => .ok (.rt (some r433))) else (M.bind (M.bind (chk (decide ((letters_423).cs.length < LIM)) (.ok ((letters_423).cs.length : Int))) fun z434 => (chk (rngB 0 z434) (.ok (rng 0 z434)))) fun xs451 => bindF (forF (fun (s435 : ((List (List Int)) × (DicN (Tp Int) Bool))) (x436 : Int) => (M.bind (M.bind (getL s435.1 x431) fun z439 => (lcM (fun x437 => (M.bind (getL table_424 x437) fun z438 => (getL z438 x436))) z439)) fun row_440 => (bindF (M.bind (.ok (!hasN s435.2 (Tp.mk row_440))) fun t441 => if t441 = true then (M.bind (.ok true) fun a446 => M.bind (.ok (Tp.mk row_440)) fun k447 => chk (decide ((s435.2).kvs.length < LIM)) (M.bind (.ok row_440) fun a448 => chk (decide ((s435.1).length < LIM)) (.ok (.nx ((s435.1 ++ [a448]), (DicN.mk (pt (s435.2).kvs k447 a446))))))) else (.ok (.nx (s435.1, s435.2)))) fun (j445 : ((List (List Int)) × (DicN (Tp Int) Bool))) => (.ok (.nx (j445.1, j445.2)))))) xs451 (s430.1, s430.2)) fun (s435 : ((List (List Int)) × (DicN (Tp Int) Bool))) => (M.bind (.ok (decide ((2000 : Int) < ((s435.1).length : Int)))) fun t450 => if t450 = true then (M.bind (.ok (none : (Option (List (List Int))))) fun r449 => .ok (.rt r449)) else (.ok (.nx (s435.1, s435.2))))))) xs454 (found_428, there_429)) fun (s430 : ((List (List Int)) × (DicN (Tp Int) Bool))) => (M.bind (.ok (none : (Option (List (List Int))))) fun r453 => .ok (.rt r453))))
noncomputable def _law_members (letters_423 : Txt) (table_424 : (List (List Int))) : M (Option (List (List Int))) := finR none (_law_members_b letters_423 table_424)
noncomputable def _law_lively_b (pool_455 : (List Int)) (letters_456 : Txt) : M (Fl Unit Unit ((List Int) × ((List (List Int)) × (List Bool)))) := (M.bind (M.bind (noX (_law_pick pool_455 (5 : Int))) fun s457 => (.ok (s457.1, ((3 : Int) + s457.2)))) fun many_458 => (M.bind (.ok ([] : (List (List Int)))) fun rows_459 => (M.bind (chk (rngB 0 many_458.2) (.ok (rng 0 many_458.2))) fun xs490 => bindF (forF (fun (s460 : (List (List Int))) (x461 : Int) => (M.bind (M.bind (M.bind (chk (posB (x461 + (1 : Int)) many_458.2) (.ok ((x461 + (1 : Int)) % many_458.2))) fun z462 => (.ok (z462 :: ([] : (List Int))))) fun z463 => (chk (decide ((z463).length < LIM)) (.ok z463))) fun row_464 => (M.bind (M.bind (chk (decide ((letters_456).cs.length < LIM)) (.ok ((letters_456).cs.length : Int))) fun z465 => (chk (rngB (1 : Int) z465) (.ok (rng (1 : Int) z465)))) fun xs483 => bindF (forF (fun (s466 : (List Int)) (x467 : Int) => (M.bind (M.bind (M.bind (M.bind (M.bind (if (decide (x461 < (2 : Int))) = true then (M.bind (chk (decide ((((1 : Int) :: ((0 : Int) :: ([] : (List Int))))).length < LIM)) (.ok ((1 : Int) :: ((0 : Int) :: ([] : (List Int)))))) fun z474 => (getL z474 x461)) else (.ok x461)) fun z475 => (M.bind (M.bind (if (eqD x461 (1 : Int)) = true then (.ok (0 : Int)) else (.ok x461)) fun z476 => (.ok (z476 :: ([] : (List Int))))) fun z477 => (.ok (z475 :: z477)))) fun z478 => (.ok (x461 :: z478))) fun z479 => (chk (decide ((z479).length < LIM)) (.ok z479))) fun z480 => (getL z480 (if x467 < (2 : Int) then x467 else (2 : Int)))) fun a481 => chk (decide ((s466).length < LIM)) (.ok (.nx (s466 ++ [a481]))))) xs483 row_464) fun (s466 : (List Int)) => (M.bind (.ok s466) fun a482 => chk (decide ((s460).length < LIM)) (.ok (.nx (s460 ++ [a482]))))))) xs490 rows_459) fun (s460 : (List (List Int))) => (M.bind (M.bind (M.bind (chk (rngB 0 many_458.2) (.ok (rng 0 many_458.2))) fun z487 => (lcM (fun x486 => (.ok (eqD x486 (0 : Int)))) z487)) fun z488 => (.ok (s460, z488))) fun r489 => .ok (.rt (many_458.1, r489))))))
noncomputable def _law_lively (pool_455 : (List Int)) (letters_456 : Txt) : M ((List Int) × ((List (List Int)) × (List Bool))) := finIO (_law_lively_b pool_455 letters_456)
noncomputable def law_b (script_491 : Scr) : M (Fl Unit Unit Bool) := (M.bind (_law_stream script_491) fun pool_492 => (M.bind (noX (_law_letters pool_492 (3 : Int))) fun letters_493 => (M.bind (noX (_law_machine letters_493.1 letters_493.2 (5 : Int))) fun machine_494 => (bindF (M.bind (M.bind (noX (_law_pick machine_494.1 (12 : Int))) fun s496 => (.ok (s496.1, (eqD s496.2 (11 : Int))))) fun t497 => if t497.2 = true then (M.bind (noX (_law_lively t497.1 letters_493.2)) fun machine_500 => (.ok (.nx (machine_500.1, machine_500.2)))) else (.ok (.nx (t497.1, machine_494.2)))) fun (j499 : ((List Int) × ((List (List Int)) × (List Bool)))) => (M.bind (reprM j499.2) fun kept_501 => (M.bind (_law_least letters_493.2 j499.2) fun small_502 => (M.bind (chk (rngB 0 (3 : Int)) (.ok (rng 0 (3 : Int)))) fun xs599 => bindF (forF (fun (s503 : (List Int)) (x504 : Int) => (M.bind (M.bind (M.bind (M.bind (M.bind (M.bind (chk (decide ((((3 : Int) :: ((8 : Int) :: ((41 : Int) :: ([] : (List Int)))))).length < LIM)) (.ok ((3 : Int) :: ((8 : Int) :: ((41 : Int) :: ([] : (List Int))))))) fun z538 => (getL z538 x504)) fun z539 => (noX (_law_pick s503 z539))) fun s540 => (chk (rngB 0 s540.2) (.ok (s540.1, rng 0 s540.2)))) fun s553 => (lcX (fun s547 x541 => (M.bind (M.bind (chk (decide ((letters_493.2).cs.length < LIM)) (.ok ((letters_493.2).cs.length : Int))) fun z550 => (noX (_law_pick s547 z550))) fun s551 => (M.bind (getT letters_493.2 s551.2) fun a552 => .ok (s551.1, a552)))) s553.2 s553.1)) fun s554 => (M.bind (joinM (Txt.mk []) s554.2) fun a555 => .ok (s554.1, a555))) fun word_556 => (M.bind (chk (rngB 0 (((small_502).1).length : Int)) (.ok (rng 0 (((small_502).1).length : Int)))) fun row_557 => (M.bind (chk (decide ((word_556.2).cs.length < LIM)) (.ok (signs word_556.2))) fun xs571 => bindF (forF (fun (s558 : (List Int)) (x559 : Txt) => (M.bind (lcM (fun x560 => (M.bind (getL (small_502).1 x560) fun z561 => (M.bind (idxT letters_493.2 x559) fun z562 => (getL z561 z562)))) s558) fun row_563 => (.ok (.nx row_563)))) xs571 row_557) fun (s558 : (List Int)) => (M.bind (turning_of letters_493.2 j499.2 word_556.2) fun told_564 => (M.bind (M.bind (M.bind (M.bind (.ok told_564) fun _ => .ok true) fun z565 => (.ok (!z565))) fun z568 => (if z568 = true then .ok true else (M.bind (reprM told_564) fun z566 => (M.bind (reprM s558) fun z567 => (.ok (!eqD z566 z567)))))) fun t570 => if t570 = true then (M.bind (.ok false) fun r569 => .ok (.rt r569)) else (.ok (.nx word_556.1)))))))) xs599 j499.1) fun (s503 : (List Int)) => (M.bind (_law_members letters_493.2 (small_502).1) fun due_572 => (M.bind (.ok (due_572).isNone) fun t598 => if t598 = true then (M.bind (M.bind (M.bind (M.bind (chk (rngB 0 (3 : Int)) (.ok (rng 0 (3 : Int)))) fun z575 => (lcM (fun x574 => (_law_told letters_493.2 j499.2 x574)) z575)) fun z577 => (M.bind (M.bind (chk (decide ((((Txt.mk [109, 97, 110, 121]) :: ([] : (List Txt)))).length < LIM)) (.ok ((Txt.mk [109, 97, 110, 121]) :: ([] : (List Txt))))) fun z576 => (chk (decide ((3 : Int) < 1000000 ∧ -1000000 < (3 : Int) ∧ (z576).length * ((3 : Int)).toNat < LIM)) (.ok (List.replicate ((3 : Int)).toNat z576).flatten))) fun z578 => (eqE z577 z578))) fun z580 => (if z580 = true then (M.bind (reprM j499.2) fun z579 => (.ok (eqD z579 kept_501))) else .ok false)) fun r581 => .ok (.rt r581)) else (M.bind (chk (rngB 0 (2 : Int)) (.ok (rng 0 (2 : Int)))) fun xs597 => bindF (forF (fun (s582 : Unit) (x583 : Int) => (M.bind (_law_told letters_493.2 j499.2 (0 : Int)) fun told_584 => M.bind (M.bind (M.bind (M.bind (unsum told_584) fun _ => .ok true) fun z587 => (.ok (!z587))) fun z593 => (if z593 = true then .ok true else (M.bind (M.bind (unsum told_584) fun z589 => (reprM z589)) fun z591 => (M.bind (M.bind (unopt due_572) fun z590 => (reprM z590)) fun z592 => (.ok (!eqD z591 z592)))))) fun b585 => if b585 = true then (M.bind (.ok false) fun r594 => .ok (.rt r594)) else match leftO told_584 with | some xs586 => M.bind (rowOk xs586) fun _ => (.ok (.nx ())) | none => .error .stuck)) xs597 ()) fun (s582 : Unit) => (M.bind (M.bind (reprM j499.2) fun z595 => (.ok (eqD z595 kept_501))) fun r596 => .ok (.rt r596))))))))))))
noncomputable def law (script_491 : Scr) : M Bool := finR none (law_b script_491)
end HW

set_option Elab.async false
set_option linter.all false
set_option maxRecDepth 100000
set_option autoImplicit false
/-! Reasoning over mirrors: plain Lean. -/
namespace HW
open L2
section
variable {α β S N N' B R : Type} {Qx : String → List D → Prop}
theorem wp_chk_i {b : Bool} {m : M α} {Qk : α → Prop} (hb : b = true) (h : WP m Qk Qx) : WP (chk b m) Qk Qx := by
  subst hb
  rw [chk_true]
  exact h
theorem wp_bind_i {m : M α} {k : α → M β} {Qk : β → Prop} (h : WP m (fun a => WP (k a) Qk Qx) Qx) : WP (M.bind m k) Qk Qx := wp_bind.mpr h
/-- a step by a known answer -/
theorem wp_then {m : M α} {k : α → M β} {P : α → Prop} {Qk : β → Prop} (h : WP m P Qx) (hk : ∀ a, P a → WP (k a) Qk Qx) : WP (M.bind m k) Qk Qx := wp_bind.mpr (h.imp hk fun _ _ x => x)
theorem wp_bindF_i {m : M (Fl N B R)} {k : N → M (Fl N' B R)} {Qk : Fl N' B R → Prop} (h : WP m (fun f => match f with | .nx n => WP (k n) Qk Qx | .bk b => Qk (.bk b) | .ct b => Qk (.ct b) | .rt r => Qk (.rt r)) Qx) : WP (bindF m k) Qk Qx := by
  cases m with
  | ok f => cases f <;> exact h
  | error e => cases e <;> exact h
theorem wp_finR {o : Option R} {m : M (Fl Unit Unit R)} {Qk : R → Prop} (h : WP m (fun f => match f with | .rt r => Qk r | .nx _ => (match o with | some r => Qk r | none => False) | _ => False) Qx) : WP (finR o m) Qk Qx := by
  cases m with
  | ok f =>
    cases f with
    | nx n => cases o <;> exact h
    | bk b => exact h
    | ct b => exact h
    | rt r => exact h
  | error e => cases e <;> exact h
theorem wp_finIO {T : Type} {m : M (Fl Unit Unit (T × R))} {Qk : T × R → Prop} (h : WP m (fun f => match f with | .rt r => Qk r | _ => False) Qx) : WP (finIO m) Qk Qx := by
  cases m with
  | ok f => cases f <;> exact h
  | error e => cases e <;> exact h
abbrev NoE : String → List D → Prop := fun _ _ => False
theorem wp_noX_i {m : M α} {Qk : α → Prop} (h : WP m Qk NoE) : WP (noX m) Qk Qx := by
  cases m with
  | ok a => exact h
  | error e => cases e <;> exact h.elim
theorem WP.weak {m : M α} {Qk : α → Prop} (h : WP m Qk NoE) : WP m Qk Qx := h.imp (fun _ q => q) fun _ _ x => x.elim
theorem wp_eq {m : M α} {a : α} (h : WP m (fun b => b = a) NoE) : m = .ok a := by
  cases m with
  | ok b => exact congrArg _ h
  | error e => cases e <;> exact h.elim
theorem wp_lcM {f : α → M β} {g : α → β} : ∀ {xs : List α} {Qk : List β → Prop}, (∀ x ∈ xs, WP (f x) (fun y => y = g x) NoE) → Qk (xs.map g) → WP (lcM f xs) Qk Qx
  | [], _, _, q => q
  | x :: xs, _, h, q => by
    refine wp_then (wp_noX_i (h x (List.mem_cons_self ..))) fun a ha => ?_
    subst ha
    exact wp_then (P := fun ys => ys = xs.map g) (wp_lcM (fun y hy => h y (List.mem_cons_of_mem _ hy)) rfl) fun ys hy => by
      subst hy
      exact q
theorem wp_lcF {p : α → M Bool} {b : α → Bool} {f : α → M β} {g : α → β} : ∀ {xs : List α} {Qk : List β → Prop}, (∀ x ∈ xs, WP (p x) (fun y => y = b x) NoE ∧ WP (f x) (fun y => y = g x) NoE) → Qk ((xs.filter b).map g) → WP (lcF p f xs) Qk Qx
  | [], _, _, q => q
  | x :: xs, _, h, q => by
    obtain ⟨h1, h2⟩ := h x (List.mem_cons_self ..)
    have ht : ∀ {Qk : List β → Prop}, Qk ((xs.filter b).map g) → WP (lcF p f xs) Qk Qx := fun q => wp_lcF (fun y hy => h y (List.mem_cons_of_mem _ hy)) q
    refine wp_then (wp_noX_i h1) fun a ha => ?_
    subst ha
    cases hb : b x with
    | true =>
      rw [if_pos rfl]
      refine wp_then (wp_noX_i h2) fun a ha => ?_
      subst ha
      refine wp_then (P := fun ys => ys = (xs.filter b).map g) (ht rfl) fun ys hy => ?_
      subst hy
      rw [List.filter_cons, if_pos hb] at q
      exact q
    | false =>
      rw [if_neg (by decide)]
      rw [List.filter_cons, if_neg (by rw [hb]; decide)] at q
      exact ht q
theorem wp_lcX {me : S → α → M (S × β)} {I : S → Prop} {P : α → β → Prop} : ∀ {xs : List α} {s : S} {Qk : S × List β → Prop}, I s → (∀ s x, x ∈ xs → I s → WP (me s x) (fun r => I r.1 ∧ P x r.2) NoE) →
    (∀ s' ys, I s' → ys.length = xs.length → (∀ y ∈ ys, ∃ x ∈ xs, P x y) → Qk (s', ys)) → WP (lcX me xs s) Qk Qx
  | [], s, _, hI, _, q => q s [] hI rfl (fun _ h => nomatch h)
  | x :: xs, s, _, hI, h, q => by
    refine wp_then (wp_noX_i (h s x (List.mem_cons_self ..) hI)) fun r hr => ?_
    refine wp_then (P := fun z => I z.1 ∧ z.2.length = xs.length ∧ ∀ y ∈ z.2, ∃ x ∈ xs, P x y) (wp_lcX hr.1 (fun s y hy => h s y (List.mem_cons_of_mem _ hy)) fun s' ys h1 h2 h3 => ⟨h1, h2, h3⟩) fun z hz => ?_
    obtain ⟨h1, h2, h3⟩ := hz
    refine q z.1 (r.2 :: z.2) h1 (congrArg (· + 1) h2) fun y hy => ?_
    rcases List.mem_cons.mp hy with e | e
    · rw [e]
      exact ⟨x, List.mem_cons_self .., hr.2⟩
    · obtain ⟨x', hx, hp⟩ := h3 y e
      exact ⟨x', List.mem_cons_of_mem _ hx, hp⟩
/-- a for loop by its places -/
theorem wpi_forF {body : S → α → M (Fl S S R)} {xs : List α} (I : Nat → S → Prop) {Qb : S → Prop} {Qr : R → Prop} {s : S} {Qk : Fl S B R → Prop} (h0 : I 0 s)
    (step : ∀ i x s, xs[i]? = some x → I i s → WP (body s x) (fun f => match f with | .nx s' => I (i + 1) s' | .ct s' => I (i + 1) s' | .bk s' => Qb s' | .rt r => Qr r) Qx)
    (fin : ∀ s, I xs.length s → Qb s) (hb : ∀ s, Qb s → Qk (.nx s)) (hr : ∀ r, Qr r → Qk (.rt r)) : WP (forF body xs s) Qk Qx := by
  have main : ∀ (ys : List α) (i : Nat) (s : S), (∀ j, ys[j]? = xs[i + j]?) → i + ys.length = xs.length → I i s → WP (forF (B := B) body ys s) Qk Qx := by
    intro ys
    induction ys with
    | nil =>
      intro i s _ hl hI
      exact hb s (fin s (by rw [← hl]; exact hI))
    | cons y ys ih =>
      intro i s hj hl hI
      have hy : xs[i]? = some y := by have := hj 0; simpa using this.symm
      have st := step i y s hy hI
      have nxt : ∀ s', I (i + 1) s' → WP (forF (B := B) body ys s') Qk Qx := fun s' h' => ih (i + 1) s' (fun j => by
        have := hj (j + 1)
        rw [List.getElem?_cons_succ] at this
        rw [this]
        congr 1
        omega) (by rw [List.length_cons] at hl; omega) h'
      unfold forF
      cases hm : body s y with
      | error e =>
        rw [hm] at st
        cases e <;> exact st
      | ok f =>
        rw [hm] at st
        cases f with
        | nx s' => exact nxt s' st
        | ct s' => exact nxt s' st
        | bk s' => exact hb s' st
        | rt r => exact hr r st
  exact main xs 0 s (fun j => by rw [Nat.zero_add]) (Nat.zero_add _) h0
theorem whileN_mono {cond : S → M Bool} {body : S → M (Fl S S R)} : ∀ {n m : Nat} {s : S}, n ≤ m → notStuck (whileN (B := B) cond body n s) → whileN (B := B) cond body m s = whileN cond body n s
  | 0, _, _, _, h => h.elim
  | n + 1, 0, _, h, _ => absurd h (Nat.not_succ_le_zero n)
  | n + 1, m + 1, s, hl, h => by
    unfold whileN at h ⊢
    cases hc : cond s with
    | error e => rfl
    | ok b =>
      rw [hc] at h
      cases b with
      | false => rfl
      | true =>
        dsimp only at h ⊢
        cases hbd : body s with
        | error e => rfl
        | ok f =>
          rw [hbd] at h
          cases f with
          | nx s' => exact whileN_mono (Nat.le_of_succ_le_succ hl) h
          | ct s' => exact whileN_mono (Nat.le_of_succ_le_succ hl) h
          | bk s' => rfl
          | rt r => rfl
theorem ns_of_wp {m : M α} {Qk : α → Prop} (h : WP m Qk Qx) : notStuck m := by
  cases m with
  | ok a => trivial
  | error e =>
    cases e with
    | stuck => exact h.elim
    | exc n p => trivial
/-- a while loop with a measure -/
theorem wp_whileF {cond : S → M Bool} {body : S → M (Fl S S R)} (I : S → Prop) (μ : S → Nat) {Qb : S → Prop} {Qr : R → Prop} {s : S} {Qk : Fl S B R → Prop} (h0 : I s)
    (step : ∀ s, I s → WP (cond s) (fun b => if b = true then WP (body s) (fun f => match f with | .nx s' => I s' ∧ μ s' < μ s | .ct s' => I s' ∧ μ s' < μ s | .bk s' => Qb s' | .rt r => Qr r) Qx else Qb s) Qx)
    (hb : ∀ s, Qb s → Qk (.nx s)) (hr : ∀ r, Qr r → Qk (.rt r)) : WP (whileF cond body s) Qk Qx := by
  have main : ∀ (n : Nat) (s : S), I s → μ s < n → WP (whileN (B := B) cond body n s) Qk Qx := by
    intro n
    induction n with
    | zero => intro s _ h; exact absurd h (Nat.not_lt_zero _)
    | succ n ih =>
      intro s hI hm
      have st := step s hI
      unfold whileN
      cases hc : cond s with
      | error e =>
        rw [hc] at st
        cases e <;> exact st
      | ok b =>
        rw [hc] at st
        cases b with
        | false => exact hb s st
        | true =>
          have st2 : WP (body s) (fun f => match f with | .nx s' => I s' ∧ μ s' < μ s | .ct s' => I s' ∧ μ s' < μ s | .bk s' => Qb s' | .rt r => Qr r) Qx := st
          cases hbd : body s with
          | error e =>
            rw [hbd] at st2
            cases e <;> exact st2
          | ok f =>
            rw [hbd] at st2
            cases f with
            | nx s' => exact ih s' st2.1 (by have := st2.2; omega)
            | ct s' => exact ih s' st2.1 (by have := st2.2; omega)
            | bk s' => exact hb s' st2
            | rt r => exact hr r st2
  have w := main (μ s + 1) s h0 (Nat.lt_succ_self _)
  have ex : ∃ n, notStuck (whileN (B := B) cond body n s) := ⟨_, ns_of_wp w⟩
  unfold whileF
  rw [dif_pos ex]
  have e : whileN (B := B) cond body ex.choose s = whileN cond body (μ s + 1) s := by
    rcases Nat.le_total ex.choose (μ s + 1) with h | h
    · exact (whileN_mono h ex.choose_spec).symm
    · exact whileN_mono h (ns_of_wp w)
  rw [e]
  exact w
/-! ### items -/
theorem getL_ok {xs : List α} {i : Nat} {a : α} (h : xs[i]? = some a) : getL xs (i : Int) = .ok a := by
  unfold getL
  rw [atI_nat h]
theorem wp_getL_i {xs : List α} {x : Int} {a : α} {Qk : α → Prop} (h0 : 0 ≤ x) (h : xs[x.toNat]? = some a) (q : Qk a) : WP (getL xs x) Qk Qx := by
  have e : x = ((x.toNat : Nat) : Int) := by omega
  rw [e, getL_ok h]
  exact q
theorem rng_get {lo hi : Int} {i : Nat} {x : Int} (h : (rng lo hi)[i]? = some x) : x = lo + i ∧ lo ≤ x ∧ x < hi := by
  unfold rng at h
  rw [List.getElem?_map] at h
  cases e : (List.range (hi - lo).toNat)[i]? with
  | none => rw [e] at h; cases h
  | some j =>
    rw [e] at h
    cases h
    obtain ⟨hl, rfl⟩ := List.getElem?_eq_some_iff.mp e
    rw [List.length_range] at hl
    rw [List.getElem_range]
    dsimp only
    omega
theorem mem_rng {lo hi x : Int} : x ∈ rng lo hi ↔ lo ≤ x ∧ x < hi := by
  unfold rng
  rw [List.mem_map]
  constructor
  · rintro ⟨i, hi', rfl⟩
    have := List.mem_range.mp hi'
    omega
  · rintro ⟨h1, h2⟩
    exact ⟨(x - lo).toNat, List.mem_range.mpr (by omega), by omega⟩
end
end HW

set_option Elab.async false
set_option linter.all false
set_option maxRecDepth 100000
set_option autoImplicit false
/-! Sizes of what repr shows. -/
namespace HW
open PySem L2 PyProof.Rows
theorem textFrom_le : ∀ (ts : List Str) (k : Nat) (acc : Str), (textFrom k acc ts).length ≤ acc.length + piled ts
  | [], k, acc => by show acc.length ≤ _; exact Nat.le_add_right _ _
  | t :: r, k, acc => by
    have h := textFrom_le r (k + 1) (acc ++ (if k > 0 then ", " else "" : String) ++ t)
    have e : (acc ++ (if k > 0 then ", " else "" : String) ++ t).length ≤ acc.length + 2 + t.length := by
      rw [strLen_append, strLen_append]
      split
      · exact Nat.le_refl _
      · show acc.length + 0 + t.length ≤ _
        omega
    show (textFrom (k + 1) (acc ++ (if k > 0 then ", " else "" : String) ++ t) r).length ≤ _
    rw [piled_cons]
    omega
theorem listText_le (ts : List Str) : (listText ts).length ≤ piled ts + 2 := by
  unfold listText
  rw [strLen_append]
  have h := textFrom_le ts 0 "["
  have e1 : (("[" : String) : Str).length = 1 := rfl
  have e2 : (("]" : String) : Str).length = 1 := rfl
  rw [e1] at h
  rw [e2]
  omega
theorem tupleText_le (ts : List Str) : (tupleText ts).length ≤ piled ts + 3 := by
  unfold tupleText
  rw [strLen_append, strLen_append]
  have e1 : ((("(" : String) : Str)).length = 1 := rfl
  have e3 : (((if ts.length == 1 then ",)" else ")" : String) : Str)).length ≤ 2 := by split <;> decide
  rw [e1]
  by_cases h : ts = []
  · subst h
    have : (Str.join ", " ([] : List Str)).length = 0 := rfl
    rw [this]
    omega
  · have := join_length_add ts h
    omega
/-- data that repr and == take, of at most n signs -/
structure Sh (d : D) (n : Nat) (k : Nat) : Prop where
  ok : okD d = true
  shw : (pyD d).showable = true
  nod : (pyD d).hasDict = false
  dep : (pyD d).depth ≤ k
  len : (pyD d).shown.length ≤ n
  lay : (pyD d).canLay0 = true
structure Shs (ds : List D) (n : Nat) (k : Nat) : Prop where
  ok : okDs ds = true
  shw : PyData.showableAll (pyDs ds) = true
  nod : PyData.hasDictAll (pyDs ds) = false
  dep : PyData.depthAll (pyDs ds) ≤ k
  len : piled (PyData.shownAll (pyDs ds)) ≤ n
  lay : PyData.canLayAll0 (pyDs ds) = true
theorem Shs.nil {k : Nat} : Shs [] 0 k := ⟨rfl, rfl, rfl, Nat.zero_le _, Nat.le_refl _, rfl⟩
theorem Shs.cons {d : D} {ds : List D} {n m k : Nat} (h : Sh d n k) (r : Shs ds m k) : Shs (d :: ds) (n + 2 + m) k where
  ok := by
    show (okD d && okDs ds) = true
    rw [h.ok, r.ok]
    rfl
  shw := by
    show ((pyD d).showable && PyData.showableAll (pyDs ds)) = true
    rw [h.shw, r.shw]
    rfl
  nod := by
    show ((pyD d).hasDict || PyData.hasDictAll (pyDs ds)) = false
    rw [h.nod, r.nod]
    rfl
  dep := Nat.max_le.mpr ⟨h.dep, r.dep⟩
  len := by
    show piled ((pyD d).shown :: PyData.shownAll (pyDs ds)) ≤ _
    rw [piled_cons]
    have := h.len
    have := r.len
    omega
  lay := by
    show ((pyD d).canLay0 && PyData.canLayAll0 (pyDs ds)) = true
    rw [h.lay, r.lay]
    rfl
theorem Sh.lst {ds : List D} {m k : Nat} (r : Shs ds m k) : Sh (.lst ds) (m + 2) (k + 1) :=
  ⟨r.ok, r.shw, r.nod, Nat.succ_le_succ r.dep, Nat.le_trans (listText_le _) (Nat.add_le_add_right r.len 2), r.lay⟩
theorem Sh.tup {ds : List D} {m k : Nat} (r : Shs ds m k) : Sh (.tup ds) (m + 3) (k + 1) :=
  ⟨r.ok, r.shw, r.nod, Nat.succ_le_succ r.dep, Nat.le_trans (tupleText_le _) (Nat.add_le_add_right r.len 3), r.lay⟩
theorem Sh.le {d : D} {n m k j : Nat} (h : Sh d n k) (hn : n ≤ m) (hk : k ≤ j) : Sh d m j := ⟨h.ok, h.shw, h.nod, Nat.le_trans h.dep hk, Nat.le_trans h.len hn, h.lay⟩
theorem Sh.bl {b : Bool} : Sh (.bl b) 5 0 := by
  cases b <;> exact ⟨rfl, rfl, rfl, Nat.zero_le _, by decide, rfl⟩
theorem Sh.non : Sh .non 4 0 := ⟨rfl, rfl, rfl, Nat.zero_le _, by decide, rfl⟩
theorem len_int : ∀ i : Fin 1000, ((toString ((i.val : Nat) : Int) : String) : Str).length ≤ 3 := by decide +kernel
theorem Sh.int {i : Int} (h : 0 ≤ i ∧ i < 1000) : Sh (.int i) 3 0 := by
  refine ⟨rfl, ?_, rfl, Nat.zero_le _, ?_, rfl⟩
  · show decide (i.natAbs.log2 < 1920) = true
    refine decide_eq_true ?_
    refine Nat.lt_of_le_of_lt (Nat.log2_le_self _) ?_
    omega
  · have := len_int ⟨i.toNat, by omega⟩
    have e : ((i.toNat : Nat) : Int) = i := by omega
    rw [show (((⟨i.toNat, by omega⟩ : Fin 1000).val : Nat) : Int) = i from e] at this
    exact this
/-- a list of things alike -/
theorem Shs.map {α : Type} {f : α → D} {n k : Nat} : ∀ {xs : List α}, (∀ x ∈ xs, Sh (f x) n k) → Shs (xs.map f) (xs.length * (n + 2)) k
  | [], _ => by rw [List.length_nil, Nat.zero_mul]; exact .nil
  | x :: xs, h => by
    have r := Shs.map (xs := xs) fun y hy => h y (List.mem_cons_of_mem _ hy)
    have c := Shs.cons (h x (List.mem_cons_self ..)) r
    have e : n + 2 + xs.length * (n + 2) = (x :: xs).length * (n + 2) := by
      rw [List.length_cons, Nat.succ_mul]
      omega
    rw [e] at c
    exact c
theorem Sh.list {α : Type} [Enc α] {n k : Nat} {xs : List α} (h : ∀ x ∈ xs, Sh (enc x) n k) : Sh (enc xs) (xs.length * (n + 2) + 2) (k + 1) := .lst (.map h)
theorem Sh.pair {α β : Type} [Enc α] [Enc β] {n m k : Nat} {a : α} {b : β} (h1 : Sh (enc a) n k) (h2 : Sh (enc b) m k) : Sh (enc (a, b)) (n + m + 7) (k + 1) :=
  (Sh.tup (.cons h1 (.cons h2 .nil))).le (by omega) (Nat.le_refl _)
section
variable {Qx : String → List D → Prop}
def shownT {α : Type} [Enc α] (a : α) : Txt := ⟨(pyD (enc a)).shown.cps.toList⟩
theorem wp_repr {α : Type} [Enc α] {a : α} {n : Nat} {Qk : Txt → Prop} (h : Sh (enc a) n 30) (hn : n ≤ 16000000) (q : Qk (shownT a)) : WP (reprM a) Qk Qx := by
  unfold reprM
  refine wp_chk_i ?_ q
  rw [h.ok, h.shw, h.nod, decide_eq_true h.dep, decide_eq_true (Nat.le_trans h.len (Nat.le_trans hn (by decide)))]
  rfl
end
end HW

set_option Elab.async false
set_option linter.all false
set_option maxRecDepth 100000
set_option autoImplicit false
/-! What is found from a first thing on, in its order: plain Lean. -/
namespace HW
section
variable {α : Type} [DecidableEq α]
def push (seen : List α) (x : α) : List α := if x ∈ seen then seen else seen ++ [x]
def pushAll (seen xs : List α) : List α := xs.foldl push seen
theorem pushAll_cons (seen : List α) (x : α) (xs : List α) : pushAll seen (x :: xs) = pushAll (push seen x) xs := rfl
theorem pushAll_append (seen xs ys : List α) : pushAll seen (xs ++ ys) = pushAll (pushAll seen xs) ys := List.foldl_append
theorem mem_push {seen : List α} {x y : α} : y ∈ push seen x ↔ y ∈ seen ∨ y = x := by
  unfold push
  split
  · constructor
    · exact .inl
    · rintro (h | h)
      · exact h
      · rw [h]
        assumption
  · simp
theorem mem_pushAll {y : α} : ∀ {xs seen : List α}, y ∈ pushAll seen xs ↔ y ∈ seen ∨ y ∈ xs
  | [], seen => by simp [pushAll]
  | x :: xs, seen => by
    rw [pushAll_cons, mem_pushAll, mem_push, List.mem_cons, or_assoc]
theorem push_nodup {seen : List α} {x : α} (h : seen.Nodup) : (push seen x).Nodup := by
  unfold push
  split
  · exact h
  · rename_i hx
    rw [List.nodup_append]
    refine ⟨h, by simp, fun a ha b hb e => ?_⟩
    rw [List.mem_singleton] at hb
    subst e hb
    exact hx ha
theorem pushAll_nodup : ∀ {xs seen : List α}, seen.Nodup → (pushAll seen xs).Nodup
  | [], _, h => h
  | x :: xs, seen, h => by
    rw [pushAll_cons]
    exact pushAll_nodup (push_nodup h)
theorem push_pre (seen : List α) (x : α) : ∃ t, push seen x = seen ++ t := by
  unfold push
  split
  · exact ⟨[], by simp⟩
  · exact ⟨[x], rfl⟩
theorem pushAll_pre : ∀ (xs seen : List α), ∃ t, pushAll seen xs = seen ++ t
  | [], seen => ⟨[], by simp [pushAll]⟩
  | x :: xs, seen => by
    obtain ⟨t, h⟩ := push_pre seen x
    obtain ⟨u, h2⟩ := pushAll_pre xs (push seen x)
    exact ⟨t ++ u, by rw [pushAll_cons, h2, h, List.append_assoc]⟩
theorem pushAll_len (seen xs : List α) : seen.length ≤ (pushAll seen xs).length := by
  obtain ⟨t, h⟩ := pushAll_pre xs seen
  rw [h, List.length_append]
  exact Nat.le_add_right _ _
theorem pushAll_len_le : ∀ (xs seen : List α), (pushAll seen xs).length ≤ seen.length + xs.length
  | [], seen => Nat.le_refl _
  | x :: xs, seen => by
    rw [pushAll_cons]
    have h1 := pushAll_len_le xs (push seen x)
    have h2 : (push seen x).length ≤ seen.length + 1 := by
      unfold push
      split <;> simp
    rw [List.length_cons]
    omega
theorem pushAll_get {seen xs : List α} {i : Nat} {x : α} (h : seen[i]? = some x) : (pushAll seen xs)[i]? = some x := by
  obtain ⟨t, e⟩ := pushAll_pre xs seen
  rw [e, List.getElem?_append_left (List.getElem?_eq_some_iff.mp h).1, h]
/-- the new ones, as the law writes them -/
theorem pushAll_filter (seen : List α) : ∀ (xs pre : List α), pushAll (pushAll seen pre) xs = pushAll seen pre ++ ((xs.mapIdx fun k x => (k, x)).filter fun p => decide (p.2 ∉ seen) && decide (p.2 ∉ pre ++ xs.take p.1)).map (·.2)
  | [], pre => by simp [pushAll]
  | x :: xs, pre => by
    have ih := pushAll_filter seen xs (pre ++ [x])
    have e1 : pushAll seen (pre ++ [x]) = push (pushAll seen pre) x := by rw [pushAll_append]; rfl
    rw [e1] at ih
    rw [pushAll_cons, ih, List.mapIdx_cons, List.filter_cons]
    have hm : x ∈ pushAll seen pre ↔ x ∈ seen ∨ x ∈ pre := mem_pushAll
    have shift : ((xs.mapIdx fun k y => (k + 1, y)).filter fun p => decide (p.2 ∉ seen) && decide (p.2 ∉ pre ++ (x :: xs).take p.1)).map (·.2) = ((xs.mapIdx fun k y => (k, y)).filter fun p => decide (p.2 ∉ seen) && decide (p.2 ∉ (pre ++ [x]) ++ xs.take p.1)).map (·.2) := by
      have e2 : (xs.mapIdx fun k y => (k + 1, y)) = (xs.mapIdx fun k y => (k, y)).map fun p => (p.1 + 1, p.2) := by
        apply List.ext_getElem?
        intro i
        rw [List.getElem?_mapIdx, List.getElem?_map, List.getElem?_mapIdx]
        cases xs[i]? <;> rfl
      rw [e2, List.filter_map, List.map_map]
      congr 1
      refine List.filter_congr fun p _ => ?_
      show (decide (p.2 ∉ seen) && decide (p.2 ∉ pre ++ (x :: xs).take (p.1 + 1))) = _
      rw [List.take_succ_cons, List.append_assoc]
      rfl
    by_cases hx : x ∈ seen ∨ x ∈ pre
    · have c1 : (decide (x ∉ seen) && decide (x ∉ pre ++ (x :: xs).take 0)) = false := by
        rcases hx with h | h <;> simp [h]
      rw [if_neg (by rw [c1]; decide), shift]
      have e3 : push (pushAll seen pre) x = pushAll seen pre := by unfold push; rw [if_pos (hm.mpr hx)]
      rw [e3]
    · have c1 : (decide (x ∉ seen) && decide (x ∉ pre ++ (x :: xs).take 0)) = true := by
        simp only [List.take_zero, List.append_nil, Bool.and_eq_true, decide_eq_true_eq]
        exact ⟨fun h => hx (.inl h), fun h => hx (.inr h)⟩
      rw [if_pos c1, List.map_cons, shift]
      have e3 : push (pushAll seen pre) x = pushAll seen pre ++ [x] := by unfold push; rw [if_neg (fun h => hx (hm.mp h))]
      rw [e3, List.append_assoc]
      rfl
/-- what is found behind n things looked at -/
def bfs (nx : α → List α) (a : α) : Nat → List α
  | 0 => [a]
  | n + 1 => match (bfs nx a n)[n]? with
    | some x => pushAll (bfs nx a n) (nx x)
    | none => bfs nx a n
variable {nx : α → List α} {a : α}
theorem bfs_some {n : Nat} {x : α} (h : (bfs nx a n)[n]? = some x) : bfs nx a (n + 1) = pushAll (bfs nx a n) (nx x) := by
  show (match (bfs nx a n)[n]? with | some x => _ | none => _) = _
  rw [h]
theorem bfs_none {n : Nat} (h : (bfs nx a n)[n]? = none) : bfs nx a (n + 1) = bfs nx a n := by
  show (match (bfs nx a n)[n]? with | some x => _ | none => _) = _
  rw [h]
theorem bfs_nodup : ∀ n, (bfs nx a n).Nodup
  | 0 => by simp [bfs]
  | n + 1 => by
    cases h : (bfs nx a n)[n]? with
    | some x => rw [bfs_some h]; exact pushAll_nodup (bfs_nodup n)
    | none => rw [bfs_none h]; exact bfs_nodup n
theorem bfs_pre (n : Nat) : ∀ k, ∃ t, bfs nx a (n + k) = bfs nx a n ++ t
  | 0 => ⟨[], by simp⟩
  | k + 1 => by
    obtain ⟨t, h⟩ := bfs_pre n k
    cases e : (bfs nx a (n + k))[n + k]? with
    | some x =>
      obtain ⟨u, h2⟩ := pushAll_pre (nx x) (bfs nx a (n + k))
      exact ⟨t ++ u, by rw [← Nat.add_assoc, bfs_some e, h2, h, List.append_assoc]⟩
    | none => exact ⟨t, by rw [← Nat.add_assoc, bfs_none e, h]⟩
theorem bfs_mono {m n : Nat} (h : m ≤ n) : (bfs nx a m).length ≤ (bfs nx a n).length := by
  obtain ⟨t, e⟩ := bfs_pre (nx := nx) (a := a) m (n - m)
  have : m + (n - m) = n := by omega
  rw [this] at e
  rw [e, List.length_append]
  omega
theorem bfs_get {m n i : Nat} {x : α} (h : m ≤ n) (hx : (bfs nx a m)[i]? = some x) : (bfs nx a n)[i]? = some x := by
  obtain ⟨t, e⟩ := bfs_pre (nx := nx) (a := a) m (n - m)
  have : m + (n - m) = n := by omega
  rw [this] at e
  rw [e, List.getElem?_append_left (List.getElem?_eq_some_iff.mp hx).1, hx]
/-- all looked at: nothing more comes -/
theorem bfs_done {n : Nat} (h : (bfs nx a n).length ≤ n) : ∀ k, bfs nx a (n + k) = bfs nx a n
  | 0 => rfl
  | k + 1 => by
    have ih := bfs_done h k
    rw [← Nat.add_assoc, bfs_none (by rw [ih]; exact List.getElem?_eq_none (by omega)), ih]
theorem bfs_all {P : α → Prop} (h0 : P a) (hs : ∀ x, P x → ∀ y ∈ nx x, P y) : ∀ n, ∀ x ∈ bfs nx a n, P x
  | 0, x, hx => by
    rw [List.mem_singleton.mp hx]
    exact h0
  | n + 1, x, hx => by
    cases e : (bfs nx a n)[n]? with
    | some z =>
      rw [bfs_some e] at hx
      rcases mem_pushAll.mp hx with h | h
      · exact bfs_all h0 hs n x h
      · exact hs z (bfs_all h0 hs n z (List.mem_of_getElem? e)) x h
    | none =>
      rw [bfs_none e] at hx
      exact bfs_all h0 hs n x hx
/-- closed, where all is looked at -/
theorem bfs_closed {n : Nat} (h : (bfs nx a n).length ≤ n) {x y : α} (hx : x ∈ bfs nx a n) (hy : y ∈ nx x) : y ∈ bfs nx a n := by
  obtain ⟨i, hi⟩ := List.mem_iff_getElem?.mp hx
  have hil := (List.getElem?_eq_some_iff.mp hi).1
  -- i is looked at at step i
  have hin : i < n := by omega
  have hi2 : (bfs nx a i)[i]? = some x ∨ (bfs nx a i)[i]? = none := by
    cases e : (bfs nx a i)[i]? with
    | none => exact .inr rfl
    | some z =>
      have := bfs_get (nx := nx) (a := a) (Nat.le_of_lt hin) e
      rw [hi] at this
      cases this
      exact .inl rfl
  rcases hi2 with e | e
  · have h1 : y ∈ bfs nx a (i + 1) := by
      rw [bfs_some e]
      exact mem_pushAll.mpr (.inr hy)
    obtain ⟨j, hj⟩ := List.mem_iff_getElem?.mp h1
    exact List.mem_of_getElem? (bfs_get (nx := nx) (a := a) (show i + 1 ≤ n from hin) hj)
  · have hl : (bfs nx a i).length ≤ i := List.getElem?_eq_none_iff.mp e
    have := bfs_done hl (n - i)
    have e2 : i + (n - i) = n := by omega
    rw [e2] at this
    rw [this] at hil
    omega
end
end HW

set_option Elab.async false
set_option linter.all false
set_option maxRecDepth 100000
set_option autoImplicit false
/-! Firsts of classes, and the refining of classes: plain Lean. -/
namespace HW
section
variable {σ β : Type} [DecidableEq β] {f : σ → β}
/-- the first of each class, in order -/
def reps (f : σ → β) (S : List σ) : List σ := S.foldl (fun acc s => if f s ∈ acc.map f then acc else acc ++ [s]) []
theorem reps_snoc (S : List σ) (s : σ) : reps f (S ++ [s]) = if f s ∈ (reps f S).map f then reps f S else reps f S ++ [s] := by
  unfold reps
  rw [List.foldl_append]
  rfl
theorem snoc_ind {P : List σ → Prop} (h0 : P []) (hs : ∀ xs x, P xs → P (xs ++ [x])) : ∀ xs, P xs := by
  intro xs
  have : ∀ ys : List σ, P ys.reverse := fun ys => by
    induction ys with
    | nil => exact h0
    | cons y ys ih =>
      rw [List.reverse_cons]
      exact hs _ _ ih
  have := this xs.reverse
  rw [List.reverse_reverse] at this
  exact this
theorem mem_reps_map (S : List σ) : ∀ b, b ∈ (reps f S).map f ↔ b ∈ S.map f := by
  refine snoc_ind (P := fun S => ∀ b, b ∈ (reps f S).map f ↔ b ∈ S.map f) (fun b => Iff.rfl) (fun xs x ih b => ?_) S
  rw [reps_snoc, List.map_append, List.mem_append]
  split
  · rename_i h
    rw [ih b]
    constructor
    · exact .inl
    · rintro (q | q)
      · exact q
      · rw [List.map_singleton, List.mem_singleton] at q
        rw [q]
        exact (ih _).mp h
  · rw [List.map_append, List.mem_append, ih b]
theorem reps_sub (S : List σ) : ∀ s ∈ reps f S, s ∈ S := by
  refine snoc_ind (P := fun S => ∀ s ∈ reps f S, s ∈ S) (fun s h => h) (fun xs x ih s h => ?_) S
  rw [reps_snoc] at h
  split at h
  · exact List.mem_append_left _ (ih s h)
  · rcases List.mem_append.mp h with q | q
    · exact List.mem_append_left _ (ih s q)
    · exact List.mem_append_right _ q
theorem reps_nodup (S : List σ) : ((reps f S).map f).Nodup := by
  refine snoc_ind (P := fun S => ((reps f S).map f).Nodup) List.nodup_nil (fun xs x ih => ?_) S
  rw [reps_snoc]
  split
  · exact ih
  · rename_i h
    rw [List.map_append, List.nodup_append]
    refine ⟨ih, by simp, fun a ha b hb e => ?_⟩
    rw [List.map_singleton, List.mem_singleton] at hb
    subst e hb
    exact h ha
/-- the number of a class -/
def place (f : σ → β) (S : List σ) (s : σ) : Nat := ((reps f S).map f).idxOf (f s)
theorem place_lt {S : List σ} {s : σ} (h : s ∈ S) : place f S s < (reps f S).length := by
  have := (mem_reps_map (f := f) S (f s)).mpr (List.mem_map_of_mem h)
  have h2 := List.idxOf_lt_length_iff.mpr this
  rwa [List.length_map] at h2
theorem place_get {S : List σ} {s : σ} (h : s ∈ S) : ((reps f S).map f)[place f S s]? = some (f s) := by
  have hm := (mem_reps_map (f := f) S (f s)).mpr (List.mem_map_of_mem h)
  have hl := List.idxOf_lt_length_iff.mpr hm
  show ((reps f S).map f)[((reps f S).map f).idxOf (f s)]? = _
  rw [List.getElem?_eq_getElem hl, List.getElem_idxOf hl]
theorem place_inj {S : List σ} {s t : σ} (hs : s ∈ S) (ht : t ∈ S) : place f S s = place f S t ↔ f s = f t := by
  constructor
  · intro h
    have h1 := place_get (f := f) hs
    have h2 := place_get (f := f) ht
    rw [h, h2] at h1
    exact (Option.some.inj h1).symm
  · intro h
    unfold place
    rw [h]
theorem place_snoc {S : List σ} {s x : σ} (h : s ∈ S) : place f (S ++ [x]) s = place f S s := by
  unfold place
  rw [reps_snoc]
  split
  · rfl
  · rw [List.map_append]
    rw [List.idxOf_append, if_pos ((mem_reps_map (f := f) S (f s)).mpr (List.mem_map_of_mem h))]
end
/-! ### numbered keys -/
section
variable {β : Type} [DecidableEq β]
def kv (bs : List β) : List (β × Int) := bs.mapIdx fun j b => (b, (j : Int))
theorem kv_len (bs : List β) : (kv bs).length = bs.length := by simp [kv]
theorem kv_snoc (bs : List β) (b : β) : kv (bs ++ [b]) = kv bs ++ [(b, (bs.length : Int))] := by
  unfold kv
  rw [List.mapIdx_append]
  simp
end
/-! ### two ways of parting a list into classes -/
section
variable {σ β γ : Type} [DecidableEq β] [DecidableEq γ] {f : σ → β} {g : σ → γ} {S : List σ}
theorem reps_sublist (h : ∀ s ∈ S, ∀ t ∈ S, g s = g t → f s = f t) : (reps f S).Sublist (reps g S) := by
  have main : ∀ T : List σ, (∀ s ∈ T, ∀ t ∈ T, g s = g t → f s = f t) → (reps f T).Sublist (reps g T) := by
    intro T
    refine snoc_ind (P := fun T => (∀ s ∈ T, ∀ t ∈ T, g s = g t → f s = f t) → (reps f T).Sublist (reps g T)) (fun _ => List.Sublist.refl _) (fun xs x ih hh => ?_) T
    have ih := ih fun s hs t ht => hh s (List.mem_append_left _ hs) t (List.mem_append_left _ ht)
    rw [reps_snoc, reps_snoc]
    by_cases h1 : f x ∈ (reps f xs).map f
    · rw [if_pos h1]
      split
      · exact ih
      · exact ih.trans (List.sublist_append_left _ _)
    · have h2 : g x ∉ (reps g xs).map g := fun q => h1 (by
        obtain ⟨t, ht, e⟩ := List.mem_map.mp ((mem_reps_map xs _).mp q)
        have := hh t (List.mem_append_left _ ht) x (List.mem_append_right _ (by simp)) e
        rw [← this]
        exact (mem_reps_map xs _).mpr (List.mem_map_of_mem ht))
      rw [if_neg h1, if_neg h2]
      exact ih.append (List.Sublist.refl _)
  exact main S h
theorem reps_le (h : ∀ s ∈ S, ∀ t ∈ S, g s = g t → f s = f t) : (reps f S).length ≤ (reps g S).length := (reps_sublist h).length_le
/-- finer, and of as many classes: the same -/
theorem reps_same (h : ∀ s ∈ S, ∀ t ∈ S, g s = g t → f s = f t) (hl : (reps f S).length = (reps g S).length) : ∀ s ∈ S, ∀ t ∈ S, f s = f t → g s = g t := by
  have e : reps f S = reps g S := (reps_sublist h).eq_of_length hl
  have rep : ∀ s ∈ S, ∃ r ∈ reps g S, g r = g s := fun s hs => List.mem_map.mp ((mem_reps_map S (g s)).mpr (List.mem_map_of_mem hs))
  intro s hs t ht hf
  obtain ⟨r, hr, er⟩ := rep s hs
  obtain ⟨q, hq, eq⟩ := rep t ht
  have fr := h r (reps_sub S r hr) s hs er
  have fq := h q (reps_sub S q hq) t ht eq
  have efq : f r = f q := by rw [fr, fq, hf]
  rw [← e] at hr hq
  have nd := reps_nodup (f := f) S
  have : r = q := by
    obtain ⟨i, hi⟩ := List.mem_iff_getElem?.mp hr
    obtain ⟨j, hj⟩ := List.mem_iff_getElem?.mp hq
    obtain ⟨il, ie⟩ := List.getElem?_eq_some_iff.mp hi
    obtain ⟨jl, je⟩ := List.getElem?_eq_some_iff.mp hj
    have : i = j := by
      rw [List.nodup_iff_pairwise_ne, List.pairwise_map] at nd
      rcases Nat.lt_trichotomy i j with z | z | z
      · have := List.pairwise_iff_getElem.mp nd i j il jl z
        rw [ie, je] at this
        exact absurd efq this
      · exact z
      · have := List.pairwise_iff_getElem.mp nd j i jl il z
        rw [ie, je] at this
        exact absurd efq.symm this
    subst this
    rw [← ie, ← je]
  rw [← er, ← eq, this]
theorem reps_congr (h : ∀ s ∈ S, ∀ t ∈ S, f s = f t ↔ g s = g t) : reps f S = reps g S := by
  have h1 := reps_sublist (f := f) (g := g) (S := S) fun s hs t ht q => (h s hs t ht).mpr q
  have h2 := reps_sublist (f := g) (g := f) (S := S) fun s hs t ht q => (h s hs t ht).mp q
  exact h1.eq_of_length (Nat.le_antisymm h1.length_le h2.length_le)
theorem place_congr (h : ∀ s ∈ S, ∀ t ∈ S, f s = f t ↔ g s = g t) {s : σ} (hs : s ∈ S) : place f S s = place g S s := by
  have e := reps_congr h
  have h1 := place_get (f := f) hs
  have h2 := place_get (f := g) hs
  rw [e] at h1
  rw [List.getElem?_map] at h1 h2
  cases a : (reps g S)[place f S s]? with
  | none => rw [a] at h1; cases h1
  | some x =>
    cases b : (reps g S)[place g S s]? with
    | none => rw [b] at h2; cases h2
    | some y =>
      rw [a] at h1
      rw [b] at h2
      have h1 := Option.some.inj h1
      have h2 := Option.some.inj h2
      have hx := reps_sub S x (List.mem_of_getElem? a)
      have hg : g x = g s := (h x hx s hs).mp h1
      have nd := reps_nodup (f := g) S
      obtain ⟨il, ie⟩ := List.getElem?_eq_some_iff.mp a
      obtain ⟨jl, je⟩ := List.getElem?_eq_some_iff.mp b
      rw [List.nodup_iff_pairwise_ne, List.pairwise_map] at nd
      rcases Nat.lt_trichotomy (place f S s) (place g S s) with z | z | z
      · have := List.pairwise_iff_getElem.mp nd _ _ il jl z
        rw [ie, je] at this
        exact absurd (hg.trans h2.symm) this
      · exact z
      · have := List.pairwise_iff_getElem.mp nd _ _ jl il z
        rw [ie, je] at this
        exact absurd (h2.trans hg.symm) this
end
/-! ### refining -/
section
variable {σ : Type}
def All2 (R : σ → σ → Prop) (xs ys : List σ) : Prop := xs.length = ys.length ∧ ∀ (i : Nat) (x y : σ), xs[i]? = some x → ys[i]? = some y → R x y
theorem all2_map {β : Type} {f : σ → β} {R : σ → σ → Prop} : ∀ {xs ys : List σ}, (∀ x ∈ xs, ∀ y ∈ ys, f x = f y ↔ R x y) → (xs.map f = ys.map f ↔ All2 R xs ys) := by
  intro xs ys h
  constructor
  · intro e
    have hl : xs.length = ys.length := by simpa using congrArg List.length e
    refine ⟨hl, fun i x y hx hy => (h x (List.mem_of_getElem? hx) y (List.mem_of_getElem? hy)).mp ?_⟩
    have := congrArg (·[i]?) e
    simp only [List.getElem?_map, hx, hy] at this
    exact Option.some.inj this
  · rintro ⟨hl, hr⟩
    apply List.ext_getElem?
    intro i
    rw [List.getElem?_map, List.getElem?_map]
    cases hx : xs[i]? with
    | none =>
      have : ys[i]? = none := List.getElem?_eq_none (by rw [← hl]; exact List.getElem?_eq_none_iff.mp hx)
      rw [this]
    | some x =>
      have hi := (List.getElem?_eq_some_iff.mp hx).1
      have hy : ys[i]? = some (ys[i]'(by omega)) := List.getElem?_eq_getElem (by omega)
      rw [hy]
      exact congrArg some ((h x (List.mem_of_getElem? hx) _ (List.mem_of_getElem? hy)).mpr (hr i x _ hx hy))
/-- alike by all words of k signs -/
def Alike (row : σ → List σ) (R0 : σ → σ → Prop) : Nat → σ → σ → Prop
  | 0, s, t => R0 s t
  | k + 1, s, t => Alike row R0 k s t ∧ All2 (Alike row R0 k) (row s) (row t)
variable {row : σ → List σ} {R0 : σ → σ → Prop} {S : List σ}
theorem alike_stable (cl : ∀ s ∈ S, ∀ t ∈ row s, t ∈ S) {k : Nat} (h : ∀ s ∈ S, ∀ t ∈ S, Alike row R0 k s t → Alike row R0 (k + 1) s t) : ∀ j, ∀ s ∈ S, ∀ t ∈ S, Alike row R0 k s t → Alike row R0 (k + j) s t
  | 0, _, _, _, _, q => q
  | j + 1, s, hs, t, ht, q => by
    have h1 := alike_stable cl h j s hs t ht q
    refine ⟨h1, ?_⟩
    obtain ⟨_, hl, hr⟩ := h s hs t ht q
    exact ⟨hl, fun i x y hx hy => alike_stable cl h j x (cl s hs x (List.mem_of_getElem? hx)) y (cl t ht y (List.mem_of_getElem? hy)) (hr i x y hx hy)⟩
theorem alike_less {k : Nat} : ∀ {j : Nat} {s t : σ}, Alike row R0 (k + j) s t → Alike row R0 k s t
  | 0, _, _, h => h
  | j + 1, _, _, h => alike_less (j := j) h.1
end
end HW

set_option Elab.async false
set_option linter.all false
set_option maxRecDepth 100000
set_option autoImplicit false
namespace HW
open L2
/-! ### dicts by their pairs -/
section
variable {κ α : Type} [DecidableEq κ]
theorem lk_app {kvs : List (κ × α)} {k x : κ} {v : α} : lk (kvs ++ [(k, v)]) x = match lk kvs x with | some a => some a | none => if k = x then some v else none := by
  unfold lk
  rw [List.find?_append]
  cases h : kvs.find? fun kv => decide (kv.1 = x) with
  | some p => rfl
  | none =>
    by_cases e : k = x
    · simp [e]
    · simp [e]
theorem lk_none {kvs : List (κ × α)} {x : κ} : lk kvs x = none ↔ ∀ p ∈ kvs, p.1 ≠ x := by
  unfold lk
  rw [Option.map_eq_none_iff, List.find?_eq_none]
  constructor
  · intro h p hp e
    exact h p hp (decide_eq_true e)
  · intro h p hp e
    exact h p hp (of_decide_eq_true e)
theorem pt_new {kvs : List (κ × α)} {k : κ} {v : α} (h : lk kvs k = none) : pt kvs k v = kvs ++ [(k, v)] := by
  unfold pt
  rw [if_neg]
  intro e
  obtain ⟨p, hp, hk⟩ := List.any_eq_true.mp e
  exact lk_none.mp h p hp (of_decide_eq_true hk)
/-- the keys that a dict has -/
def Keys (kvs : List (κ × α)) (f : List κ) : Prop := (∀ x, (lk kvs x).isSome = decide (x ∈ f)) ∧ kvs.length = f.length
theorem Keys.one (k : κ) (v : α) : Keys [(k, v)] [k] := by
  refine ⟨fun x => ?_, rfl⟩
  by_cases h : k = x
  · simp [lk, h]
  · simp [lk, h, Ne.symm h]
theorem Keys.push {kvs : List (κ × α)} {f : List κ} {x : κ} {v : α} (h : Keys kvs f) (hx : (lk kvs x).isSome = false) : Keys (pt kvs x v) (push f x) := by
  have hn : lk kvs x = none := by
    cases e : lk kvs x with
    | none => rfl
    | some a => rw [e] at hx; cases hx
  have hf : x ∉ f := by
    have := h.1 x
    rw [hx] at this
    exact of_decide_eq_false this.symm
  have ep : HW.push f x = f ++ [x] := by unfold HW.push; rw [if_neg hf]
  rw [pt_new hn, ep]
  refine ⟨fun y => ?_, by rw [List.length_append, List.length_append, h.2]; rfl⟩
  rw [lk_app]
  have hy := h.1 y
  cases e : lk kvs y with
  | some a =>
    rw [e] at hy
    have : y ∈ f := of_decide_eq_true hy.symm
    simp [this]
  | none =>
    rw [e] at hy
    have hyf : y ∉ f := of_decide_eq_false hy.symm
    by_cases hk : x = y
    · subst hk
      simp
    · simp [hk, hyf, Ne.symm hk]
theorem Keys.old {kvs : List (κ × α)} {f : List κ} {x : κ} (h : Keys kvs f) (hx : (lk kvs x).isSome = true) : HW.push f x = f := by
  have := h.1 x
  rw [hx] at this
  unfold HW.push
  rw [if_pos (of_decide_eq_true this.symm)]
end
/-! ### machines -/
def rowOf (table : List (List Int)) (x : Int) : List Int := (table[x.toNat]?).getD []
abbrev St (N : Nat) (x : Int) : Prop := 0 ≤ x ∧ x < (N : Int)
structure Mch (N L : Nat) (table : List (List Int)) : Prop where
  len : table.length = N
  row : ∀ r ∈ table, r.length = L ∧ ∀ x ∈ r, St N x
section
variable {N L : Nat} {table : List (List Int)} {x : Int}
theorem Mch.at (m : Mch N L table) (h : St N x) : table[x.toNat]? = some (rowOf table x) := by
  have hl : x.toNat < table.length := by rw [m.len]; omega
  unfold rowOf
  rw [List.getElem?_eq_getElem hl]
  rfl
theorem Mch.mem (m : Mch N L table) (h : St N x) : rowOf table x ∈ table := List.mem_of_getElem? (m.at h)
theorem Mch.rlen (m : Mch N L table) (h : St N x) : (rowOf table x).length = L := (m.row _ (m.mem h)).1
theorem Mch.rst (m : Mch N L table) (h : St N x) : ∀ y ∈ rowOf table x, St N y := (m.row _ (m.mem h)).2
variable {Qx : String → List D → Prop}
theorem Mch.get {Qk : List Int → Prop} (m : Mch N L table) (h : St N x) (q : Qk (rowOf table x)) : WP (getL table x) Qk Qx := wp_getL_i h.1 (m.at h) q
theorem nodup_nat : ∀ {N : Nat} {xs : List Nat}, xs.Nodup → (∀ x ∈ xs, x < N) → xs.length ≤ N
  | 0, [], _, _ => Nat.le_refl _
  | 0, x :: _, _, h => absurd (h x (List.mem_cons_self ..)) (Nat.not_lt_zero _)
  | N + 1, xs, hn, h => by
    have h1 : (xs.erase N).length ≤ N := nodup_nat (hn.erase N) fun x hx => by
      have := (hn.mem_erase_iff).mp hx
      have h2 := h x this.2
      have h3 := this.1
      omega
    rw [List.length_erase] at h1
    split at h1 <;> omega
/-- states apart are at most N -/
theorem nodup_len {N : Nat} : ∀ {xs : List Int}, xs.Nodup → (∀ x ∈ xs, St N x) → xs.length ≤ N := by
  intro xs hn hs
  have h : (xs.map Int.toNat).Nodup := by
    rw [List.nodup_iff_pairwise_ne, List.pairwise_map]
    rw [List.nodup_iff_pairwise_ne] at hn
    refine List.Pairwise.imp_of_mem (fun {a b} ha hb hab e => hab ?_) hn
    have h1 := hs a ha
    have h2 := hs b hb
    omega
  have hsub : ∀ y ∈ xs.map Int.toNat, y ∈ List.range N := fun y hy => by
    obtain ⟨x, hx, rfl⟩ := List.mem_map.mp hy
    have := hs x hx
    exact List.mem_range.mpr (by omega)
  have := nodup_nat h fun y hy => List.mem_range.mp (hsub y hy)
  rw [List.length_map] at this
  exact this
end
abbrev found (table : List (List Int)) (N : Nat) : List Int := bfs (rowOf table) 0 N
section
variable {N L : Nat} {table : List (List Int)}
theorem found_st (m : Mch N L table) (hN : 0 < N) (n : Nat) : ∀ x ∈ bfs (rowOf table) 0 n, St N x := bfs_all ⟨Int.le_refl _, by omega⟩ (fun x hx y hy => m.rst hx y hy) n
theorem found_len (m : Mch N L table) (hN : 0 < N) (n : Nat) : (bfs (rowOf table) 0 n).length ≤ N := nodup_len (bfs_nodup n) (found_st m hN n)
theorem reached_spec (m : Mch N L table) (hN : 0 < N) (hN2 : N ≤ 1000) : WP (reached table 0) (fun r => r = found table N) NoE := by
  unfold reached reached_b
  simp only [M.bind_ok]
  refine wp_finR (wp_bind_i (wp_chk_i (by decide) ?_))
  refine wp_bindF_i ?_
  refine wp_whileF (fun s : List Int × Dic Int Bool × Int => ∃ n : Nat, s.2.2 = (n : Int) ∧ s.1 = bfs (rowOf table) 0 n ∧ n ≤ s.1.length ∧ Keys s.2.1.kvs s.1) (fun s => N + 1 - s.2.2.toNat) (Qb := fun s => s.1 = found table N) (Qr := fun _ => False) ?_ ?_ ?_ (fun _ h => h.elim)
  · exact ⟨0, rfl, rfl, Nat.zero_le _, Keys.one _ _⟩
  · rintro ⟨f, sn, at_⟩ ⟨n, h1, h2, h3, h4⟩
    dsimp only at h1 h2 h3 h4 ⊢
    subst h1 h2
    have hlen := found_len m hN n
    by_cases hlt : n < (bfs (rowOf table) 0 n).length
    · refine (show WP (.ok _) _ _ from ?_)
      show if decide (((n : Nat) : Int) < ((bfs (rowOf table) 0 n).length : Int)) = true then _ else _
      rw [if_pos (decide_eq_true (by omega))]
      have hx : (bfs (rowOf table) 0 n)[n]? = some (bfs (rowOf table) 0 n)[n] := List.getElem?_eq_getElem hlt
      have hst := found_st m hN n _ (List.getElem_mem hlt)
      refine wp_bind_i (wp_bind_i ?_)
      rw [getL_ok hx]
      refine m.get hst ?_
      refine wp_bindF_i ?_
      refine wpi_forF (fun i s => s.1 = pushAll (bfs (rowOf table) 0 n) ((rowOf table (bfs (rowOf table) 0 n)[n]).take i) ∧ Keys s.2.kvs s.1) (Qb := fun s => s.1 = bfs (rowOf table) 0 (n + 1) ∧ Keys s.2.kvs s.1) (Qr := fun _ => False) ⟨by simp [pushAll], h4⟩ ?_ ?_ ?_ (fun _ h => h.elim)
      · rintro i y ⟨g, s2⟩ hy ⟨e1, e2⟩
        dsimp only at e1 e2 ⊢
        have etake : (rowOf table (bfs (rowOf table) 0 n)[n]).take (i + 1) = (rowOf table (bfs (rowOf table) 0 n)[n]).take i ++ [y] := by
          rw [List.take_add_one, hy]
          rfl
        have estep : pushAll (bfs (rowOf table) 0 n) ((rowOf table (bfs (rowOf table) 0 n)[n]).take (i + 1)) = push g y := by
          rw [etake, pushAll_append, ← e1]
          rfl
        have glen : g.length ≤ N := by
          rw [e1]
          refine nodup_len (pushAll_nodup (bfs_nodup n)) fun z hz => ?_
          rcases mem_pushAll.mp hz with h | h
          · exact found_st m hN n z h
          · exact m.rst hst z (List.mem_of_mem_take h)
        refine wp_bindF_i ?_
        cases hh : hasD s2 y with
        | true =>
          show WP (if (!true) = true then _ else _) _ _
          rw [if_neg (by decide)]
          refine ⟨?_, e2⟩
          show g = _
          rw [estep, e2.old hh]
        | false =>
          show WP (if (!false) = true then _ else _) _ _
          rw [if_pos (by decide)]
          refine wp_chk_i (decide_eq_true (by rw [e2.2]; unfold LIM; omega)) (wp_chk_i (decide_eq_true (by unfold LIM; omega)) ?_)
          have ep : push g y = g ++ [y] := by
            unfold push
            rw [if_neg]
            intro hm
            have := e2.1 y
            rw [show (lk s2.kvs y).isSome = false from hh, decide_eq_true hm] at this
            cases this
          refine ⟨?_, ?_⟩
          · show g ++ [y] = _
            rw [estep, ep]
          · show Keys (pt s2.kvs y true) (g ++ [y])
            rw [← ep]
            exact e2.push hh
      · rintro ⟨g, s2⟩ ⟨e1, e2⟩
        refine ⟨?_, e2⟩
        rw [e1, List.take_length, bfs_some hx]
      · rintro ⟨g, s2⟩ ⟨e1, e2⟩
        dsimp only at e1 e2 ⊢
        refine ⟨⟨n + 1, by simp, e1, ?_, e2⟩, ?_⟩
        · show n + 1 ≤ g.length
          rw [e1]
          have := bfs_mono (nx := rowOf table) (a := (0 : Int)) (show n ≤ n + 1 by omega)
          omega
        · show N + 1 - ((n : Int) + 1).toNat < N + 1 - ((n : Int)).toNat
          omega
    · refine (show WP (.ok _) _ _ from ?_)
      show if decide (((n : Nat) : Int) < ((bfs (rowOf table) 0 n).length : Int)) = true then _ else _
      rw [if_neg (by rw [decide_eq_false (by omega)]; decide)]
      have hle : (bfs (rowOf table) 0 n).length ≤ n := by omega
      have := bfs_done hle (N - n)
      rw [show n + (N - n) = N by omega] at this
      exact this.symm
  · intro s h
    exact h
end
end HW

set_option Elab.async false
set_option linter.all false
set_option maxRecDepth 100000
set_option autoImplicit false
namespace HW
open L2
section
variable {β : Type} [DecidableEq β]
theorem lk_kv (b : β) : ∀ bs : List β, lk (kv bs) b = if b ∈ bs then some ((bs.idxOf b : Nat) : Int) else none := by
  refine snoc_ind rfl fun bs c ih => ?_
  rw [kv_snoc, lk_app, ih]
  by_cases h : b ∈ bs
  · rw [if_pos h, if_pos (List.mem_append_left _ h), List.idxOf_append, if_pos h]
  · rw [if_neg h]
    by_cases hc : c = b
    · subst hc
      rw [if_pos (List.mem_append_right _ (by simp)), List.idxOf_append, if_neg h]
      simp
    · rw [if_neg hc, if_neg (by
        rw [List.mem_append, List.mem_singleton]
        rintro (q | q)
        · exact h q
        · exact hc q.symm)]
theorem setdN_kv (bs : List β) (b : β) : setdN (DicN.mk (kv bs)) b ((kv bs).length : Int) = (DicN.mk (kv (if b ∈ bs then bs else bs ++ [b])), (((if b ∈ bs then bs else bs ++ [b]).idxOf b : Nat) : Int)) := by
  by_cases h : b ∈ bs
  · have e : lk (DicN.mk (kv bs) : DicN β Int).kvs b = some ((bs.idxOf b : Nat) : Int) := by
      show lk (kv bs) b = _
      rw [lk_kv, if_pos h]
    unfold setdN
    rw [e, if_pos h]
  · have e : lk (DicN.mk (kv bs) : DicN β Int).kvs b = none := by
      show lk (kv bs) b = _
      rw [lk_kv, if_neg h]
    unfold setdN
    rw [e, if_neg h]
    show (DicN.mk (pt (kv bs) b ((kv bs).length : Int)), ((kv bs).length : Int)) = _
    rw [pt_new (by rw [lk_kv, if_neg h]), kv_snoc, kv_len, List.idxOf_append, if_neg h]
    simp
theorem place_append {σ : Type} {f : σ → β} {s : σ} : ∀ (U T : List σ), s ∈ T → place f (T ++ U) s = place f T s
  | [], T, _ => by rw [List.append_nil]
  | u :: U, T, h => by
    have e : T ++ u :: U = (T ++ [u]) ++ U := by simp
    rw [e, place_append U _ (List.mem_append_left _ h), place_snoc h]
theorem lk_map {κ α : Type} [DecidableEq κ] {v : κ → α} {s : κ} : ∀ {S : List κ}, s ∈ S → lk (S.map fun x => (x, v x)) s = some (v s)
  | x :: S, h => by
    by_cases e : x = s
    · subst e
      simp [lk]
    · have : s ∈ S := by
        rcases List.mem_cons.mp h with q | q
        · exact absurd q.symm e
        · exact q
      have ih := lk_map (v := v) this
      unfold lk at ih ⊢
      rw [List.map_cons, List.find?_cons, decide_eq_false e]
      exact ih
theorem lk_map_none {κ α : Type} [DecidableEq κ] {v : κ → α} {s : κ} {S : List κ} (h : s ∉ S) : lk (S.map fun x => (x, v x)) s = none := by
  rw [lk_none]
  intro p hp e
  obtain ⟨x, hx, rfl⟩ := List.mem_map.mp hp
  exact h (by rw [← e]; exact hx)
end
theorem dedup_reps {σ : Type} (f : σ → Int) (S : List σ) : dedupI (S.map f) = (reps f S).map f := by
  refine snoc_ind (P := fun S => dedupI (S.map f) = (reps f S).map f) rfl (fun xs x ih => ?_) S
  rw [reps_snoc, List.map_append]
  unfold dedupI at ih ⊢
  rw [List.foldl_append, ih]
  show PyProof.Rows.step_dedup _ _ = _
  unfold PyProof.Rows.step_dedup
  by_cases h : f x ∈ (reps f xs).map f
  · rw [if_pos h, if_pos (List.any_eq_true.mpr ⟨_, h, by simp⟩)]
  · rw [if_neg h, if_neg, List.map_append]
    · rfl
    · intro e
      obtain ⟨y, hy, q⟩ := List.any_eq_true.mp e
      rw [eq_of_beq q] at hy
      exact h hy
theorem wp_getD_i {κ α : Type} [DecidableEq κ] {d : Dic κ α} {k : κ} {a : α} {Qk : α → Prop} {Qx : String → List D → Prop} (h : lk d.kvs k = some a) (q : Qk a) : WP (getD d k) Qk Qx := by
  unfold getD
  rw [h]
  exact q
/-- {s: v(s) for s in S} -/
theorem wp_dcM {κ β : Type} [DecidableEq κ] {fv : κ → M β} {v : κ → β} : ∀ {xs pre : List κ} {Qk : Dic κ β → Prop} {Qx : String → List D → Prop}, (pre ++ xs).Nodup → (pre ++ xs).length < LIM → (∀ x ∈ xs, WP (fv x) (fun y => y = v x) NoE) → Qk ⟨(pre ++ xs).map fun x => (x, v x)⟩ →
    WP (dcM (fun x => .ok x) fv xs (pre.map fun x => (x, v x))) Qk Qx
  | [], pre, Qk, _, _, _, _, q => by
    rw [List.append_nil] at q
    exact q
  | x :: xs, pre, Qk, _, nd, hl, h, q => by
    show WP (M.bind (.ok x) _) _ _
    rw [M.bind_ok]
    refine wp_then (wp_noX_i (h x (List.mem_cons_self ..))) fun a ha => ?_
    subst ha
    have hx : x ∉ pre := fun hm => by
      have := (List.nodup_append.mp nd).2.2 x hm x (List.mem_cons_self ..)
      exact this rfl
    have e : pre ++ x :: xs = (pre ++ [x]) ++ xs := by simp
    refine wp_chk_i (decide_eq_true (by rw [List.length_map]; rw [List.length_append] at hl; omega)) ?_
    rw [pt_new (lk_map_none hx)]
    have e2 : (pre.map fun x => (x, v x)) ++ [(x, v x)] = (pre ++ [x]).map fun x => (x, v x) := by simp
    rw [e2]
    rw [e] at nd hl q
    exact wp_dcM nd hl (fun y hy => h y (List.mem_cons_of_mem _ hy)) q
def endOf (ends : List Bool) (s : Int) : Bool := (ends[s.toNat]?).getD false
theorem wp_ends {N : Nat} {ends : List Bool} {s : Int} {Qk : Bool → Prop} {Qx : String → List D → Prop} (hl : ends.length = N) (h : St N s) (q : Qk (endOf ends s)) : WP (getL ends s) Qk Qx := by
  have hs : s.toNat < ends.length := by omega
  refine wp_getL_i h.1 (a := endOf ends s) ?_ q
  unfold endOf
  rw [List.getElem?_eq_getElem hs]
  rfl
abbrev sameEnd (ends : List Bool) (s t : Int) : Prop := endOf ends s = endOf ends t
section
variable {N L : Nat} {table : List (List Int)} {ends : List Bool} {S : List Int}
theorem classes_spec (m : Mch N L table) (he : ends.length = N) (hN2 : N ≤ 1000) (hS : ∀ s ∈ S, St N s) (cl : ∀ s ∈ S, ∀ t ∈ rowOf table s, t ∈ S) (nd : S.Nodup) (ne : S ≠ []) :
    WP (classes_of table ends S (N : Int)) (fun o => ∃ (d : Dic Int Int) (v : Int → Int), o = some d ∧ d.kvs = S.map (fun s => (s, v s)) ∧ ∀ s ∈ S, ∀ t ∈ S, v s = v t ↔ Alike (rowOf table) (sameEnd ends) N s t) NoE := by
  have hSN := nodup_len nd hS
  unfold classes_of classes_of_b
  simp only [M.bind_ok]
  refine wp_finR ?_
  refine wp_then (P := fun d => d.kvs = S.map fun s => (s, if endOf ends s then (1 : Int) else 0)) ?_ ?_
  · exact wp_dcM (pre := []) nd (by show S.length < LIM; unfold LIM; omega) (fun x hx => wp_bind_i (wp_ends he (hS x hx) rfl)) rfl
  rintro ⟨kvs⟩ rfl
  dsimp only
  have hv0 : ∀ s ∈ S, ∀ t ∈ S, ((if endOf ends s then (1 : Int) else 0) = if endOf ends t then (1 : Int) else 0) ↔ Alike (rowOf table) (sameEnd ends) 0 s t := fun s _ t _ => by
    show _ ↔ endOf ends s = endOf ends t
    cases endOf ends s <;> cases endOf ends t <;> simp
  have emap : ((S.map fun s => (s, if endOf ends s then (1 : Int) else 0)).map (·.2)) = S.map fun s => if endOf ends s then (1 : Int) else 0 := by
    rw [List.map_map]
    rfl
  rw [emap, dedup_reps]
  refine wp_bind_i (wp_chk_i (decide_eq_true (by rw [List.length_map]; omega)) ?_)
  have rle : ∀ {γ : Type} [DecidableEq γ] (f : Int → γ), (reps f S).length ≤ N := fun f => by
    refine Nat.le_trans ?_ hSN
    have h1 := reps_le (f := f) (g := (id : Int → Int)) (S := S) fun s _ t _ e => by
      have : s = t := e
      rw [this]
    refine Nat.le_trans h1 ?_
    have : ∀ T : List Int, (reps (id : Int → Int) T).length ≤ T.length := by
      refine snoc_ind (Nat.le_refl _) fun xs x ih => ?_
      rw [reps_snoc, List.length_append]
      split
      · omega
      · rw [List.length_append]
        simpa using ih
    exact this S
  refine wp_bindF_i ?_
  refine wp_whileF (fun s : Dic Int Int × Int => ∃ (k : Nat) (v : Int → Int), s.1.kvs = S.map (fun s => (s, v s)) ∧ (∀ s ∈ S, ∀ t ∈ S, v s = v t ↔ Alike (rowOf table) (sameEnd ends) k s t) ∧ s.2 = ((reps v S).length : Int) ∧ k + 1 ≤ (reps v S).length)
    (fun s => N + 1 - s.2.toNat) (Qb := fun _ => False) (Qr := fun o => ∃ (d : Dic Int Int) (v : Int → Int), o = some d ∧ d.kvs = S.map (fun s => (s, v s)) ∧ ∀ s ∈ S, ∀ t ∈ S, v s = v t ↔ Alike (rowOf table) (sameEnd ends) N s t) ?_ ?_ (fun _ h => h.elim) (fun _ h => h)
  · refine ⟨0, _, rfl, hv0, by rw [List.length_map], ?_⟩
    cases S with
    | nil => exact absurd rfl ne
    | cons a S => 
      have := (mem_reps_map (f := fun s => if endOf ends s then (1 : Int) else 0) (a :: S) _).mpr (List.mem_map_of_mem (List.mem_cons_self (a := a) (l := S)))
      have h2 := List.length_pos_of_mem this
      rw [List.length_map] at h2
      exact h2
  · rintro ⟨⟨kvs⟩, many⟩ ⟨k, v, h1, h2, h3, h4⟩
    dsimp only at h1 h3 ⊢
    subst h1 h3
    have hle := rle v
    show if decide (((reps v S).length : Int) ≤ (N : Int)) = true then _ else _
    rw [if_pos (decide_eq_true (by omega))]
    let w : Int → Int × Tp Int := fun s => (v s, Tp.mk ((rowOf table s).map v))
    have hw : ∀ s ∈ S, ∀ t ∈ S, w s = w t ↔ Alike (rowOf table) (sameEnd ends) (k + 1) s t := fun s hs t ht => by
      show ((v s, Tp.mk ((rowOf table s).map v)) = (v t, Tp.mk ((rowOf table t).map v))) ↔ _
      rw [Prod.mk.injEq, Tp.mk.injEq, h2 s hs t ht, all2_map fun x hx y hy => h2 x (cl s hs x hx) y (cl t ht y hy)]
      exact Iff.rfl
    refine wp_bindF_i ?_
    refine wpi_forF (fun i z => z.1.kvs = kv ((reps w (S.take i)).map w) ∧ z.2.kvs = (S.take i).map fun s => (s, ((place w S s : Nat) : Int)))
      (Qb := fun z => z.1.kvs = kv ((reps w S).map w) ∧ z.2.kvs = S.map fun s => (s, ((place w S s : Nat) : Int))) (Qr := fun _ => False) ⟨rfl, rfl⟩ ?_ ?_ ?_ (fun _ h => h.elim)
    · rintro i x ⟨⟨ks⟩, ⟨ls⟩⟩ hx ⟨e1, e2⟩
      dsimp only at e1 e2 ⊢
      subst e1 e2
      have hxS := List.mem_of_getElem? hx
      have hst := hS x hxS
      have etake : S.take (i + 1) = S.take i ++ [x] := by
        rw [List.take_add_one, hx]
        rfl
      have hxn : x ∉ S.take i := fun hm => by
        obtain ⟨j, hj⟩ := List.mem_iff_getElem?.mp hm
        rw [List.getElem?_take] at hj
        split at hj
        · rename_i hji
          obtain ⟨jl, je⟩ := List.getElem?_eq_some_iff.mp hj
          obtain ⟨il, ie⟩ := List.getElem?_eq_some_iff.mp hx
          rw [List.nodup_iff_pairwise_ne] at nd
          exact List.pairwise_iff_getElem.mp nd j i jl il hji (by rw [je, ie])
        · cases hj
      have hval : (place w S x : Nat) = place w (S.take (i + 1)) x := by
        have q := place_append (f := w) (s := x) (S.drop (i + 1)) (S.take (i + 1)) (by rw [etake]; simp)
        rw [List.take_append_drop] at q
        exact q
      refine wp_bind_i (wp_bind_i (wp_getD_i (lk_map hxS) ?_))
      refine wp_bind_i (wp_bind_i (wp_bind_i (m.get hst ?_)))
      refine wp_lcM (g := v) (fun y hy => wp_getD_i (lk_map (cl x hxS y hy)) rfl) ?_
      refine wp_bind_i (wp_chk_i (decide_eq_true ?_) ?_)
      · rw [kv_len, List.length_map]
        have : (reps w (S.take i)).length ≤ (S.take i).length := by
          refine (show ∀ T : List Int, (reps w T).length ≤ T.length from ?_) _
          refine snoc_ind (Nat.le_refl _) fun xs x ih => ?_
          rw [reps_snoc, List.length_append]
          split
          · omega
          · rw [List.length_append]
            simpa using ih
        have h5 : (S.take i).length ≤ S.length := by rw [List.length_take]; omega
        unfold LIM
        omega
      · refine wp_chk_i (decide_eq_true (by rw [List.length_map, List.length_take]; unfold LIM; omega)) ?_
        have key : setdN (DicN.mk (kv ((reps w (S.take i)).map w))) (v x, Tp.mk ((rowOf table x).map v)) ((kv ((reps w (S.take i)).map w)).length : Int) = (DicN.mk (kv ((reps w (S.take (i + 1))).map w)), ((place w S x : Nat) : Int)) := by
          have q := setdN_kv ((reps w (S.take i)).map w) (w x)
          rw [hval]
          unfold place
          rw [etake, reps_snoc]
          refine Eq.trans q ?_
          split <;> simp
        rw [key]
        refine ⟨rfl, ?_⟩
        show pt ((S.take i).map fun s => (s, ((place w S s : Nat) : Int))) x ((place w S x : Nat) : Int) = _
        rw [pt_new (lk_map_none hxn), etake, List.map_append]
        rfl
    · rintro ⟨⟨ks⟩, ⟨ls⟩⟩ ⟨e1, e2⟩
      rw [List.take_length] at e1 e2
      exact ⟨e1, e2⟩
    · rintro ⟨⟨ks⟩, ⟨ls⟩⟩ ⟨e1, e2⟩
      dsimp only at e1 e2 ⊢
      subst e1 e2
      rw [kv_len, List.length_map]
      have hfin : ∀ s ∈ S, ∀ t ∈ S, w s = w t → v s = v t := fun s hs t ht e => (h2 s hs t ht).mpr ((hw s hs t ht).mp e).1
      have hmono := reps_le hfin
      have hwle := rle w
      have hpl : ∀ s ∈ S, ∀ t ∈ S, ((place w S s : Nat) : Int) = ((place w S t : Nat) : Int) ↔ Alike (rowOf table) (sameEnd ends) (k + 1) s t := fun s hs t ht => by
        rw [← hw s hs t ht, ← place_inj (f := w) hs ht]
        omega
      by_cases heq : (reps w S).length = (reps v S).length
      · have : eqD (((reps w S).length : Nat) : Int) (((reps v S).length : Nat) : Int) = true := eqD_true (by omega)
        rw [this]
        show WP (if true = true then _ else _) _ _
        rw [if_pos rfl]
        refine ⟨_, _, rfl, rfl, fun s hs t ht => ?_⟩
        rw [hpl s hs t ht]
        have same := reps_same hfin heq.symm
        have st : ∀ s ∈ S, ∀ t ∈ S, Alike (rowOf table) (sameEnd ends) k s t → Alike (rowOf table) (sameEnd ends) (k + 1) s t := fun s hs t ht a => (hw s hs t ht).mp (same s hs t ht ((h2 s hs t ht).mpr a))
        have e : k + (N - k) = N := by omega
        constructor
        · intro a
          have := alike_stable cl st (N - k) s hs t ht a.1
          rwa [e] at this
        · intro a
          rw [← e] at a
          exact st s hs t ht (alike_less a)
      · have : eqD (((reps w S).length : Nat) : Int) (((reps v S).length : Nat) : Int) = false := eqD_false (by omega)
        rw [this]
        show WP (if false = true then _ else _) _ _
        rw [if_neg (by decide)]
        have el : (reps (fun s => ((place w S s : Nat) : Int)) S).length = (reps w S).length := by
          have := reps_congr (f := fun s => ((place w S s : Nat) : Int)) (g := w) (S := S) fun s hs t ht => by rw [hpl s hs t ht, hw s hs t ht]
          rw [this]
        refine ⟨⟨k + 1, _, rfl, hpl, ?_, ?_⟩, ?_⟩
        · rw [el]
        · rw [el]
          omega
        · show N + 1 - ((((reps w S).length : Nat) : Int)).toNat < N + 1 - ((((reps v S).length : Nat) : Int)).toNat
          omega
end
end HW

set_option Elab.async false
set_option linter.all false
set_option maxRecDepth 100000
set_option autoImplicit false
namespace HW
open L2
/-- the machine of the classes -/
def mini {β : Type} [DecidableEq β] (table : List (List Int)) (ends : List Bool) (S : List Int) (f : Int → β) : List (List Int) × List Bool :=
  ((reps f S).map (fun s => (rowOf table s).map fun t => ((place f S t : Nat) : Int)), (reps f S).map (endOf ends))
theorem mini_congr {β γ : Type} [DecidableEq β] [DecidableEq γ] {table : List (List Int)} {ends : List Bool} {S : List Int} {f : Int → β} {g : Int → γ} (cl : ∀ s ∈ S, ∀ t ∈ rowOf table s, t ∈ S) (h : ∀ s ∈ S, ∀ t ∈ S, f s = f t ↔ g s = g t) : mini table ends S f = mini table ends S g := by
  unfold mini
  rw [reps_congr h]
  refine Prod.ext ?_ rfl
  show (reps g S).map _ = (reps g S).map _
  refine List.map_congr_left fun s hs => ?_
  refine List.map_congr_left fun t ht => ?_
  rw [place_congr h (cl s (reps_sub S s hs) t ht)]
theorem reps_len_le {σ β : Type} [DecidableEq β] (f : σ → β) : ∀ T : List σ, (reps f T).length ≤ T.length := by
  refine snoc_ind (Nat.le_refl _) fun xs x ih => ?_
  rw [reps_snoc, List.length_append]
  split
  · omega
  · rw [List.length_append]
    simpa using ih
theorem take_snoc {α : Type} {S : List α} {i : Nat} {x : α} (hx : S[i]? = some x) : S.take (i + 1) = S.take i ++ [x] := by
  rw [List.take_add_one, hx]
  rfl
section
variable {N L : Nat} {table : List (List Int)} {ends : List Bool} {S : List Int}
theorem merged_spec {d : Dic Int Int} {v : Int → Int} (m : Mch N L table) (he : ends.length = N) (hN2 : N ≤ 1000) (hS : ∀ s ∈ S, St N s) (cl : ∀ s ∈ S, ∀ t ∈ rowOf table s, t ∈ S) (nd : S.Nodup) (hd : d.kvs = S.map fun s => (s, v s)) :
    WP (merged table ends S d) (fun r => r = mini table ends S v) NoE := by
  have hSN := nodup_len nd hS
  have look : ∀ s ∈ S, lk d.kvs s = some (v s) := fun s hs => by rw [hd]; exact lk_map hs
  unfold merged merged_b
  simp only [M.bind_ok]
  refine wp_finR (wp_bindF_i ?_)
  refine wpi_forF (fun i z => z.1.kvs = kv ((reps v (S.take i)).map v) ∧ z.2 = reps v (S.take i)) (Qb := fun z => z.1.kvs = kv ((reps v S).map v) ∧ z.2 = reps v S) (Qr := fun _ => False) ⟨rfl, rfl⟩ ?_ ?_ ?_ (fun _ h => h.elim)
  · rintro i x ⟨⟨ks⟩, first⟩ hx ⟨e1, e2⟩
    dsimp only at e1 e2 ⊢
    subst e1 e2
    have hxS := List.mem_of_getElem? hx
    refine wp_bindF_i ?_
    refine wp_bind_i (wp_bind_i (wp_getD_i (look x hxS) ?_))
    have hb : hasD (Dic.mk (kv ((reps v (S.take i)).map v))) (v x) = decide (v x ∈ (reps v (S.take i)).map v) := by
      show (lk (kv ((reps v (S.take i)).map v)) (v x)).isSome = _
      rw [lk_kv]
      by_cases h : v x ∈ (reps v (S.take i)).map v
      · rw [if_pos h, decide_eq_true h]
        rfl
      · rw [if_neg h, decide_eq_false h]
        rfl
    show WP (if (!hasD (Dic.mk (kv ((reps v (S.take i)).map v))) (v x)) = true then _ else _) _ _
    rw [hb, take_snoc hx, reps_snoc]
    have l1 := reps_len_le v (S.take i)
    have l2 : (S.take i).length ≤ S.length := by rw [List.length_take]; omega
    by_cases h : v x ∈ (reps v (S.take i)).map v
    · rw [decide_eq_true h, if_neg (by decide), if_pos h]
      exact ⟨rfl, rfl⟩
    · rw [decide_eq_false h, if_pos (by decide), if_neg h]
      refine wp_bind_i (wp_getD_i (look x hxS) ?_)
      refine wp_chk_i (decide_eq_true (by show (kv _).length < _; rw [kv_len, List.length_map]; unfold LIM; omega)) (wp_chk_i (decide_eq_true (by unfold LIM; omega)) ?_)
      refine ⟨?_, rfl⟩
      show pt (kv ((reps v (S.take i)).map v)) (v x) ((kv ((reps v (S.take i)).map v)).length : Int) = _
      rw [pt_new (by rw [lk_kv, if_neg h]), List.map_append, List.map_singleton, kv_snoc, kv_len]
  · rintro ⟨⟨ks⟩, first⟩ ⟨e1, e2⟩
    rw [List.take_length] at e1 e2
    exact ⟨e1, e2⟩
  · rintro ⟨⟨ks⟩, first⟩ ⟨e1, e2⟩
    dsimp only at e1 e2 ⊢
    subst e1 e2
    have lkp : ∀ t ∈ S, lk (kv ((reps v S).map v)) (v t) = some ((place v S t : Nat) : Int) := fun t ht => by
      rw [lk_kv, if_pos ((mem_reps_map S _).mpr (List.mem_map_of_mem ht))]
      rfl
    refine wp_bind_i (wp_lcM (g := fun s => (rowOf table s).map fun t => ((place v S t : Nat) : Int)) (fun s hs => ?_) ?_)
    · have hsS := reps_sub S s hs
      refine wp_bind_i (m.get (hS s hsS) ?_)
      exact wp_lcM (g := fun t => ((place v S t : Nat) : Int)) (fun t ht => wp_bind_i (wp_getD_i (look t (cl s hsS t ht)) (wp_getD_i (lkp t (cl s hsS t ht)) rfl))) rfl
    · refine wp_bind_i (wp_bind_i (wp_lcM (g := endOf ends) (fun s hs => wp_ends he (hS s (reps_sub S s hs)) rfl) ?_))
      exact rfl
/-- the program's least machine -/
theorem least_spec {letters : Txt} (m : Mch N L table) (he : ends.length = N) (hN : 0 < N) (hN2 : N ≤ 1000) :
    WP (least letters (table, ends)) (fun r => ∃ v : Int → Int, r = mini table ends (found table N) v ∧ ∀ s ∈ found table N, ∀ t ∈ found table N, v s = v t ↔ Alike (rowOf table) (sameEnd ends) N s t) NoE := by
  have hS := found_st m hN N
  have nd := bfs_nodup (nx := rowOf table) (a := (0 : Int)) N
  have cl : ∀ s ∈ found table N, ∀ t ∈ rowOf table s, t ∈ found table N := fun s hs t ht => bfs_closed (found_len m hN N) hs ht
  have ne : found table N ≠ [] := fun e => by
    obtain ⟨t, h⟩ := bfs_pre (nx := rowOf table) (a := (0 : Int)) 0 N
    rw [Nat.zero_add] at h
    have e' : bfs (rowOf table) 0 N = [] := e
    rw [e'] at h
    cases h
  unfold least least_b
  simp only [M.bind_ok]
  refine wp_finR (wp_then (reached_spec m hN hN2) ?_)
  rintro S rfl
  rw [m.len]
  refine wp_bind_i (wp_bind_i (wp_then (classes_spec m he hN2 hS cl nd ne) ?_))
  rintro o ⟨d, v, rfl, hd, hv⟩
  show WP (merged table ends (found table N) d) _ _
  refine (merged_spec m he hN2 hS cl nd hd).imp (fun r hr => ?_) fun _ _ x => x
  exact ⟨v, hr, hv⟩
end
end HW

set_option Elab.async false
set_option linter.all false
set_option maxRecDepth 100000
set_option autoImplicit false
namespace HW
open L2
section
variable {α : Type}
theorem cut_one (xs : List α) (n : Nat) : cutL xs (some (n : Int)) (some ((n : Int) + 1)) = match xs[n]? with | some x => [x] | none => [] := by
  unfold cutL
  have e : ((n : Int) + 1) = ((n + 1 : Nat) : Int) := by omega
  rw [e, HT.sIx_nat, HT.sIx_nat]
  cases h : xs[n]? with
  | none =>
    have := List.getElem?_eq_none_iff.mp h
    rw [List.drop_eq_nil_of_le (by omega)]
    simp
  | some x =>
    obtain ⟨hl, hx⟩ := List.getElem?_eq_some_iff.mp h
    have e1 : min n xs.length = n := by omega
    have e2 : min (n + 1) xs.length - min n xs.length = 1 := by omega
    rw [e2, e1, List.drop_eq_getElem_cons hl, hx]
    rfl
theorem cut_to (xs : List α) (n : Nat) : cutL xs none (some (n : Int)) = xs.take n := by
  unfold cutL
  rw [HT.sIx_nat, HT.sIx_none, List.drop_zero, Nat.sub_zero]
  rcases Nat.le_total n xs.length with h | h
  · rw [Nat.min_eq_left h]
  · rw [Nat.min_eq_right h, List.take_length, List.take_of_length_le h]
theorem memB_dec [Enc α] [f : Flat α] [DecidableEq α] (a : α) (xs : List α) : memB a xs = decide (a ∈ xs) := by
  unfold memB
  by_cases h : a ∈ xs
  · rw [decide_eq_true h]
    exact List.any_eq_true.mpr ⟨a, h, by simp⟩
  · rw [decide_eq_false h]
    refine List.any_eq_false.mpr fun y hy e => h ?_
    have : y = a := by simpa using e
    rw [← this]
    exact hy
theorem findIdx_idxOf [DecidableEq α] (a : α) : ∀ {xs : List α}, a ∈ xs → (xs.findIdx? fun y => decide (y = a)) = some (xs.idxOf a)
  | x :: xs, h => by
    rw [List.findIdx?_cons, List.idxOf_cons]
    by_cases e : x = a
    · subst e
      simp
    · have hm : a ∈ xs := by
        rcases List.mem_cons.mp h with q | q
        · exact absurd q.symm e
        · exact q
      rw [decide_eq_false e, if_neg (by decide), findIdx_idxOf a hm, beq_false_of_ne e]
      rfl
variable {Qx : String → List D → Prop}
theorem wp_idxL_i {xs : List Int} {a : Int} {Qk : Int → Prop} (h : a ∈ xs) (q : Qk ((xs.idxOf a : Nat) : Int)) : WP (idxL xs a) Qk Qx := by
  unfold idxL
  have e : (xs.findIdx? fun y => @decide (y = a) (Flat.dec y a)) = some (xs.idxOf a) := by
    exact findIdx_idxOf a h
  simp only [e]
  exact q
def idxG {κ : Type} [DecidableEq κ] (xs : List κ) (a : κ) : Nat := xs.idxOf a
theorem idxG_get {κ : Type} [DecidableEq κ] {xs : List κ} {a : κ} (h : a ∈ xs) : xs[idxG xs a]? = some a := by
  have hl := List.idxOf_lt_length_iff.mpr h
  show xs[xs.idxOf a]? = _
  rw [List.getElem?_eq_getElem hl, List.getElem_idxOf hl]
theorem wp_idxN_i {κ : Type} [Enc κ] [NKc κ] [DecidableEq κ] {xs : List κ} {a : κ} {Qk : Int → Prop} (h : a ∈ xs) (q : Qk ((idxG xs a : Nat) : Int)) : WP (idxN xs a) Qk Qx := by
  unfold idxN
  rw [findIdx_idxOf a h]
  exact q
theorem rng_at {N : Nat} {x : Int} (h : St N x) : (rng 0 (N : Int))[x.toNat]? = some x := by
  unfold rng
  rw [List.getElem?_map, List.getElem?_range (by omega)]
  show some ((0 : Int) + _) = _
  congr 1
  omega
theorem wp_marks {N : Nat} {v : Int → Int} {x : Int} {Qk : Int → Prop} (h : St N x) (q : Qk (v x)) : WP (getL ((rng 0 (N : Int)).map v) x) Qk Qx :=
  wp_getL_i h.1 (by rw [List.getElem?_map, rng_at h]; rfl) q
end
section
theorem wp_chkok {α β : Type} {b : Bool} {a : α} {k : α → M β} {Qk : β → Prop} {Qx : String → List D → Prop} (hb : b = true) (h : WP (k a) Qk Qx) : WP (M.bind (chk b (.ok a)) k) Qk Qx := by
  rw [hb, chk_true]
  exact h
variable {N L : Nat} {table : List (List Int)} {ends : List Bool}
theorem ends_rng (he : ends.length = N) : ends = (rng 0 (N : Int)).map (endOf ends) := by
  apply List.ext_getElem?
  intro i
  rw [List.getElem?_map]
  cases h : ends[i]? with
  | none =>
    have := List.getElem?_eq_none_iff.mp h
    have e : (rng 0 (N : Int))[i]? = none := List.getElem?_eq_none (by rw [rng_len]; omega)
    rw [e]
    rfl
  | some b =>
    have hl := (List.getElem?_eq_some_iff.mp h).1
    have e := rng_at (N := N) (x := (i : Int)) ⟨by omega, by omega⟩
    rw [Int.toNat_natCast] at e
    rw [e]
    show some b = some (endOf ends (i : Int))
    unfold endOf
    rw [Int.toNat_natCast, h]
    rfl
theorem rngB_ok {N : Nat} (h : N ≤ 100000) : rngB 0 (N : Int) = true := by
  unfold rngB
  exact decide_eq_true (by omega)
/-- the law's least machine -/
theorem law_least_spec {letters : Txt} (m : Mch N L table) (he : ends.length = N) (hN : 0 < N) (hN2 : N ≤ 1000) (hL : L ≤ 1000) :
    WP (_law_least letters (table, ends)) (fun r => ∃ v : Int → Int, r = mini table ends (found table N) v ∧ ∀ s ∈ found table N, ∀ t ∈ found table N, v s = v t ↔ Alike (rowOf table) (sameEnd ends) N s t) NoE := by
  have hS := found_st m hN
  have cl : ∀ s ∈ found table N, ∀ t ∈ rowOf table s, t ∈ found table N := fun s hs t ht => bfs_closed (found_len m hN N) hs ht
  unfold _law_least _law_least_b
  simp only [M.bind_ok]
  refine wp_finR (wp_chkok (by decide) ?_)
  rw [m.len]
  refine wp_chkok (rngB_ok (by omega)) ?_
  refine wp_bindF_i ?_
  refine wpi_forF (fun n s => s = bfs (rowOf table) 0 n) (Qb := fun s => s = found table N) (Qr := fun _ => False) rfl ?_ ?_ ?_ (fun _ h => h.elim)
  · -- the order
    rintro n x s hx rfl
    obtain ⟨e1, _, _⟩ := rng_get hx
    have ex : x = (n : Int) := by omega
    subst ex
    rw [cut_one]
    have hlen := found_len m hN n
    cases hn : (bfs (rowOf table) 0 n)[n]? with
    | none =>
      dsimp only
      refine wp_bindF_i ?_
      show bfs (rowOf table) 0 n = bfs (rowOf table) 0 (n + 1)
      rw [bfs_none hn]
    | some y =>
      dsimp only
      have hy := hS n y (List.mem_of_getElem? hn)
      refine wp_bindF_i ?_
      refine wpi_forF (fun i s => s = if i = 0 then bfs (rowOf table) 0 n else bfs (rowOf table) 0 (n + 1)) (Qb := fun s => s = bfs (rowOf table) 0 (n + 1)) (Qr := fun _ => False) (by simp) ?_ ?_ ?_ (fun _ h => h.elim)
      · rintro i z s hz rfl
        have hi : i = 0 := by
          have := (List.getElem?_eq_some_iff.mp hz).1
          simpa using this
        subst hi
        have ez : z = y := by simpa using hz.symm
        subst ez
        rw [if_pos rfl, if_neg (by omega)]
        refine wp_bind_i (wp_bind_i (wp_bind_i (wp_bind_i (m.get hy ?_))))
        refine wp_lcF (b := fun p : Int × Int => decide (p.2 ∉ bfs (rowOf table) 0 n) && decide (p.2 ∉ (rowOf table z).take p.1.toNat)) (g := fun p : Int × Int => p.2) (fun p hp => ⟨?_, rfl⟩) ?_
        · have hp0 : 0 ≤ p.1 := by
            unfold enumL at hp
            obtain ⟨i, hi, rfl⟩ := List.mem_mapIdx.mp hp
            exact Int.natCast_nonneg _
          rw [memB_dec]
          by_cases h : p.2 ∈ bfs (rowOf table) 0 n
          · rw [decide_eq_true h, if_neg (by decide)]
            show false = _
            simp [h]
          · rw [decide_eq_false h, if_pos (by decide)]
            refine wp_bind_i (wp_bind_i (m.get hy ?_))
            have ep : p.1 = ((p.1.toNat : Nat) : Int) := by omega
            rw [ep, cut_to]
            show (!memB p.2 _) = _
            rw [memB_dec, Int.toNat_natCast]
            simp [h]
        · have e2 : enumL (rowOf table z) = ((rowOf table z).mapIdx fun k x => (k, x)).map fun p => ((p.1 : Int), p.2) := by
            unfold enumL
            apply List.ext_getElem?
            intro i
            rw [List.getElem?_mapIdx, List.getElem?_map, List.getElem?_mapIdx]
            cases (rowOf table z)[i]? <;> rfl
          have e3 := pushAll_filter (bfs (rowOf table) 0 n) (rowOf table z) []
          have e4 : ((enumL (rowOf table z)).filter fun p : Int × Int => decide (p.2 ∉ bfs (rowOf table) 0 n) && decide (p.2 ∉ (rowOf table z).take p.1.toNat)).map (fun p => p.2) = (((rowOf table z).mapIdx fun k x => (k, x)).filter fun p => decide (p.2 ∉ bfs (rowOf table) 0 n) && decide (p.2 ∉ [] ++ (rowOf table z).take p.1)).map (·.2) := by
            rw [e2, List.filter_map, List.map_map]
            have e6 : ∀ p : Nat × Int, ((fun p : Int × Int => decide (p.2 ∉ bfs (rowOf table) 0 n) && decide (p.2 ∉ (rowOf table z).take p.1.toNat)) ∘ fun p : Nat × Int => ((p.1 : Int), p.2)) p = (decide (p.2 ∉ bfs (rowOf table) 0 n) && decide (p.2 ∉ [] ++ (rowOf table z).take p.1)) := fun p => by
              show (decide (p.2 ∉ bfs (rowOf table) 0 n) && decide (p.2 ∉ (rowOf table z).take ((p.1 : Int)).toNat)) = _
              rw [Int.toNat_natCast, List.nil_append]
            rw [List.filter_congr fun p _ => e6 p]
            refine List.map_congr_left fun p _ => ?_
            exact Eq.refl p.2
          have e5 : pushAll (bfs (rowOf table) 0 n) ([] : List Int) = bfs (rowOf table) 0 n := rfl
          rw [e5] at e3
          rw [e4]
          have h6 := pushAll_len_le (rowOf table z) (bfs (rowOf table) 0 n)
          rw [e3, List.length_append] at h6
          have h7 := m.rlen hy
          refine wp_chk_i (decide_eq_true (by unfold LIM; omega)) ?_
          show _ = bfs (rowOf table) 0 (n + 1)
          rw [bfs_some hn, e3]
      · intro s h
        rw [h, if_neg (by simp)]
      · intro s h
        exact h
  · intro s h
    rw [h, rng_len]
    have e : ((N : Int) - 0).toNat = N := by omega
    rw [e]
  · rintro S rfl
    -- the marks
    refine wp_bind_i (wp_lcM (g := fun b : Bool => if b then (1 : Int) else 0) (fun b _ => rfl) ?_)
    refine wp_chkok (rngB_ok (by omega)) ?_
    refine wp_bindF_i ?_
    have e0 : (ends.map fun b : Bool => if b then (1 : Int) else 0) = (rng 0 (N : Int)).map fun s => if endOf ends s then (1 : Int) else 0 := by
      conv => lhs; rw [ends_rng he]
      rw [List.map_map]
      rfl
    rw [e0]
    refine wpi_forF (fun k marks => ∃ v : Int → Int, marks = (rng 0 (N : Int)).map v ∧ ∀ s t, St N s → St N t → (v s = v t ↔ Alike (rowOf table) (sameEnd ends) k s t))
      (Qb := fun marks => ∃ v : Int → Int, marks = (rng 0 (N : Int)).map v ∧ ∀ s t, St N s → St N t → (v s = v t ↔ Alike (rowOf table) (sameEnd ends) N s t)) (Qr := fun _ => False) ⟨_, rfl, fun s t _ _ => ?_⟩ ?_ ?_ ?_ (fun _ h => h.elim)
    · show _ ↔ endOf ends s = endOf ends t
      cases endOf ends s <;> cases endOf ends t <;> simp
    · rintro k x marks hx ⟨v, rfl, hv⟩
      let w : Int → Int × Tp Int := fun s => (v s, Tp.mk ((rowOf table s).map v))
      have hw : ∀ s t, St N s → St N t → (w s = w t ↔ Alike (rowOf table) (sameEnd ends) (k + 1) s t) := fun s t hs ht => by
        show ((v s, Tp.mk ((rowOf table s).map v)) = (v t, Tp.mk ((rowOf table t).map v))) ↔ _
        rw [Prod.mk.injEq, Tp.mk.injEq, hv s t hs ht, all2_map fun x hx y hy => hv x y (m.rst hs x hx) (m.rst ht y hy)]
        exact Iff.rfl
      refine wp_bind_i (wp_chkok (rngB_ok (by omega)) ?_)
      refine wp_lcM (g := w) (fun s hs => ?_) ?_
      · have hst : St N s := mem_rng.mp hs
        refine wp_bind_i (wp_marks hst ?_)
        refine wp_bind_i (wp_bind_i (wp_bind_i (m.get hst ?_)))
        exact wp_lcM (g := v) (fun t ht => wp_marks (m.rst hst t ht) rfl) rfl
      · refine wp_bind_i (wp_lcM (g := fun a => ((idxG ((rng 0 (N : Int)).map w) a : Nat) : Int)) (fun a ha => wp_idxN_i ha rfl) ?_)
        refine ⟨fun s => ((idxG ((rng 0 (N : Int)).map w) (w s) : Nat) : Int), by rw [List.map_map]; rfl, fun s t hs ht => ?_⟩
        rw [← hw s t hs ht]
        show ((idxG ((rng 0 (N : Int)).map w) (w s) : Nat) : Int) = ((idxG ((rng 0 (N : Int)).map w) (w t) : Nat) : Int) ↔ w s = w t
        have ms : w s ∈ (rng 0 (N : Int)).map w := List.mem_map_of_mem (mem_rng.mpr hs)
        have mt : w t ∈ (rng 0 (N : Int)).map w := List.mem_map_of_mem (mem_rng.mpr ht)
        constructor
        · intro e
          have e : idxG ((rng 0 (N : Int)).map w) (w s) = idxG ((rng 0 (N : Int)).map w) (w t) := by omega
          have h1 := idxG_get ms
          have h2 := idxG_get mt
          rw [e, h2] at h1
          exact (Option.some.inj h1).symm
        · intro e
          rw [e]
    · rintro marks ⟨v, h1, h2⟩
      rw [rng_len] at h2
      have : ((N : Int) - 0).toNat = N := by omega
      rw [this] at h2
      exact ⟨v, h1, h2⟩
    · rintro marks ⟨v, rfl, hv⟩
      refine wp_bindF_i ?_
      refine wpi_forF (fun i z => z = reps v ((found table N).take i)) (Qb := fun z => z = reps v (found table N)) (Qr := fun _ => False) rfl ?_ ?_ ?_ (fun _ h => h.elim)
      · rintro i x z hx rfl
        have hxS := List.mem_of_getElem? hx
        have hst := hS N x hxS
        have hsub : ∀ s ∈ reps v ((found table N).take i), St N s := fun s hs => hS N s (List.mem_of_mem_take (reps_sub _ s hs))
        refine wp_bindF_i ?_
        refine wp_bind_i (wp_bind_i (wp_marks hst ?_))
        refine wp_bind_i (wp_noX_i (wp_lcM (g := v) (fun s hs => wp_marks (hsub s hs) rfl) ?_))
        show WP (if (!memB (v x) ((reps v ((found table N).take i)).map v)) = true then _ else _) _ _
        rw [memB_dec, take_snoc hx, reps_snoc]
        have l1 := reps_len_le v ((found table N).take i)
        have l2 : ((found table N).take i).length ≤ (found table N).length := by rw [List.length_take]; omega
        have l3 := found_len m hN N
        by_cases h : v x ∈ (reps v ((found table N).take i)).map v
        · rw [decide_eq_true h, if_neg (by decide), if_pos h]
          exact rfl
        · rw [decide_eq_false h, if_pos (by decide), if_neg h]
          refine wp_chk_i (decide_eq_true ?_) rfl
          have l3' : (found table N).length ≤ N := l3
          unfold LIM
          omega
      · rintro z rfl
        rw [List.take_length]
      · rintro first rfl
        have hsub : ∀ s ∈ reps v (found table N), St N s := fun s hs => hS N s (reps_sub _ s hs)
        refine wp_bind_i (wp_noX_i (wp_lcM (g := v) (fun s hs => wp_marks (hsub s hs) rfl) ?_))
        refine wp_bind_i (wp_bind_i (wp_lcM (g := fun s => (rowOf table s).map fun t => ((place v (found table N) t : Nat) : Int)) (fun s hs => ?_) ?_))
        · have hsS := reps_sub _ s hs
          refine wp_bind_i (m.get (hsub s hs) ?_)
          refine wp_lcM (g := fun t => ((place v (found table N) t : Nat) : Int)) (fun t ht => ?_) rfl
          have htS := cl s hsS t ht
          refine wp_bind_i (wp_marks (hS N t htS) ?_)
          exact wp_idxL_i ((mem_reps_map _ _).mpr (List.mem_map_of_mem htS)) rfl
        · refine wp_bind_i (wp_lcM (g := endOf ends) (fun s hs => wp_ends he (hsub s hs) rfl) ?_)
          exact ⟨v, rfl, fun s hs t ht => hv s t (hS N s hs) (hS N t ht)⟩
end
end HW

set_option Elab.async false
set_option linter.all false
set_option maxRecDepth 100000
set_option autoImplicit false
namespace HW
open L2
theorem wp_ok_i {α : Type} {a : α} {Qk : α → Prop} {Qx : String → List D → Prop} (h : Qk a) : WP (.ok a) Qk Qx := h
def cellAt (table : List (List Int)) (s : Int) (k : Nat) : Int := ((rowOf table s)[k]?).getD 0
/-- what the letters make of a row of states -/
def nxT (table : List (List Int)) (L : Nat) (t : Tp Int) : List (Tp Int) := (List.range L).map fun k => Tp.mk (t.xs.map fun s => cellAt table s k)
section
variable {N L : Nat} {table : List (List Int)}
abbrev StT (N : Nat) (t : Tp Int) : Prop := ∀ s ∈ t.xs, St N s
theorem Mch.cell {Qx : String → List D → Prop} {s : Int} {k : Nat} {Qk : Int → Prop} (m : Mch N L table) (h : St N s) (hk : k < L) (q : Qk (cellAt table s k)) : WP (getL (rowOf table s) (k : Int)) Qk Qx := by
  have hl : k < (rowOf table s).length := by rw [m.rlen h]; exact hk
  rw [getL_ok (List.getElem?_eq_getElem hl)]
  unfold cellAt at q
  rw [List.getElem?_eq_getElem hl] at q
  exact q
theorem cell_st {s : Int} {k : Nat} (m : Mch N L table) (h : St N s) (hk : k < L) : St N (cellAt table s k) := by
  have hl : k < (rowOf table s).length := by rw [m.rlen h]; exact hk
  unfold cellAt
  rw [List.getElem?_eq_getElem hl]
  exact m.rst h _ (List.getElem_mem hl)
theorem nxT_st (m : Mch N L table) {t : Tp Int} (h : StT N t) : ∀ u ∈ nxT table L t, StT N u := fun u hu => by
  obtain ⟨k, hk, rfl⟩ := List.mem_map.mp hu
  intro s hs
  obtain ⟨r, hr, rfl⟩ := List.mem_map.mp hs
  exact cell_st m (h r hr) (List.mem_range.mp hk)
def begin0 (N : Nat) : Tp Int := ⟨rng 0 (N : Int)⟩
theorem begin_st : StT N (begin0 N) := fun s hs => mem_rng.mp hs
abbrev allRows (table : List (List Int)) (N L : Nat) (n : Nat) : List (Tp Int) := bfs (nxT table L) (begin0 N) n
theorem allRows_st (m : Mch N L table) (n : Nat) : ∀ t ∈ allRows table N L n, StT N t := bfs_all begin_st (fun t ht u hu => nxT_st m ht u hu) n
theorem nxT_get {t : Tp Int} {k : Nat} (hk : k < L) : (nxT table L t)[k]? = some (Tp.mk (t.xs.map fun s => cellAt table s k)) := by
  unfold nxT
  rw [List.getElem?_map, List.getElem?_range hk]
  rfl
/-- the row by one letter, as both write it -/
theorem wp_row {Qx : String → List D → Prop} (m : Mch N L table) {xs : List Int} (h : ∀ s ∈ xs, St N s) {k : Nat} (hk : k < L) {Qk : List Int → Prop} (q : Qk (xs.map fun s => cellAt table s k)) :
    WP (lcM (fun x => (M.bind (getL table x) fun z => (getL z (k : Int)))) xs) Qk Qx := wp_lcM (g := fun s => cellAt table s k) (fun s hs => wp_bind_i (m.get (h s hs) (m.cell (h s hs) hk rfl))) q
/-- the law's members -/
theorem law_members_spec {letters : Txt} (m : Mch N L table) (hN2 : N ≤ 1000) (hL : letters.cs.length = L) (hL2 : L ≤ 1000) :
    WP (_law_members letters table) (fun o => (∃ rows : List (List Int), o = some rows ∧ rows.map Tp.mk = allRows table N L 2000 ∧ (∀ k, (allRows table N L k).length ≤ 2000)) ∨ (o = none ∧ ∃ k, 2000 < (allRows table N L k).length)) NoE := by
  unfold _law_members _law_members_b
  simp only [M.bind_ok]
  refine wp_finR ?_
  rw [m.len]
  refine wp_bind_i (wp_bind_i (wp_chkok (rngB_ok (by omega)) ?_))
  refine wp_ok_i (wp_chk_i (decide_eq_true (by simp [LIM])) (wp_ok_i ?_))
  refine wp_bind_i (wp_chkok (rngB_ok (by omega)) (wp_ok_i ?_))
  have r2001 : rngB 0 (2001 : Int) = true := rngB_ok (N := 2001) (by omega)
  refine wp_chkok r2001 ?_
  refine wp_bindF_i ?_
  refine wpi_forF (fun n z => z.1.map Tp.mk = allRows table N L n ∧ Keys z.2.kvs (allRows table N L n) ∧ (allRows table N L n).length ≤ 2000 ∧ n ≤ (allRows table N L n).length)
    (Qb := fun _ => False) (Qr := fun o => (∃ rows : List (List Int), o = some rows ∧ rows.map Tp.mk = allRows table N L 2000 ∧ (∀ k, (allRows table N L k).length ≤ 2000)) ∨ (o = none ∧ ∃ k, 2000 < (allRows table N L k).length)) ⟨rfl, Keys.one _ _, by show 1 ≤ 2000; omega, Nat.zero_le _⟩ ?_ ?_ (fun _ h => h.elim) (fun _ h => h)
  · rintro n x ⟨found, ⟨there⟩⟩ hx ⟨h1, h2, h3, h4⟩
    dsimp only at h1 h2 ⊢
    obtain ⟨e1, _, _⟩ := rng_get hx
    have ex : x = (n : Int) := by omega
    subst ex
    have hlen : found.length = (allRows table N L n).length := by rw [← h1, List.length_map]
    by_cases hn : n = found.length
    · have : eqD (n : Int) (found.length : Int) = true := eqD_true (by omega)
      rw [this, if_pos rfl]
      refine .inl ⟨found, rfl, ?_, fun k => ?_⟩
      · have := bfs_done (nx := nxT table L) (a := begin0 N) (n := n) (by show (allRows table N L n).length ≤ n; omega) (2000 - n)
        rw [show n + (2000 - n) = 2000 by omega] at this
        rw [h1]
        exact this.symm
      · rcases Nat.le_total k n with q | q
        · exact Nat.le_trans (bfs_mono q) h3
        · have := bfs_done (nx := nxT table L) (a := begin0 N) (n := n) (by show (allRows table N L n).length ≤ n; omega) (k - n)
          rw [show n + (k - n) = k by omega] at this
          show (bfs (nxT table L) (begin0 N) k).length ≤ 2000
          rw [this]
          exact h3
    · have : eqD (n : Int) (found.length : Int) = false := eqD_false (by omega)
      rw [this, if_neg (by decide)]
      have hlt : n < (allRows table N L n).length := by omega
      have hcur : (allRows table N L n)[n]? = some (allRows table N L n)[n] := List.getElem?_eq_getElem hlt
      have hst := allRows_st m n _ (List.getElem_mem hlt)
      generalize hc : (allRows table N L n)[n] = cur at hcur hst
      have hnext : allRows table N L (n + 1) = pushAll (allRows table N L n) (nxT table L cur) := bfs_some hcur
      rw [hL]
      refine wp_bind_i (wp_chkok (decide_eq_true (by unfold LIM; omega)) ?_)
      refine wp_chk_i (rngB_ok (by omega)) (wp_ok_i ?_)
      refine wp_bindF_i ?_
      refine wpi_forF (fun i z => z.1.map Tp.mk = pushAll (allRows table N L n) ((nxT table L cur).take i) ∧ Keys z.2.kvs (pushAll (allRows table N L n) ((nxT table L cur).take i)))
        (Qb := fun z => z.1.map Tp.mk = allRows table N L (n + 1) ∧ Keys z.2.kvs (allRows table N L (n + 1))) (Qr := fun _ => False) ⟨h1, h2⟩ ?_ ?_ ?_ (fun _ h => h.elim)
      · rintro i y ⟨g, ⟨th⟩⟩ hy ⟨k1, k2⟩
        dsimp only at k1 k2 ⊢
        obtain ⟨f1, f2, f3⟩ := rng_get hy
        have hiL : i < L := by omega
        have ey : y = (i : Int) := by omega
        subst ey
        have hg : g[n]? = some cur.xs := by
          have q := pushAll_get (xs := (nxT table L cur).take i) hcur
          rw [← k1, List.getElem?_map] at q
          cases hgn : g[n]? with
          | none => rw [hgn] at q; cases q
          | some r =>
            rw [hgn] at q
            have q := Option.some.inj q
            rw [← q]
        have glen : g.length ≤ 2000 + L := by
          have a1 : g.length = (pushAll (allRows table N L n) ((nxT table L cur).take i)).length := by rw [← k1, List.length_map]
          have a2 := pushAll_len_le ((nxT table L cur).take i) (allRows table N L n)
          have a3 : ((nxT table L cur).take i).length ≤ L := by
            rw [List.length_take]
            have : (nxT table L cur).length = L := by simp [nxT]
            omega
          omega
        have tlen : th.length ≤ 2000 + L := by
          have a1 := k2.2
          have a2 := pushAll_len_le ((nxT table L cur).take i) (allRows table N L n)
          have a3 : ((nxT table L cur).take i).length ≤ L := by
            rw [List.length_take]
            have : (nxT table L cur).length = L := by simp [nxT]
            omega
          omega
        have estep : pushAll (allRows table N L n) ((nxT table L cur).take (i + 1)) = push (pushAll (allRows table N L n) ((nxT table L cur).take i)) (Tp.mk (cur.xs.map fun s => cellAt table s i)) := by
          rw [take_snoc (nxT_get hiL), pushAll_append]
          rfl
        refine wp_bind_i (wp_bind_i ?_)
        rw [getL_ok hg]
        refine wp_ok_i (wp_row m hst hiL ?_)
        refine wp_bindF_i ?_
        rw [estep]
        cases hh : hasN (DicN.mk th) (Tp.mk (cur.xs.map fun s => cellAt table s i)) with
        | true =>
          rw [if_neg (by decide), k2.old hh]
          exact ⟨k1, k2⟩
        | false =>
          rw [if_pos (by decide)]
          refine wp_chk_i (decide_eq_true (by show th.length < LIM; unfold LIM; omega)) (wp_chk_i (decide_eq_true (by unfold LIM; omega)) ?_)
          have kp := k2.push (v := true) hh
          refine ⟨?_, kp⟩
          show (g ++ [_]).map Tp.mk = _
          rw [List.map_append, k1]
          unfold push
          rw [if_neg]
          · rfl
          · intro hm
            have := k2.1 (Tp.mk (cur.xs.map fun s => cellAt table s i))
            rw [show (lk th _).isSome = false from hh, decide_eq_true hm] at this
            cases this
      · rintro ⟨g, th⟩ ⟨k1, k2⟩
        rw [rng_len] at k1 k2
        have el : ((L : Int) - 0).toNat = (nxT table L cur).length := by
          have : (nxT table L cur).length = L := by simp [nxT]
          omega
        rw [el, List.take_length, ← hnext] at k1 k2
        exact ⟨k1, k2⟩
      · rintro ⟨g, th⟩ ⟨k1, k2⟩
        dsimp only at k1 k2 ⊢
        have gl : g.length = (allRows table N L (n + 1)).length := by rw [← k1, List.length_map]
        by_cases hb : 2000 < g.length
        · rw [if_pos (decide_eq_true (by omega))]
          exact .inr ⟨rfl, n + 1, by omega⟩
        · rw [if_neg (by rw [decide_eq_false (by omega)]; decide)]
          have hle := bfs_mono (nx := nxT table L) (a := begin0 N) (show n ≤ n + 1 by omega)
          refine ⟨k1, k2, by omega, ?_⟩
          exact Nat.le_trans hlt hle
  · rintro ⟨found, there⟩ ⟨_, _, h3, h4⟩
    rw [rng_len] at h4 h3
    have : ((2001 : Int) - 0).toNat = 2001 := by decide
    rw [this] at h3 h4
    omega
end
end HW

set_option Elab.async false
set_option linter.all false
set_option maxRecDepth 100000
set_option autoImplicit false
namespace HW
open L2
section
variable {N L : Nat} {table : List (List Int)}
theorem enum_get {t : Txt} {i : Nat} {p : Int × Txt} (h : (enumL (signs t))[i]? = some p) : p.1 = (i : Int) ∧ p.2.cs.length = 1 ∧ i < t.cs.length := by
  unfold enumL signs at h
  rw [List.getElem?_mapIdx, List.getElem?_map] at h
  cases e : t.cs[i]? with
  | none => rw [e] at h; cases h
  | some c =>
    rw [e] at h
    cases h
    exact ⟨rfl, rfl, (List.getElem?_eq_some_iff.mp e).1⟩
/-- the program's rows: all, or too many -/
theorem rows_met_spec {letters : Txt} (m : Mch N L table) (hN2 : N ≤ 1000) (hL : letters.cs.length = L) (hL2 : L ≤ 1000) :
    WP (rows_met letters table) (fun r => r.map (·.1) = allRows table N L 2000 ∧ ∀ k, (allRows table N L k).length ≤ 2000) (fun n p => n = "TooMany" ∧ p = [] ∧ ∃ k, 2000 < (allRows table N L k).length) := by
  unfold rows_met rows_met_b
  simp only [M.bind_ok]
  refine wp_finR ?_
  rw [m.len]
  refine wp_chkok (rngB_ok (by omega)) ?_
  refine wp_chkok (decide_eq_true (by simp [LIM])) ?_
  refine wp_bindF_i ?_
  refine wp_whileF (fun s : DicN (Tp Int) Txt × List (Tp Int) × Int => ∃ n : Nat, s.2.2 = (n : Int) ∧ s.2.1 = allRows table N L n ∧ n ≤ s.2.1.length ∧ s.2.1.length ≤ 2000 ∧ Keys s.1.kvs s.2.1 ∧ ∀ x t, lk s.1.kvs x = some t → t.cs.length ≤ n)
    (fun s => 2001 - s.2.2.toNat) (Qb := fun s => s.2.1 = allRows table N L 2000 ∧ (∀ k, (allRows table N L k).length ≤ 2000) ∧ Keys s.1.kvs s.2.1) (Qr := fun _ => False) ?_ ?_ ?_ (fun _ h => h.elim)
  · refine ⟨0, rfl, rfl, Nat.zero_le _, ?_, Keys.one _ _, fun x t h => ?_⟩
    · simp
    · have h : lk [((⟨rng 0 (N : Int)⟩ : Tp Int), (⟨[]⟩ : Txt))] x = some t := h
      unfold lk at h
      rw [List.find?_cons] at h
      split at h
      · cases h
        exact Nat.le_refl _
      · cases h
  · rintro ⟨⟨words⟩, order, at_⟩ ⟨n, h1, h2, h3, h4, h5, h6⟩
    dsimp only at h1 h2 h3 h4 h5 h6 ⊢
    subst h1 h2
    by_cases hlt : n < (allRows table N L n).length
    · refine wp_ok_i ?_
      rw [if_pos (decide_eq_true (by omega))]
      have hcur : (allRows table N L n)[n]? = some (allRows table N L n)[n] := List.getElem?_eq_getElem hlt
      have hst := allRows_st m n _ (List.getElem_mem hlt)
      generalize hc : (allRows table N L n)[n] = cur at hcur hst
      have hnext : allRows table N L (n + 1) = pushAll (allRows table N L n) (nxT table L cur) := bfs_some hcur
      have hle := bfs_mono (nx := nxT table L) (a := begin0 N) (show n ≤ n + 1 by omega)
      refine wp_chkok (decide_eq_true (by rw [hL]; unfold LIM; omega)) ?_
      refine wp_bindF_i ?_
      refine wpi_forF (fun i z => z.2 = pushAll (allRows table N L n) ((nxT table L cur).take i) ∧ z.2.length ≤ 2000 ∧ Keys z.1.kvs z.2 ∧ (∀ x t, lk z.1.kvs x = some t → t.cs.length ≤ n + 1) ∧ ∀ t, lk z.1.kvs cur = some t → t.cs.length ≤ n)
        (Qb := fun z => z.2 = allRows table N L (n + 1) ∧ z.2.length ≤ 2000 ∧ Keys z.1.kvs z.2 ∧ (∀ x t, lk z.1.kvs x = some t → t.cs.length ≤ n + 1)) (Qr := fun _ => False) ⟨rfl, h4, h5, fun x t h => Nat.le_succ_of_le (h6 x t h), fun t h => h6 cur t h⟩ ?_ ?_ ?_ (fun _ h => h.elim)
      · rintro i ⟨y1, y2⟩ ⟨⟨w⟩, g⟩ hy ⟨k1, k2, k3, k4, k5⟩
        obtain ⟨f1, f2, f3⟩ := enum_get hy
        dsimp only at f1 f2 k1 k2 k3 k4 k5 ⊢
        subst f1
        have hiL : i < L := by omega
        have hg : g[n]? = some cur := by rw [k1]; exact pushAll_get hcur
        have estep : pushAll (allRows table N L n) ((nxT table L cur).take (i + 1)) = push g (Tp.mk (cur.xs.map fun s => cellAt table s i)) := by
          rw [take_snoc (nxT_get hiL), pushAll_append, ← k1]
          rfl
        refine wp_bind_i (wp_bind_i (wp_bind_i (wp_bind_i ?_)))
        rw [getL_ok hg]
        refine wp_ok_i (wp_ok_i (wp_row m hst hiL (wp_ok_i ?_)))
        refine wp_bindF_i ?_
        rw [estep]
        cases hh : hasN (DicN.mk w) (Tp.mk (cur.xs.map fun s => cellAt table s i)) with
        | true =>
          rw [if_neg (by decide), k3.old hh]
          exact ⟨rfl, k2, k3, k4, k5⟩
        | false =>
          rw [if_pos (by decide)]
          have hmem : cur ∈ g := List.mem_of_getElem? hg
          have hcw := k3.1 cur
          rw [decide_eq_true hmem] at hcw
          cases ew : lk w cur with
          | none => rw [ew] at hcw; cases hcw
          | some tw =>
          have htw := k5 tw ew
          have hnn : n ≤ 2000 := Nat.le_trans h3 h4
          have hne : Tp.mk (cur.xs.map fun s => cellAt table s i) ≠ cur := fun e => by
            rw [e] at hh
            have : (lk w cur).isSome = false := hh
            rw [ew] at this
            cases this
          have hng : Tp.mk (cur.xs.map fun s => cellAt table s i) ∉ g := fun hm => by
            have := k3.1 (Tp.mk (cur.xs.map fun s => cellAt table s i))
            rw [show (lk w _).isSome = false from hh, decide_eq_true hm] at this
            cases this
          have hlk : lk w (Tp.mk (cur.xs.map fun s => cellAt table s i)) = none := by
            have : (lk w (Tp.mk (cur.xs.map fun s => cellAt table s i))).isSome = false := hh
            cases e : lk w (Tp.mk (cur.xs.map fun s => cellAt table s i)) with
            | none => rfl
            | some _ => rw [e] at this; cases this
          have ep : push g (Tp.mk (cur.xs.map fun s => cellAt table s i)) = g ++ [Tp.mk (cur.xs.map fun s => cellAt table s i)] := by
            unfold push
            rw [if_neg hng]
          refine wp_bind_i (wp_bind_i (wp_bind_i ?_))
          refine wp_ok_i ?_
          have gn : getN (DicN.mk w : DicN (Tp Int) Txt) cur = .ok tw := by
            unfold getN
            rw [show lk (DicN.mk w : DicN (Tp Int) Txt).kvs cur = some tw from ew]
          rw [gn]
          refine wp_ok_i (wp_chk_i (decide_eq_true (by unfold LIM; omega)) (wp_ok_i ?_))
          refine wp_chk_i (decide_eq_true (by show w.length < LIM; rw [k3.2]; unfold LIM; omega)) (wp_chk_i (decide_eq_true (by unfold LIM; omega)) ?_)
          by_cases hb : 2000 < (g ++ [Tp.mk (cur.xs.map fun s => cellAt table s i)]).length
          · rw [if_pos (decide_eq_true (by omega))]
            refine ⟨rfl, rfl, n + 1, ?_⟩
            rw [hnext]
            have e3 : pushAll (allRows table N L n) (nxT table L cur) = pushAll (pushAll (allRows table N L n) ((nxT table L cur).take (i + 1))) ((nxT table L cur).drop (i + 1)) := by
              rw [← pushAll_append, List.take_append_drop]
            rw [e3, estep, ep]
            exact Nat.lt_of_lt_of_le hb (pushAll_len _ _)
          · rw [if_neg (by rw [decide_eq_false (by omega)]; decide)]
            refine ⟨ep.symm, Nat.le_of_not_lt hb, ?_, fun x t hx => ?_, fun t hx => ?_⟩
            · have := k3.push (v := (⟨tw.cs ++ y2.cs⟩ : Txt)) hh
              rw [ep] at this
              exact this
            · have hx : lk (pt w (Tp.mk (cur.xs.map fun s => cellAt table s i)) (⟨tw.cs ++ y2.cs⟩ : Txt)) x = some t := hx
              rw [pt_new hlk, lk_app] at hx
              cases e : lk w x with
              | some t' =>
                rw [e] at hx
                cases hx
                exact k4 x _ e
              | none =>
                rw [e] at hx
                dsimp only at hx
                split at hx
                · cases hx
                  show (tw.cs ++ y2.cs).length ≤ n + 1
                  rw [List.length_append]
                  omega
                · cases hx
            · have hx : lk (pt w (Tp.mk (cur.xs.map fun s => cellAt table s i)) (⟨tw.cs ++ y2.cs⟩ : Txt)) cur = some t := hx
              rw [pt_new hlk, lk_app, ew] at hx
              cases hx
              exact htw
      · rintro ⟨w, g⟩ ⟨k1, k2, k3, k4, _⟩
        have el : (enumL (signs letters)).length = (nxT table L cur).length := by simp [enumL, signs, nxT, hL]
        rw [el, List.take_length, ← hnext] at k1
        exact ⟨k1, k2, k3, k4⟩
      · rintro ⟨w, g⟩ ⟨k1, k2, k3, k4⟩
        dsimp only at k1 k2 k3 k4 ⊢
        refine ⟨⟨n + 1, by simp, k1, ?_, k2, k3, k4⟩, ?_⟩
        · show n + 1 ≤ g.length
          rw [k1]
          exact Nat.le_trans hlt hle
        · show 2001 - ((n : Int) + 1).toNat < 2001 - ((n : Int)).toNat
          omega
    · refine wp_ok_i ?_
      rw [if_neg (by rw [decide_eq_false (by omega)]; decide)]
      have hd : (allRows table N L n).length ≤ n := by omega
      have all : ∀ k, n ≤ k → allRows table N L k = allRows table N L n := fun k hk => by
        have := bfs_done (nx := nxT table L) (a := begin0 N) (n := n) hd (k - n)
        rw [show n + (k - n) = k by omega] at this
        exact this
      refine ⟨(all 2000 (by omega)).symm, fun k => ?_, h5⟩
      rcases Nat.le_total k n with q | q
      · exact Nat.le_trans (bfs_mono q) h4
      · rw [all k q]
        exact h4
  · rintro ⟨⟨words⟩, order, at_⟩ ⟨h1, h2, h3⟩
    dsimp only at h1 h3 ⊢
    refine wp_bind_i (wp_lcM (g := fun x => (x, ((lk words x).getD ⟨[]⟩))) (fun x hx => ?_) ?_)
    · have := h3.1 x
      rw [decide_eq_true hx] at this
      cases e : lk words x with
      | none => rw [e] at this; cases this
      | some t =>
        refine wp_bind_i ?_
        show WP (getN (DicN.mk words) x) _ _
        unfold getN
        rw [show lk (DicN.mk words : DicN (Tp Int) Txt).kvs x = some t from e]
        exact rfl
    · refine ⟨?_, h2⟩
      rw [List.map_map]
      rw [← h1]
      exact List.map_id _
end
end HW

set_option Elab.async false
set_option linter.all false
set_option maxRecDepth 100000
set_option autoImplicit false
namespace HW
open L2
section
variable {N L : Nat} {table : List (List Int)} {ends : List Bool} {v : Int → Int}
theorem mini_mch (m : Mch N L table) (hN : 0 < N) : Mch (reps v (found table N)).length L (mini table ends (found table N) v).1 := by
  have cl : ∀ s ∈ found table N, ∀ t ∈ rowOf table s, t ∈ found table N := fun s hs t ht => bfs_closed (found_len m hN N) hs ht
  refine ⟨by simp [mini], fun r hr => ?_⟩
  obtain ⟨s, hs, rfl⟩ := List.mem_map.mp hr
  have hsS := reps_sub _ s hs
  refine ⟨by rw [List.length_map, m.rlen (found_st m hN N s hsS)], fun x hx => ?_⟩
  obtain ⟨t, ht, rfl⟩ := List.mem_map.mp hx
  have := place_lt (f := v) (cl s hsS t ht)
  exact ⟨Int.natCast_nonneg _, by omega⟩
theorem mini_le (m : Mch N L table) (hN : 0 < N) : (reps v (found table N)).length ≤ N := Nat.le_trans (reps_len_le v _) (found_len m hN N)
theorem members_spec {letters : Txt} (m : Mch N L table) (he : ends.length = N) (hN : 0 < N) (hN2 : N ≤ 1000) (hL : letters.cs.length = L) (hL2 : L ≤ 1000) :
    WP (members letters (table, ends)) (fun r => ∃ v : Int → Int, (∀ s ∈ found table N, ∀ t ∈ found table N, v s = v t ↔ Alike (rowOf table) (sameEnd ends) N s t) ∧ r.map Tp.mk = allRows (mini table ends (found table N) v).1 (reps v (found table N)).length L 2000 ∧ ∀ k, (allRows (mini table ends (found table N) v).1 (reps v (found table N)).length L k).length ≤ 2000)
      (fun n p => n = "TooMany" ∧ p = [] ∧ ∃ v : Int → Int, (∀ s ∈ found table N, ∀ t ∈ found table N, v s = v t ↔ Alike (rowOf table) (sameEnd ends) N s t) ∧ ∃ k, 2000 < (allRows (mini table ends (found table N) v).1 (reps v (found table N)).length L k).length) := by
  unfold members members_b
  refine wp_finR (wp_bind_i (wp_bind_i (wp_bind_i (wp_bind_i ?_))))
  refine (least_spec m he hN hN2).imp (fun r hr => ?_) fun _ _ x => x.elim
  obtain ⟨v, rfl, hv⟩ := hr
  have mm := mini_mch (ends := ends) (v := v) m hN
  have ml := mini_le (v := v) m hN
  refine wp_ok_i ((rows_met_spec mm (by omega) hL hL2).imp (fun rs hrs => ?_) fun n p hx => ?_)
  · refine wp_lcM (g := fun x : Tp Int × Txt => x.1.xs) (fun x _ => rfl) ?_
    refine ⟨v, hv, ?_, hrs.2⟩
    rw [← hrs.1, List.map_map]
    rfl
  · exact ⟨hx.1, hx.2.1, v, hv, hx.2.2⟩
end
end HW

set_option Elab.async false
set_option linter.all false
set_option maxRecDepth 100000
set_option autoImplicit false
namespace HW
open L2
/-- the place of a sign among the letters -/
def plc (letters : Txt) (ch : Nat) : Nat := letters.cs.idxOf ch
section
variable {Qx : String → List D → Prop}
theorem wp_idxT {letters : Txt} {ch : Nat} {Qk : Int → Prop} (h : ch ∈ letters.cs) (q : Qk ((plc letters ch : Nat) : Int)) : WP (idxT letters ⟨[ch]⟩) Qk Qx := by
  have e : idxAt letters.cs ch = some (letters.cs.idxOf ch) := by
    unfold idxAt
    have := findIdx_idxOf ch h
    rw [← this]
    congr 1
  unfold idxT
  dsimp only
  rw [e]
  exact q
theorem plc_lt {letters : Txt} {ch : Nat} (h : ch ∈ letters.cs) : plc letters ch < letters.cs.length := List.idxOf_lt_length_iff.mpr h
/-- where a word leads a state -/
def runT (table : List (List Int)) (letters : Txt) (cs : List Nat) (s : Int) : Int := cs.foldl (fun s ch => cellAt table s (plc letters ch)) s
variable {N L : Nat} {table : List (List Int)} {ends : List Bool} {letters word : Txt}
theorem runT_st (m : Mch N L table) (hL : letters.cs.length = L) : ∀ (cs : List Nat), (∀ ch ∈ cs, ch ∈ letters.cs) → ∀ s, St N s → St N (runT table letters cs s)
  | [], _, s, h => h
  | c :: cs, hc, s, h => runT_st m hL cs (fun ch q => hc ch (List.mem_cons_of_mem _ q)) _ (cell_st m h (by rw [← hL]; exact plc_lt (hc c (List.mem_cons_self ..))))
theorem runT_snoc (cs : List Nat) (c : Nat) (s : Int) : runT table letters (cs ++ [c]) s = cellAt table (runT table letters cs s) (plc letters c) := by
  unfold runT
  rw [List.foldl_append]
  rfl
theorem places_spec (hw : ∀ ch ∈ word.cs, ch ∈ letters.cs) (hl : word.cs.length < LIM) : WP (places_of letters word) (fun r => r = word.cs.map fun ch => ((plc letters ch : Nat) : Int)) Qx := by
  unfold places_of places_of_b
  refine wp_finR (wp_bind_i (wp_chkok (decide_eq_true hl) ?_))
  have e : signs word = word.cs.map fun ch => Txt.mk [ch] := rfl
  refine wp_lcM (g := fun t : Txt => ((plc letters (t.cs.headD 0) : Nat) : Int)) (fun t ht => ?_) ?_
  · rw [e] at ht
    obtain ⟨ch, hch, rfl⟩ := List.mem_map.mp ht
    exact wp_idxT (hw ch hch) rfl
  · rw [e]
    refine wp_ok_i ?_
    rw [List.map_map]
    rfl
theorem run_from_spec (m : Mch N L table) (hL : letters.cs.length = L) (hw : ∀ ch ∈ word.cs, ch ∈ letters.cs) (hl : word.cs.length < LIM) {s : Int} (hs : St N s) :
    WP (run_from letters (table, ends) s word) (fun r => r = runT table letters word.cs s) Qx := by
  unfold run_from run_from_b
  refine wp_finR (wp_then (places_spec hw hl) ?_)
  rintro ps rfl
  refine wp_bindF_i ?_
  refine wpi_forF (fun i z => z = runT table letters (word.cs.take i) s) (Qb := fun z => z = runT table letters word.cs s) (Qr := fun _ => False) rfl ?_ ?_ ?_ (fun _ h => h.elim)
  · rintro i x z hx rfl
    rw [List.getElem?_map] at hx
    cases hc : word.cs[i]? with
    | none => rw [hc] at hx; cases hx
    | some ch =>
      rw [hc] at hx
      cases hx
      have hm := List.mem_of_getElem? hc
      have hst := runT_st m hL (word.cs.take i) (fun ch q => hw ch (List.mem_of_mem_take q)) s hs
      refine wp_bind_i (wp_bind_i (m.get hst (m.cell hst (by rw [← hL]; exact plc_lt (hw ch hm)) (wp_ok_i ?_))))
      rw [take_snoc hc, runT_snoc]
  · rintro z rfl
    rw [List.length_map, List.take_length]
  · rintro z rfl
    exact wp_bind_i (wp_ok_i (wp_ok_i rfl))
end
end HW

set_option Elab.async false
set_option linter.all false
set_option maxRecDepth 100000
set_option autoImplicit false
namespace HW
open L2
section
variable {N L : Nat} {table : List (List Int)} {ends : List Bool} {letters word : Txt}
theorem turning_spec (m : Mch N L table) (he : ends.length = N) (hN : 0 < N) (hN2 : N ≤ 1000) (hL : letters.cs.length = L) (hw : ∀ ch ∈ word.cs, ch ∈ letters.cs) (hl : word.cs.length < LIM) :
    WP (turning_of letters (table, ends) word) (fun r => ∃ v : Int → Int, (∀ s ∈ found table N, ∀ t ∈ found table N, v s = v t ↔ Alike (rowOf table) (sameEnd ends) N s t) ∧
      r = (rng 0 ((reps v (found table N)).length : Int)).map (runT (mini table ends (found table N) v).1 letters word.cs)) NoE := by
  unfold turning_of turning_of_b
  refine wp_finR (wp_then (least_spec m he hN hN2) ?_)
  rintro r ⟨v, rfl, hv⟩
  have mm := mini_mch (ends := ends) (v := v) m hN
  have ml := mini_le (v := v) m hN
  rw [mm.len]
  refine wp_bind_i (wp_chkok (rngB_ok (by omega)) ?_)
  refine wp_lcM (g := runT (mini table ends (found table N) v).1 letters word.cs) (fun s hs => ?_) (wp_ok_i ⟨v, hv, rfl⟩)
  exact run_from_spec (ends := (mini table ends (found table N) v).2) mm hL hw hl (mem_rng.mp hs)
end
end HW

set_option Elab.async false
set_option linter.all false
set_option maxRecDepth 100000
set_option autoImplicit false
namespace HW
open L2
theorem cmul_c {a b : Int} (h : -18446744073709551616 < b ∧ b < 18446744073709551616) : cmulB a b = true := by
  unfold cmulB
  exact decide_eq_true (Or.inr (by omega))
theorem cmul_l {a b : Int} (h : -18446744073709551616 < a ∧ a < 18446744073709551616) : cmulB a b = true := by
  unfold cmulB
  exact decide_eq_true (Or.inl (by omega))
theorem pos_c {a b : Int} (h : 0 < b) : posB a b = true := decide_eq_true h
theorem div_c {a b : Int} (h : 0 < b ∧ b < 1073741824) : divB a b = true := decide_eq_true h
theorem pow_c : powB (10 : Int) (18 : Int) = true := by decide
theorem rngB_c {a b : Int} (h : -4000000 < a ∧ a < 4000000 ∧ -4000000 < b ∧ b < 4000000) : rngB a b = true := decide_eq_true h
/-- numbers of a pool -/
abbrev Pl (x : Int) : Prop := 0 ≤ x ∧ x < 60
theorem mod_pl (x : Int) : Pl (x % 60) := ⟨Int.emod_nonneg _ (by decide), Int.emod_lt_of_pos _ (by decide)⟩
theorem pool_spec {ns : List Int} (h : ns.length ≤ 63) : WP (_law_pool ⟨ns⟩) (fun r => 300 ≤ r.length ∧ r.length ≤ 5000 ∧ ∀ x ∈ r, Pl x) NoE := by
  unfold _law_pool _law_pool_b
  refine wp_finR ?_
  with_reducible refine wp_bind_i (wp_ok_i ?_)
  with_reducible refine wp_bind_i (wp_ok_i ?_)
  have ecut : (if (63 : Int) < (ns.length : Int) then (63 : Int) else (ns.length : Int)) = (ns.length : Int) := by
    rw [if_neg (by omega)]
  show WP (M.bind (chk (rngB 0 (if (63 : Int) < (ns.length : Int) then (63 : Int) else (ns.length : Int))) _) _) _ _
  rw [ecut]
  with_reducible refine wp_chkok (rngB_ok (by omega)) ?_
  with_reducible refine wp_bindF_i ?_
  refine wpi_forF (fun i z => z.1.length ≤ 60 * i ∧ ∀ x ∈ z.1, Pl x) (Qb := fun z => z.1.length ≤ 60 * 63 ∧ ∀ x ∈ z.1, Pl x) (Qr := fun _ => False) ⟨Nat.le_refl _, fun x hx => nomatch hx⟩ ?_ ?_ ?_ (fun _ h => h.elim)
  · rintro i x ⟨pool, state⟩ hx ⟨h1, h2⟩
    dsimp only at h1 h2 ⊢
    obtain ⟨e1, e2, e3⟩ := rng_get hx
    have hi : i < 63 := by omega
    have hcell : ns[x.toNat]? = some (ns[x.toNat]'(by omega)) := List.getElem?_eq_getElem (by omega)
    generalize (ns[x.toNat]'(by omega)) = cell at hcell
    refine wp_bind_i (wp_getL_i e2 hcell ?_)
    repeat (first | with_reducible refine wp_ok_i ?_ | with_reducible refine wp_bind_i ?_ | with_reducible refine wp_chk_i (cmul_c (by decide)) ?_ | with_reducible refine wp_chk_i (pos_c (by decide)) ?_)
    with_reducible refine wp_bindF_i ?_
    with_reducible refine wp_bind_i (wp_chkok pow_c (wp_ok_i ?_))
    split
    · -- a long number
      with_reducible refine wp_chkok (rngB_c (by decide)) ?_
      with_reducible refine wp_bindF_i ?_
      refine wpi_forF (fun j z => z.1.length ≤ 60 * i + j ∧ ∀ x ∈ z.1, Pl x) (Qb := fun z => z.1.length ≤ 60 * i + 60 ∧ ∀ x ∈ z.1, Pl x) (Qr := fun _ => False) ⟨by simpa using h1, h2⟩ ?_ ?_ ?_ (fun _ h => h.elim)
      · rintro j y ⟨g, c⟩ hy ⟨k1, k2⟩
        dsimp only at k1 k2 ⊢
        obtain ⟨f1, f2, f3⟩ := rng_get hy
        with_reducible refine wp_bind_i (wp_ok_i ?_)
        split
        · exact ⟨by show g.length ≤ _; omega, k2⟩
        · with_reducible refine wp_chkok (pos_c (by decide)) ?_
          with_reducible refine wp_chk_i (decide_eq_true (by unfold LIM; omega)) ?_
          with_reducible refine wp_chkok (div_c (by decide)) (wp_ok_i ?_)
          refine ⟨?_, fun z hz => ?_⟩
          · show (g ++ [_]).length ≤ _
            rw [List.length_append]
            show g.length + 1 ≤ _
            omega
          · rcases List.mem_append.mp hz with q | q
            · exact k2 z q
            · rw [List.mem_singleton.mp q]
              exact mod_pl _
      · rintro ⟨g, c⟩ ⟨k1, k2⟩
        rw [rng_len] at k1
        exact ⟨by simpa using k1, k2⟩
      · rintro ⟨g, c⟩ ⟨k1, k2⟩
        exact ⟨by show g.length ≤ 60 * (i + 1); have k1 : g.length ≤ 60 * i + 60 := k1; omega, k2⟩
    · repeat (first | with_reducible refine wp_ok_i ?_ | with_reducible refine wp_bind_i ?_ | with_reducible refine wp_chk_i (cmul_c (by decide)) ?_ | with_reducible refine wp_chk_i (pos_c (by decide)) ?_ | with_reducible refine wp_chk_i (div_c (by decide)) ?_ | with_reducible refine wp_chk_i (decide_eq_true (by simp only [List.length_cons, List.length_nil]; unfold LIM; omega)) ?_)
      refine ⟨?_, fun z hz => ?_⟩
      · show (pool ++ [_, _]).length ≤ 60 * (i + 1)
        rw [List.length_append]
        show pool.length + 2 ≤ _
        omega
      · rcases List.mem_append.mp hz with q | q
        · exact h2 z q
        · rcases List.mem_cons.mp q with q | q
          · rw [q]
            exact mod_pl _
          · rw [List.mem_singleton.mp q]
            exact mod_pl _
  · rintro ⟨pool, state⟩ ⟨h1, h2⟩
    rw [rng_len] at h1
    exact ⟨by have h1 : pool.length ≤ 60 * ((ns.length : Int) - 0).toNat := h1; show pool.length ≤ 60 * 63; omega, h2⟩
  · rintro ⟨pool, state⟩ ⟨h1, h2⟩
    dsimp only at h1 h2 ⊢
    with_reducible refine wp_chkok (rngB_c (by decide)) ?_
    with_reducible refine wp_bindF_i ?_
    refine wpi_forF (fun j z => z.1.length = pool.length + j ∧ ∀ x ∈ z.1, Pl x) (Qb := fun z => z.1.length = pool.length + 300 ∧ ∀ x ∈ z.1, Pl x) (Qr := fun _ => False) ⟨rfl, h2⟩ ?_ ?_ ?_ (fun _ h => h.elim)
    · rintro j y ⟨g, c⟩ hy ⟨k1, k2⟩
      dsimp only at k1 k2 ⊢
      obtain ⟨f1, f2, f3⟩ := rng_get hy
      repeat (first | with_reducible refine wp_ok_i ?_ | with_reducible refine wp_bind_i ?_ | with_reducible refine wp_chk_i (cmul_c (by decide)) ?_ | with_reducible refine wp_chk_i (pos_c (by decide)) ?_ | with_reducible refine wp_chk_i (div_c (by decide)) ?_ | with_reducible refine wp_chk_i (decide_eq_true (by unfold LIM; omega)) ?_)
      refine ⟨?_, fun z hz => ?_⟩
      · show (g ++ [_]).length = _
        rw [List.length_append]
        show g.length + 1 = _
        omega
      · rcases List.mem_append.mp hz with q | q
        · exact k2 z q
        · rw [List.mem_singleton.mp q]
          exact mod_pl _
    · rintro ⟨g, c⟩ ⟨k1, k2⟩
      rw [rng_len] at k1
      exact ⟨by simpa using k1, k2⟩
    · rintro ⟨g, c⟩ ⟨k1, k2⟩
      exact wp_ok_i ⟨by have k1 : g.length = pool.length + 300 := k1; show 300 ≤ g.length; omega, by have k1 : g.length = pool.length + 300 := k1; show g.length ≤ 5000; omega, k2⟩
end HW

set_option Elab.async false
set_option linter.all false
set_option maxRecDepth 100000
set_option autoImplicit false
namespace HW
open L2
section
variable {α β : Type} {Qx : String → List D → Prop}
theorem wp_setL_i {xs : List α} {x : Int} {a : α} {Qk : List α → Prop} (h0 : 0 ≤ x) (h : x < (xs.length : Int)) (q : Qk (xs.set x.toNat a)) : WP (setL xs x a) Qk Qx := by
  unfold setL ixN
  rw [if_pos h0, if_pos h]
  exact q
theorem wp_lcP {f : α → M β} {P : α → β → Prop} : ∀ {xs : List α} {Qk : List β → Prop}, (∀ x ∈ xs, WP (f x) (P x) NoE) → (∀ ys, ys.length = xs.length → (∀ y ∈ ys, ∃ x ∈ xs, P x y) → Qk ys) → WP (lcM f xs) Qk Qx
  | [], _, _, q => q [] rfl (fun _ h => nomatch h)
  | x :: xs, _, h, q => by
    refine wp_then (wp_noX_i (h x (List.mem_cons_self ..))) fun a ha => ?_
    refine wp_then (P := fun ys => ys.length = xs.length ∧ ∀ y ∈ ys, ∃ x ∈ xs, P x y) (wp_lcP (fun y hy => h y (List.mem_cons_of_mem _ hy)) fun ys h1 h2 => ⟨h1, h2⟩) fun ys hys => ?_
    refine q (a :: ys) (congrArg (· + 1) hys.1) fun y hy => ?_
    rcases List.mem_cons.mp hy with e | e
    · rw [e]
      exact ⟨x, List.mem_cons_self .., ha⟩
    · obtain ⟨x', hx, hp⟩ := hys.2 y e
      exact ⟨x', List.mem_cons_of_mem _ hx, hp⟩
theorem wp_getT_i {t : Txt} {x : Int} {Qk : Txt → Prop} (hl : t.cs.length < LIM) (h0 : 0 ≤ x) (h : x < (t.cs.length : Int)) (q : ∀ ch ∈ t.cs, Qk ⟨[ch]⟩) : WP (getT t x) Qk Qx := by
  unfold getT
  refine wp_chk_i (decide_eq_true hl) ?_
  have hx : x.toNat < t.cs.length := by omega
  have e : atI t.cs x = some t.cs[x.toNat] := by
    unfold atI ixN
    rw [if_pos h0, if_pos h]
    exact List.getElem?_eq_getElem hx
  rw [e]
  exact q _ (List.getElem_mem hx)
/-- texts of one sign, joined -/
theorem join1 {S : List Nat} : ∀ {xs : List Txt}, (∀ t ∈ xs, ∃ ch ∈ S, t = ⟨[ch]⟩) → (joinL' [] xs).length = xs.length ∧ (∀ ch ∈ joinL' [] xs, ch ∈ S) ∧ (xs.map (·.cs.length)).sum = xs.length
  | [], _ => ⟨rfl, (fun _ h => by cases h), rfl⟩
  | [x], h => by
    obtain ⟨ch, h1, rfl⟩ := h x (List.mem_cons_self ..)
    refine ⟨rfl, fun c hc => ?_, rfl⟩
    have : c = ch := by simpa [joinL'] using hc
    rw [this]
    exact h1
  | x :: y :: r, h => by
    obtain ⟨ch, h1, rfl⟩ := h x (List.mem_cons_self ..)
    obtain ⟨k1, k2, k3⟩ := join1 (xs := y :: r) fun t ht => h t (List.mem_cons_of_mem _ ht)
    have e : joinL' [] ((⟨[ch]⟩ : Txt) :: y :: r) = ch :: joinL' [] (y :: r) := rfl
    refine ⟨by rw [e, List.length_cons, k1]; rfl, fun c hc => ?_, ?_⟩
    · rw [e] at hc
      rcases List.mem_cons.mp hc with q | q
      · rw [q]
        exact h1
      · exact k2 c q
    · rw [List.map_cons, List.sum_cons, k3]
      show 1 + (y :: r).length = (y :: r).length + 1
      omega
theorem wp_join1 {S : List Nat} {xs : List Txt} {Qk : Txt → Prop} (h : ∀ t ∈ xs, ∃ ch ∈ S, t = ⟨[ch]⟩) (hl : xs.length < 1000000) (q : ∀ w : Txt, w.cs.length = xs.length → (∀ ch ∈ w.cs, ch ∈ S) → Qk w) : WP (joinM (Txt.mk []) xs) Qk Qx := by
  obtain ⟨k1, k2, k3⟩ := join1 h
  unfold joinM
  refine wp_chk_i (decide_eq_true ?_) (q _ k1 k2)
  rw [k3]
  show xs.length + xs.length * 0 ≤ LIM
  unfold LIM
  omega
end
structure PoolOk (p : List Int) : Prop where
  lo : 301 ≤ p.length
  hi : p.length ≤ 5001
  all : ∀ x ∈ p, 0 ≤ x ∧ x < 6000
theorem stream_spec {ns : List Int} (h : ns.length ≤ 63) : WP (_law_stream ⟨ns⟩) PoolOk NoE := by
  unfold _law_stream _law_stream_b
  refine wp_finR (wp_bind_i (wp_bind_i (wp_chk_i (by decide) (wp_ok_i ?_))))
  refine wp_then (pool_spec h) ?_
  rintro r ⟨h1, h2, h3⟩
  refine wp_chk_i (decide_eq_true (by show 1 + r.length < LIM; unfold LIM; omega)) ?_
  refine ⟨?_, ?_, fun x hx => ?_⟩
  · show 301 ≤ ([0] ++ r).length
    rw [List.length_append]
    show 301 ≤ 1 + r.length
    omega
  · show ([0] ++ r).length ≤ 5001
    rw [List.length_append]
    show 1 + r.length ≤ 5001
    omega
  · rcases List.mem_append.mp hx with q | q
    · rw [List.mem_singleton.mp q]
      omega
    · have := h3 x q
      omega
theorem pick_spec {p : List Int} (h : PoolOk p) {m : Int} (hm : 0 < m) : WP (_law_pick p m) (fun r => PoolOk r.1 ∧ 0 ≤ r.2 ∧ r.2 < m) NoE := by
  obtain ⟨h1, h2, h3⟩ := h
  cases p with
  | nil => exact absurd h1 (by decide)
  | cons a rest =>
  have hl : (a :: rest).length = rest.length + 1 := rfl
  have ha := h3 a (List.mem_cons_self ..)
  have hb : 0 < ((((a :: rest).length : Nat) : Int) - 1) := by omega
  have m1 := Int.emod_nonneg a (show ((((a :: rest).length : Nat) : Int) - 1) ≠ 0 by omega)
  have m2 := Int.emod_lt_of_pos a hb
  unfold _law_pick _law_pick_b
  refine wp_finIO ?_
  refine wp_bind_i (wp_bind_i (wp_bind_i (wp_bind_i (wp_getL_i (a := a) (by decide) rfl ?_))))
  refine wp_ok_i (wp_chk_i (pos_c hb) (wp_ok_i (wp_ok_i ?_)))
  refine wp_bind_i (wp_ok_i (wp_bind_i (wp_setL_i (by decide) (by omega) ?_)))
  have hset : (a :: rest).set (0 : Int).toNat (1 + a % ((((a :: rest).length : Nat) : Int) - 1)) = (1 + a % ((((a :: rest).length : Nat) : Int) - 1)) :: rest := rfl
  rw [hset]
  generalize hz : a % ((((a :: rest).length : Nat) : Int) - 1) = z at m1 m2
  refine wp_bind_i (wp_bind_i (wp_bind_i (wp_bind_i (wp_getL_i (a := 1 + z) (by decide) rfl ?_))))
  have hx : (1 + z).toNat < ((1 + z) :: rest).length := by
    show (1 + z).toNat < rest.length + 1
    omega
  refine wp_getL_i (by omega) (List.getElem?_eq_getElem hx) ?_
  generalize (((1 + z) :: rest)[(1 + z).toNat]'hx) = y
  refine wp_ok_i (wp_chk_i (pos_c hm) (wp_ok_i (wp_ok_i ?_)))
  refine ⟨⟨?_, ?_, fun x hx => ?_⟩, Int.emod_nonneg _ (by omega), Int.emod_lt_of_pos _ hm⟩
  · show 301 ≤ rest.length + 1
    omega
  · show rest.length + 1 ≤ 5001
    omega
  · rcases List.mem_cons.mp hx with q | q
    · rw [q]
      omega
    · exact h3 x (List.mem_cons_of_mem _ q)
theorem letters_spec {p : List Int} (h : PoolOk p) {most : Int} (hm : 0 < most ∧ most ≤ 60) : WP (_law_letters p most) (fun r => PoolOk r.1 ∧ 1 ≤ r.2.cs.length ∧ (r.2.cs.length : Int) ≤ most) NoE := by
  unfold _law_letters _law_letters_b
  refine wp_finIO (wp_bind_i (wp_bind_i ?_))
  refine wp_noX_i ((pick_spec h hm.1).imp ?_ fun _ _ x => x)
  rintro ⟨p1, m⟩ ⟨k1, k2, k3⟩
  dsimp only at k1 k2 k3 ⊢
  refine wp_ok_i (wp_bind_i (wp_ok_i ?_))
  refine wp_bind_i (wp_bind_i (wp_noX_i ((pick_spec k1 (m := 26) (by decide)).imp ?_ fun _ _ x => x)))
  rintro ⟨p2, at_⟩ ⟨l1, l2, l3⟩
  dsimp only at l1 l2 l3 ⊢
  refine wp_bind_i (wp_bind_i (wp_bind_i (wp_chk_i (by decide) (wp_ok_i (wp_ok_i ?_)))))
  refine wp_bind_i (wp_noX_i ((pick_spec l1 (m := 6) (by decide)).imp ?_ fun _ _ x => x))
  rintro ⟨p3, st⟩ ⟨n1, n2, n3⟩
  dsimp only at n1 n2 n3 ⊢
  have hst : st.toNat < ([1, 3, 5, 7, 9, 11] : List Int).length := by show st.toNat < 6; omega
  refine wp_bind_i (wp_getL_i n2 (List.getElem?_eq_getElem hst) (wp_ok_i (wp_ok_i ?_)))
  generalize (([1, 3, 5, 7, 9, 11] : List Int)[st.toNat]'hst) = step
  dsimp only
  refine wp_bind_i (wp_bind_i (wp_bind_i (wp_chk_i (rngB_c (by omega)) (wp_ok_i ?_))))
  refine wp_lcP (P := fun _ (t : Txt) => ∃ ch ∈ [97, 98, 99, 100, 101, 102, 103, 104, 105, 106, 107, 108, 109, 110, 111, 112, 113, 114, 115, 116, 117, 118, 119, 120, 121, 122], t = ⟨[ch]⟩) (fun x hx => ?_) ?_
  · obtain ⟨x1, x2⟩ := mem_rng.mp hx
    refine wp_bind_i (wp_bind_i (wp_bind_i (wp_bind_i (wp_chk_i (cmul_c (by omega)) (wp_ok_i (wp_ok_i (wp_ok_i (wp_chk_i (pos_c (by decide)) (wp_ok_i ?_)))))))))
    exact wp_getT_i (by decide) (Int.emod_nonneg _ (by decide)) (Int.emod_lt_of_pos _ (by decide)) fun ch hc => ⟨ch, hc, rfl⟩
  · intro ys e1 e2
    rw [rng_len] at e1
    refine wp_join1 (S := [97, 98, 99, 100, 101, 102, 103, 104, 105, 106, 107, 108, 109, 110, 111, 112, 113, 114, 115, 116, 117, 118, 119, 120, 121, 122]) (fun t ht => by obtain ⟨_, _, q⟩ := e2 t ht; exact q) (by omega) fun w w1 w2 => ?_
    refine wp_ok_i ⟨n1, ?_, ?_⟩
    · show 1 ≤ w.cs.length
      omega
    · show (w.cs.length : Int) ≤ most
      omega
end HW

set_option Elab.async false
set_option linter.all false
set_option maxRecDepth 100000
set_option autoImplicit false
namespace HW
open L2
/-- a machine that the law draws -/
structure MOk (L : Nat) (m : List (List Int) × List Bool) : Prop where
  mch : Mch m.1.length L m.1
  ends : m.2.length = m.1.length
  pos : 0 < m.1.length
  le : m.1.length ≤ 7
theorem machine_spec {p : List Int} (h : PoolOk p) {letters : Txt} (hL : letters.cs.length ≤ 100) {most : Int} (hm : 0 < most ∧ most ≤ 7) : WP (_law_machine p letters most) (fun r => PoolOk r.1 ∧ MOk letters.cs.length r.2) NoE := by
  unfold _law_machine _law_machine_b
  refine wp_finIO (wp_bind_i (wp_bind_i ?_))
  refine wp_noX_i ((pick_spec h hm.1).imp ?_ fun _ _ x => x)
  rintro ⟨p1, m⟩ ⟨k1, k2, k3⟩
  dsimp only at k1 k2 k3 ⊢
  refine wp_ok_i (wp_bind_i (wp_bind_i (wp_bind_i (wp_chk_i (rngB_c (by omega)) (wp_ok_i (wp_ok_i ?_))))))
  dsimp only
  refine wp_lcX (I := PoolOk) (P := fun _ (row : List Int) => row.length = letters.cs.length ∧ ∀ y ∈ row, St (1 + m).toNat y) k1 (fun s x hx hs => ?_) ?_
  · refine wp_bind_i (wp_bind_i (wp_chk_i (decide_eq_true (by unfold LIM; omega)) (wp_ok_i (wp_ok_i ?_))))
    dsimp only
    refine wp_lcX (I := PoolOk) (P := fun _ (y : Int) => St (1 + m).toNat y) hs (fun s x hx hs => ?_) ?_
    · refine wp_noX_i ((pick_spec hs (by omega)).imp ?_ fun _ _ x => x)
      rintro ⟨q, y⟩ ⟨n1, n2, n3⟩
      exact ⟨n1, n2, by show y < (((1 + m).toNat : Nat) : Int); have n3 : y < 1 + m := n3; omega⟩
    · intro s' ys e1 e2 e3
      refine ⟨e1, ?_, fun y hy => ?_⟩
      · show ys.length = _
        rw [e2]
        simp [signs]
      · obtain ⟨_, _, q⟩ := e3 y hy
        exact q
  · intro s' rows e1 e2 e3
    rw [rng_len] at e2
    refine wp_bind_i (wp_bind_i (wp_bind_i (wp_bind_i (wp_chk_i (rngB_c (by omega)) (wp_ok_i (wp_ok_i ?_))))))
    dsimp only
    refine wp_lcX (I := PoolOk) (P := fun _ (_ : Bool) => True) e1 (fun s x hx hs => ?_) ?_
    · refine wp_bind_i (wp_noX_i ((pick_spec hs (m := 3) (by decide)).imp ?_ fun _ _ x => x))
      rintro ⟨q, y⟩ ⟨n1, n2, n3⟩
      exact wp_ok_i ⟨n1, trivial⟩
    · intro s2 es f1 f2 _
      rw [rng_len] at f2
      refine wp_ok_i (wp_ok_i ⟨f1, ⟨?_, ?_, ?_, ?_⟩⟩)
      · refine ⟨rfl, fun r hr => ?_⟩
        obtain ⟨_, _, q1, q2⟩ := e3 r hr
        refine ⟨q1, fun x hx => ?_⟩
        have := q2 x hx
        have el : rows.length = (1 + m).toNat := by omega
        show St rows.length x
        rw [el]
        exact this
      · show es.length = rows.length
        omega
      · show 0 < rows.length
        omega
      · show rows.length ≤ 7
        omega
theorem lively_spec {p : List Int} (h : PoolOk p) {letters : Txt} (hL : letters.cs.length ≤ 100) (hL1 : 1 ≤ letters.cs.length) : WP (_law_lively p letters) (fun r => PoolOk r.1 ∧ MOk letters.cs.length r.2) NoE := by
  unfold _law_lively _law_lively_b
  refine wp_finIO (wp_bind_i (wp_bind_i ?_))
  refine wp_noX_i ((pick_spec h (m := 5) (by decide)).imp ?_ fun _ _ x => x)
  rintro ⟨p1, m⟩ ⟨k1, k2, k3⟩
  dsimp only at k1 k2 k3 ⊢
  refine wp_ok_i (wp_bind_i (wp_ok_i ?_))
  refine wp_bind_i (wp_chk_i (rngB_c (by omega)) (wp_ok_i ?_))
  refine wp_bindF_i ?_
  refine wpi_forF (fun i (z : List (List Int)) => z.length = i ∧ ∀ r ∈ z, r.length = letters.cs.length ∧ ∀ y ∈ r, St (3 + m).toNat y)
    (Qb := fun z => z.length = (3 + m).toNat ∧ ∀ r ∈ z, r.length = letters.cs.length ∧ ∀ y ∈ r, St (3 + m).toNat y) (Qr := fun _ => False) ⟨rfl, fun _ h => nomatch h⟩ ?_ ?_ ?_ (fun _ h => h.elim)
  · rintro i x rows hx ⟨h1, h2⟩
    obtain ⟨f1, f2, f3⟩ := rng_get hx
    have ex : x = (i : Int) := by omega
    refine wp_bind_i (wp_bind_i (wp_bind_i (wp_chk_i (pos_c (by omega)) (wp_ok_i (wp_ok_i (wp_chk_i (decide_eq_true (by show 1 < LIM; unfold LIM; omega)) (wp_ok_i ?_)))))))
    refine wp_bind_i (wp_bind_i (wp_chk_i (decide_eq_true (by unfold LIM; omega)) (wp_ok_i (wp_chk_i (rngB_c (by omega)) (wp_ok_i ?_)))))
    refine wp_bindF_i ?_
    have hx0 : St (3 + m).toNat x := ⟨f2, by omega⟩
    have hz0 : St (3 + m).toNat 0 := ⟨by decide, by omega⟩
    have ho0 : St (3 + m).toNat 1 := ⟨by decide, by omega⟩
    have hm0 : St (3 + m).toNat ((x + 1) % (3 + m)) := ⟨Int.emod_nonneg _ (by omega), by have := Int.emod_lt_of_pos (x + 1) (show 0 < 3 + m by omega); omega⟩
    refine wpi_forF (fun j (z : List Int) => z.length = 1 + j ∧ ∀ y ∈ z, St (3 + m).toNat y) (Qb := fun z => z.length = letters.cs.length ∧ ∀ y ∈ z, St (3 + m).toNat y) (Qr := fun _ => False) ⟨rfl, fun y hy => ?_⟩ ?_ ?_ ?_ (fun _ h => h.elim)
    · rw [List.mem_singleton.mp hy]
      exact hm0
    · rintro j y row hy ⟨g1, g2⟩
      obtain ⟨b1, b2, b3⟩ := rng_get hy
      have hE : ∀ {Qk : Int → Prop}, (∀ z, St (3 + m).toNat z → Qk z) → WP (if (decide (x < (2 : Int))) = true then (M.bind (chk (decide ((((1 : Int) :: ((0 : Int) :: ([] : (List Int))))).length < LIM)) (.ok ((1 : Int) :: ((0 : Int) :: ([] : (List Int)))))) fun z474 => (getL z474 x)) else (.ok x)) Qk NoE := by
        intro Qk q
        by_cases hx2 : x < 2
        · rw [if_pos (decide_eq_true hx2)]
          refine wp_bind_i (wp_chk_i (by decide) (wp_ok_i ?_))
          have : x = 0 ∨ x = 1 := by omega
          rcases this with e | e
          · rw [e]
            exact wp_getL_i (a := 1) (by decide) rfl (q _ ho0)
          · rw [e]
            exact wp_getL_i (a := 0) (by decide) rfl (q _ hz0)
        · rw [if_neg (by rw [decide_eq_false hx2]; decide)]
          exact q _ hx0
      refine wp_bind_i (wp_bind_i (wp_bind_i (wp_bind_i (wp_bind_i (hE fun z1 hz1 => ?_)))))
      refine wp_bind_i (wp_bind_i ?_)
      have hE2 : ∀ {Qk : Int → Prop}, (∀ z, St (3 + m).toNat z → Qk z) → WP (if (eqD x (1 : Int)) = true then (.ok (0 : Int)) else (.ok x)) Qk NoE := by
        intro Qk q
        cases eqD x (1 : Int)
        · exact q _ hx0
        · exact q _ hz0
      refine hE2 fun z2 hz2 => ?_
      refine wp_ok_i (wp_ok_i (wp_ok_i (wp_chk_i (by show decide (3 < LIM) = true; decide) (wp_ok_i ?_))))
      have hc : (if y < (2 : Int) then y else (2 : Int)) = 1 ∨ (if y < (2 : Int) then y else (2 : Int)) = 2 := by
        split <;> omega
      have hz : ∃ a, St (3 + m).toNat a ∧ getL [x, z1, z2] (if y < (2 : Int) then y else (2 : Int)) = .ok a := by
        rcases hc with e | e
        · exact ⟨z1, hz1, by rw [e]; rfl⟩
        · exact ⟨z2, hz2, by rw [e]; rfl⟩
      obtain ⟨a, ha, e⟩ := hz
      rw [e]
      refine wp_ok_i (wp_chk_i (decide_eq_true (by unfold LIM; omega)) ⟨?_, fun z hz => ?_⟩)
      · rw [List.length_append, g1]
        show 1 + j + 1 = _
        omega
      · rcases List.mem_append.mp hz with q | q
        · exact g2 z q
        · rw [List.mem_singleton.mp q]
          exact ha
    · rintro row ⟨g1, g2⟩
      rw [rng_len] at g1
      exact ⟨by omega, g2⟩
    · rintro row ⟨g1, g2⟩
      refine wp_bind_i (wp_ok_i (wp_chk_i (decide_eq_true (by unfold LIM; omega)) ⟨?_, fun r hr => ?_⟩))
      · rw [List.length_append, h1]
        rfl
      · rcases List.mem_append.mp hr with q | q
        · exact h2 r q
        · rw [List.mem_singleton.mp q]
          exact ⟨g1, g2⟩
  · rintro rows ⟨h1, h2⟩
    rw [rng_len] at h1
    exact ⟨by omega, h2⟩
  · rintro rows ⟨h1, h2⟩
    refine wp_bind_i (wp_bind_i (wp_bind_i (wp_chk_i (rngB_c (by omega)) (wp_ok_i ?_))))
    refine wp_lcP (P := fun _ _ => True) (fun x hx => trivial) ?_
    intro es e1 _
    rw [rng_len] at e1
    refine wp_ok_i (wp_ok_i ⟨k1, ⟨?_, ?_, ?_, ?_⟩⟩)
    · refine ⟨rfl, fun r hr => ?_⟩
      obtain ⟨q1, q2⟩ := h2 r hr
      refine ⟨q1, fun y hy => ?_⟩
      have := q2 y hy
      show St rows.length y
      rw [h1]
      exact this
    · show es.length = rows.length
      omega
    · show 0 < rows.length
      omega
    · show rows.length ≤ 7
      omega
end HW

set_option Elab.async false
set_option linter.all false
set_option maxRecDepth 100000
set_option autoImplicit false
namespace HW
open L2
section
variable {Qx : String → List D → Prop}
theorem wp_tryM {N B R : Type} {mb : M (Fl N B R)} {pick : String → Option (M (Fl N B R))} {Qk : Fl N B R → Prop} (h : WP mb Qk (fun n _ => match pick n with | some m => WP m Qk Qx | none => False)) : WP (tryM mb pick) Qk Qx := by
  cases mb with
  | ok f => exact h
  | error e =>
    cases e with
    | stuck => exact h
    | exc n p =>
      have h' : match pick n with | some m => WP m Qk Qx | none => False := h
      unfold tryM
      dsimp only
      cases hp : pick n with
      | none =>
        rw [hp] at h'
        exact h'.elim
      | some m =>
        rw [hp] at h'
        exact h'
theorem wp_thenF {N N' B R : Type} {m : M (Fl N B R)} {k : N → M (Fl N' B R)} {P : N → Prop} {Qk : Fl N' B R → Prop} (h : WP m (fun f => match f with | .nx n => P n | _ => False) Qx) (hk : ∀ n, P n → WP (k n) Qk Qx) : WP (bindF m k) Qk Qx :=
  wp_bindF_i (h.imp (fun f hf => by
    cases f with
    | nx n => exact hk n hf
    | bk b => exact hf.elim
    | ct b => exact hf.elim
    | rt r => exact hf.elim) fun _ _ x => x)
end
abbrev many : Txt := Txt.mk [109, 97, 110, 121]
/-- all the turnings, no more than 2000 -/
abbrev AllOf (L : Nat) (t : List (List Int)) (rows : List (List Int)) : Prop := rows.map Tp.mk = allRows t t.length L 2000 ∧ ∀ k, (allRows t t.length L k).length ≤ 2000
abbrev Beyond (L : Nat) (t : List (List Int)) : Prop := ∃ k, 2000 < (allRows t t.length L k).length
section
variable {L : Nat} {table : List (List Int)} {ends : List Bool} {letters : Txt} {v : Int → Int}
abbrev Parts (table : List (List Int)) (ends : List Bool) (v : Int → Int) : Prop := ∀ s ∈ found table table.length, ∀ t ∈ found table table.length, v s = v t ↔ Alike (rowOf table) (sameEnd ends) table.length s t
abbrev miniM (table : List (List Int)) (ends : List Bool) (v : Int → Int) : List (List Int) × List Bool := mini table ends (found table table.length) v
theorem mini_same {w : Int → Int} (m : MOk L (table, ends)) (hv : Parts table ends v) (hw : Parts table ends w) : miniM table ends w = miniM table ends v :=
  mini_congr (fun s hs t ht => bfs_closed (found_len m.mch m.pos _) hs ht) fun s hs t ht => (hw s hs t ht).trans (hv s hs t ht).symm
theorem mini_n (m : MOk L (table, ends)) : (reps v (found table table.length)).length = (miniM table ends v).1.length := (mini_mch (ends := ends) (v := v) m.mch m.pos).len.symm
theorem mini_m (m : MOk L (table, ends)) : Mch (miniM table ends v).1.length L (miniM table ends v).1 := by
  have mm := mini_mch (ends := ends) (v := v) m.mch m.pos
  rw [← mini_n m]
  exact mm
theorem mini_le7 (m : MOk L (table, ends)) : (miniM table ends v).1.length ≤ 7 := by
  rw [← mini_n m]
  exact Nat.le_trans (mini_le m.mch m.pos) m.le
theorem members2 (m : MOk L (table, ends)) (hL : letters.cs.length = L) (hL2 : L ≤ 1000) (hv : Parts table ends v) :
    WP (members letters (table, ends)) (fun r => AllOf L (miniM table ends v).1 r) (fun n _ => n = "TooMany" ∧ Beyond L (miniM table ends v).1) := by
  have le := m.le
  refine (members_spec m.mch m.ends m.pos (by have : table.length ≤ 7 := le; omega) hL hL2).imp (fun r hr => ?_) fun n p hx => ?_
  · obtain ⟨w, hw, h1, h2⟩ := hr
    rw [mini_n (ends := ends) (v := w) m] at h1 h2
    have e := mini_same m hv hw
    rw [show mini table ends (found table table.length) w = miniM table ends v from e] at h1 h2
    rw [show miniM table ends w = miniM table ends v from e] at h1 h2
    exact ⟨h1, h2⟩
  · obtain ⟨e1, _, w, hw, h1⟩ := hx
    rw [mini_n (ends := ends) (v := w) m] at h1
    have e := mini_same m hv hw
    rw [show mini table ends (found table table.length) w = miniM table ends v from e] at h1
    rw [show miniM table ends w = miniM table ends v from e] at h1
    exact ⟨e1, h1⟩
theorem not_both {t : List (List Int)} {r : List (List Int)} (h : AllOf L t r) (b : Beyond L t) : False := by
  obtain ⟨k, hk⟩ := b
  exact absurd (h.2 k) (Nat.not_le_of_lt hk)
theorem ring_many (m : MOk L (table, ends)) (hL : letters.cs.length = L) (hL2 : L ≤ 1000) (hv : Parts table ends v) (hb : Beyond L (miniM table ends v).1) : WP (ring_of letters (table, ends)) (fun _ => False) (fun n _ => n = "TooMany") := by
  unfold ring_of ring_of_b
  have le := m.le
  refine wp_finR (wp_bind_i (wp_bind_i (wp_bind_i ?_)))
  refine (least_spec m.mch m.ends m.pos (by have : table.length ≤ 7 := le; omega)).imp (fun r hr => ?_) fun _ _ x => x.elim
  obtain ⟨w, rfl, hw⟩ := hr
  rw [show mini table ends (found table table.length) w = miniM table ends v from mini_same m hv hw]
  refine wp_ok_i ((rows_met_spec (mini_m m) (by have := mini_le7 (v := v) m; omega) hL hL2).imp (fun rs hrs => ?_) fun n p hx => hx.1)
  obtain ⟨k, hk⟩ := hb
  exact absurd (hrs.2 k) (Nat.not_le_of_lt hk)
theorem rest_many (m : MOk L (table, ends)) (hL : letters.cs.length = L) (hL2 : L ≤ 1000) (hv : Parts table ends v) (hb : Beyond L (miniM table ends v).1) : WP (rest_paper letters (table, ends)) (fun _ => False) (fun n _ => n = "TooMany") := by
  unfold rest_paper rest_paper_b
  refine wp_finR (wp_bind_i ((members2 m hL hL2 hv).imp (fun r hr => ?_) fun n p hx => hx.1))
  exact (not_both hr hb).elim
/-- what is told where there are too many -/
theorem told_many (m : MOk L (table, ends)) (hL : letters.cs.length = L) (hL2 : L ≤ 1000) (hv : Parts table ends v) (hb : Beyond L (miniM table ends v).1) (which : Int) : WP (_law_told letters (table, ends) which) (fun r => r = Sum.inr many) NoE := by
  unfold _law_told _law_told_b
  refine wp_finR (wp_bindF_i (wp_tryM (wp_bind_i (wp_ok_i ?_))))
  cases eqD which (1 : Int) with
  | true =>
    rw [if_pos rfl]
    exact wp_bind_i ((ring_many m hL hL2 hv hb).imp (fun _ h => h.elim) fun n _ h => by
        rw [if_pos h]
        exact rfl)
  | false =>
    rw [if_neg (by decide)]
    refine wp_bind_i (wp_ok_i ?_)
    cases eqD which (2 : Int) with
    | true =>
      rw [if_pos rfl]
      exact wp_bind_i ((rest_many m hL hL2 hv hb).imp (fun _ h => h.elim) fun n _ h => by
        rw [if_pos h]
        exact rfl)
    | false =>
      rw [if_neg (by decide)]
      exact wp_bind_i ((members2 m hL hL2 hv).imp (fun r h => (not_both h hb).elim) fun n _ h => by
        have h := h.1
        rw [if_pos h]
        exact rfl)
theorem told_all {rows : List (List Int)} (m : MOk L (table, ends)) (hL : letters.cs.length = L) (hL2 : L ≤ 1000) (hv : Parts table ends v) (hr : AllOf L (miniM table ends v).1 rows) : WP (_law_told letters (table, ends) 0) (fun r => r = Sum.inl rows) NoE := by
  unfold _law_told _law_told_b
  refine wp_finR (wp_bindF_i (wp_tryM (wp_bind_i (wp_ok_i ?_))))
  rw [if_neg (by decide)]
  refine wp_bind_i (wp_ok_i ?_)
  rw [if_neg (by decide)]
  refine wp_bind_i ((members2 m hL hL2 hv).imp (fun r h => ?_) fun n _ h => (not_both hr h.2).elim)
  refine wp_ok_i ?_
  show Sum.inl r = Sum.inl rows
  have e : r.map Tp.mk = rows.map Tp.mk := by rw [h.1, hr.1]
  have inj : ∀ a b : List (List Int), a.map Tp.mk = b.map Tp.mk → a = b := fun a b q => by
    have := congrArg (List.map (fun t : Tp Int => t.xs)) q
    rw [List.map_map, List.map_map] at this
    have hid : ((fun t : Tp Int => t.xs) ∘ Tp.mk) = id := rfl
    rw [hid, List.map_id, List.map_id] at this
    exact this
  rw [inj _ _ e]
end
/-! ### sizes -/
theorem sh_row {n L : Nat} {r : List Int} (hn : n ≤ 7) (hl : r.length ≤ L) (h : ∀ x ∈ r, St n x) : Sh (enc r) (L * 5 + 2) 1 :=
  (Sh.list (n := 3) (k := 0) fun x hx => Sh.int (by have := h x hx; omega)).le (Nat.add_le_add_right (Nat.mul_le_mul_right 5 hl) 2) (Nat.le_refl _)
theorem sh_rows {n L B : Nat} {rows : List (List Int)} (hn : n ≤ 7) (hb : rows.length ≤ B) (hl : ∀ r ∈ rows, r.length ≤ L ∧ ∀ x ∈ r, St n x) : Sh (enc rows) (B * (L * 5 + 4) + 2) 2 :=
  (Sh.list (n := L * 5 + 2) (k := 1) fun r hr => sh_row hn (hl r hr).1 (hl r hr).2).le (Nat.add_le_add_right (Nat.mul_le_mul_right _ hb) 2) (Nat.le_refl _)
theorem sh_mach {L : Nat} {m : List (List Int) × List Bool} (h : MOk L m) (hL : L ≤ 3) : Sh (enc m) 1000 30 := by
  obtain ⟨table, ends⟩ := m
  have le : table.length ≤ 7 := h.le
  have he : ends.length = table.length := h.ends
  have h1 : Sh (enc table) (7 * (3 * 5 + 4) + 2) 2 := sh_rows le le fun r hr => ⟨by have := (h.mch.row r hr).1; omega, (h.mch.row r hr).2⟩
  have h2 : Sh (enc ends) (ends.length * (5 + 2) + 2) 1 := Sh.list (n := 5) (k := 0) fun b _ => Sh.bl
  exact (Sh.pair h1 (h2.le (Nat.le_refl _) (by decide : 1 ≤ 2))).le (by omega) (by decide)
section
variable {L : Nat} {table : List (List Int)} {ends : List Bool} {letters : Txt} {v : Int → Int}
/-- each turning has as many states -/
theorem rows_len {t : List (List Int)} {rows : List (List Int)} (h : AllOf L t rows) : ∀ r ∈ rows, r.length = t.length := fun r hr => by
  have := bfs_all (nx := nxT t L) (a := begin0 t.length) (P := fun u : Tp Int => u.xs.length = t.length) (by show (rng 0 (t.length : Int)).length = _; rw [rng_len]; omega) (fun u hu w hw => by
    obtain ⟨k, hk, rfl⟩ := List.mem_map.mp hw
    show (u.xs.map _).length = _
    rw [List.length_map]
    exact hu) 2000
  exact this (Tp.mk r) (by rw [show bfs (nxT t L) (begin0 t.length) 2000 = rows.map Tp.mk from h.1.symm]; exact List.mem_map_of_mem hr)
theorem rows_st {t : List (List Int)} {rows : List (List Int)} (m : Mch t.length L t) (h : AllOf L t rows) : ∀ r ∈ rows, ∀ x ∈ r, St t.length x := fun r hr => by
  have := allRows_st m 2000 (Tp.mk r) (by rw [← h.1]; exact List.mem_map_of_mem hr)
  exact this
theorem rows_most {t : List (List Int)} {rows : List (List Int)} (h : AllOf L t rows) : rows.length ≤ 2000 := by
  have := h.2 2000
  rw [← h.1, List.length_map] at this
  exact this
theorem rows_ne {t : List (List Int)} {rows : List (List Int)} (h : AllOf L t rows) : rows ≠ [] := fun e => by
  have h1 := h.1
  rw [e] at h1
  obtain ⟨u, hu⟩ := bfs_pre (nx := nxT t L) (a := begin0 t.length) 0 2000
  rw [Nat.zero_add] at hu
  rw [show bfs (nxT t L) (begin0 t.length) 2000 = [] from h1.symm] at hu
  cases hu
end
end HW

set_option Elab.async false
set_option linter.all false
set_option maxRecDepth 100000
set_option autoImplicit false
namespace HW
open L2
theorem many3 : PySem.PyData.eqv (pyD (enc ([Sum.inr many, Sum.inr many, Sum.inr many] : List ((List (List Int)) ⊕ Txt)))) (pyD (enc ([many, many, many] : List Txt))) = true := by decide +kernel
theorem law_true (ns : List Int) (h : ns.length ≤ 63) : law ⟨ns⟩ = .ok true := by
  refine wp_eq ?_
  unfold law law_b
  refine wp_finR (wp_then (stream_spec h) ?_)
  rintro pool hp
  refine wp_bind_i (wp_noX_i ((letters_spec hp (most := 3) (by decide)).imp ?_ fun _ _ x => x))
  rintro ⟨p1, letters⟩ ⟨h1, h2, h3⟩
  dsimp only at h1 h2 h3 ⊢
  refine wp_bind_i (wp_noX_i ((machine_spec h1 (by omega) (most := 5) (by decide)).imp ?_ fun _ _ x => x))
  rintro ⟨p2, mc⟩ ⟨h4, h5⟩
  dsimp only at h4 h5 ⊢
  refine wp_thenF (P := fun j => PoolOk j.1 ∧ MOk letters.cs.length j.2) ?_ ?_
  · refine wp_bind_i (wp_bind_i (wp_noX_i ((pick_spec h4 (m := 12) (by decide)).imp ?_ fun _ _ x => x)))
    rintro ⟨p3, x⟩ ⟨h6, _, _⟩
    refine wp_ok_i ?_
    dsimp only
    cases eqD x (11 : Int) with
    | true =>
      rw [if_pos rfl]
      refine wp_bind_i (wp_noX_i ((lively_spec h6 (by omega) h2).imp ?_ fun _ _ x => x))
      rintro ⟨p4, m4⟩ ⟨h7, h8⟩
      exact wp_ok_i ⟨h7, h8⟩
    | false =>
      rw [if_neg (by decide)]
      exact wp_ok_i ⟨h6, h5⟩
  rintro ⟨p4, ⟨table, ends⟩⟩ ⟨hp4, hm⟩
  dsimp only at hp4 hm ⊢
  have le : table.length ≤ 7 := hm.le
  refine wp_bind_i (wp_repr (sh_mach hm (by omega)) (by decide) ?_)
  refine wp_then (law_least_spec (table := table) (N := table.length) hm.mch hm.ends hm.pos (by omega) (by omega)) ?_
  rintro small ⟨v, rfl, hv⟩
  have hv : Parts table ends v := hv
  have mm := mini_m (v := v) hm
  have mle := mini_le7 (v := v) hm
  rw [show mini table ends (found table table.length) v = miniM table ends v from rfl]
  refine wp_bind_i (wp_chk_i (rngB_c (by decide)) (wp_ok_i ?_))
  refine wp_bindF_i ?_
  refine wpi_forF (fun _ p => PoolOk p) (Qb := PoolOk) (Qr := fun _ => False) hp4 ?_ (fun _ h => h) ?_ (fun _ h => h.elim)
  · rintro i x pl hx hpl
    obtain ⟨f1, f2, f3⟩ := rng_get hx
    have hxl : x.toNat < ([3, 8, 41] : List Int).length := by show x.toNat < 3; omega
    refine wp_bind_i (wp_bind_i (wp_bind_i (wp_bind_i (wp_bind_i (wp_bind_i (wp_chk_i (by decide) (wp_ok_i ?_)))))))
    refine wp_getL_i f2 (List.getElem?_eq_getElem hxl) ?_
    have ha : ([3, 8, 41] : List Int)[x.toNat]'hxl ∈ ([3, 8, 41] : List Int) := List.getElem_mem hxl
    generalize (([3, 8, 41] : List Int)[x.toNat]'hxl) = a at ha
    have ha' : 0 < a ∧ a ≤ 41 := by
      simp only [List.mem_cons, List.not_mem_nil, or_false] at ha
      omega
    refine wp_noX_i ((pick_spec hpl ha'.1).imp ?_ fun _ _ x => x)
    rintro ⟨p5, k⟩ ⟨q1, q2, q3⟩
    dsimp only at q1 q2 q3 ⊢
    refine wp_chk_i (rngB_c (by omega)) (wp_ok_i ?_)
    dsimp only
    refine wp_lcX (I := PoolOk) (P := fun _ t => ∃ ch ∈ letters.cs, t = ⟨[ch]⟩) q1 (fun s y hy hs => ?_) ?_
    · refine wp_bind_i (wp_bind_i (wp_chk_i (decide_eq_true (by unfold LIM; omega)) (wp_ok_i ?_)))
      refine wp_noX_i ((pick_spec hs (by omega)).imp ?_ fun _ _ x => x)
      rintro ⟨p6, j⟩ ⟨r1, r2, r3⟩
      dsimp only at r1 r2 r3 ⊢
      exact wp_bind_i (wp_getT_i (by unfold LIM; omega) r2 r3 fun ch hc => wp_ok_i ⟨r1, ch, hc, rfl⟩)
    intro p7 ts e1 e2 e3
    rw [rng_len] at e2
    dsimp only
    refine wp_bind_i (wp_join1 (S := letters.cs) (fun t ht => by obtain ⟨_, _, q⟩ := e3 t ht; exact q) (by omega) fun word w1 w2 => wp_ok_i ?_)
    dsimp only
    have wl : word.cs.length < LIM := by unfold LIM; omega
    refine wp_bind_i (wp_chk_i (rngB_c (by omega)) (wp_ok_i ?_))
    refine wp_bind_i (wp_chk_i (decide_eq_true wl) (wp_ok_i ?_))
    refine wp_bindF_i ?_
    refine wpi_forF (fun i z => z = (rng 0 ((miniM table ends v).1.length : Int)).map (runT (miniM table ends v).1 letters (word.cs.take i))) (Qb := fun z => z = (rng 0 ((miniM table ends v).1.length : Int)).map (runT (miniM table ends v).1 letters word.cs)) (Qr := fun _ => False) ?_ ?_ ?_ ?_ (fun _ h => h.elim)
    · show _ = List.map (runT (miniM table ends v).1 letters []) _
      exact (List.map_id _).symm
    · rintro i t z ht rfl
      unfold signs at ht
      rw [List.getElem?_map] at ht
      cases hc : word.cs[i]? with
      | none => rw [hc] at ht; cases ht
      | some ch =>
        rw [hc] at ht
        cases ht
        have hch := w2 ch (List.mem_of_getElem? hc)
        refine wp_bind_i (wp_lcM (g := fun s => cellAt (miniM table ends v).1 s (plc letters ch)) (fun s hs => ?_) (wp_ok_i ?_))
        · obtain ⟨s0, hs0, rfl⟩ := List.mem_map.mp hs
          have hst := runT_st mm rfl (word.cs.take i) (fun ch q => w2 ch (List.mem_of_mem_take q)) s0 (mem_rng.mp hs0)
          exact wp_bind_i (mm.get hst (wp_bind_i (wp_idxT hch (mm.cell hst (plc_lt hch) rfl))))
        · rw [List.map_map, take_snoc hc]
          refine List.map_congr_left fun s _ => ?_
          rw [runT_snoc]
          rfl
    · rintro z rfl
      simp [signs]
    · rintro z rfl
      refine wp_then (turning_spec (L := letters.cs.length) (table := table) (N := table.length) hm.mch hm.ends hm.pos (by omega) rfl w2 wl) ?_
      rintro r ⟨v', hv', rfl⟩
      have en := mini_n (ends := ends) (v := v') hm
      have es : miniM table ends v' = miniM table ends v := mini_same hm hv hv'
      rw [en, show mini table ends (found table table.length) v' = miniM table ends v from es, es]
      have hsh : Sh (enc ((rng 0 ((miniM table ends v).1.length : Int)).map (runT (miniM table ends v).1 letters word.cs))) (7 * 5 + 2) 1 := sh_row mle (by rw [List.length_map, rng_len]; omega) fun x hx => by
        obtain ⟨s0, hs0, rfl⟩ := List.mem_map.mp hx
        exact runT_st mm rfl word.cs w2 s0 (mem_rng.mp hs0)
      refine wp_bind_i (wp_bind_i (wp_bind_i (wp_bind_i (wp_ok_i (wp_ok_i (wp_ok_i ?_))))))
      rw [if_neg (by decide)]
      refine wp_bind_i (wp_repr (hsh.le (Nat.le_refl _) (by decide)) (by decide) ?_)
      refine wp_bind_i (wp_repr (hsh.le (Nat.le_refl _) (by decide)) (by decide) (wp_ok_i ?_))
      rw [eqD_true rfl, if_neg (by decide)]
      exact wp_ok_i e1
  · intro pl _
    refine wp_then (law_members_spec mm (by omega) rfl (by omega)) ?_
    rintro o (⟨rows, rfl, hr⟩ | ⟨rfl, hb⟩)
    · refine wp_bind_i (wp_ok_i ?_)
      rw [if_neg (show ¬ ((some rows).isNone = true) from Bool.false_ne_true)]
      have hr : AllOf letters.cs.length (miniM table ends v).1 rows := hr
      have hsh : Sh (enc rows) (2000 * (7 * 5 + 4) + 2) 2 := sh_rows mle (rows_most hr) fun r h => ⟨by rw [rows_len hr r h]; exact mle, rows_st mm hr r h⟩
      refine wp_bind_i (wp_chk_i (rngB_c (by decide)) (wp_ok_i ?_))
      refine wp_bindF_i ?_
      refine wpi_forF (fun _ _ => True) (Qb := fun _ => True) (Qr := fun _ => False) trivial ?_ (fun _ _ => trivial) ?_ (fun _ h => h.elim)
      · rintro i x ⟨⟩ hx _
        refine wp_then (told_all hm rfl (by omega) hv hr) ?_
        rintro t rfl
        refine wp_bind_i (wp_bind_i (wp_bind_i (wp_bind_i (wp_ok_i (wp_ok_i (wp_ok_i ?_))))))
        rw [if_neg (by decide)]
        refine wp_bind_i (wp_bind_i (wp_ok_i (wp_repr (hsh.le (Nat.le_refl _) (by decide)) (by decide) ?_)))
        refine wp_bind_i (wp_bind_i (wp_ok_i (wp_repr (hsh.le (Nat.le_refl _) (by decide)) (by decide) (wp_ok_i ?_))))
        rw [eqD_true rfl, if_neg (by decide)]
        dsimp only [leftO]
        have ne := rows_ne hr
        cases rows with
        | nil => exact absurd rfl ne
        | cons r0 rs =>
          have := rows_len hr r0 (List.mem_cons_self ..)
          refine wp_bind_i ?_
          unfold rowOk
          exact wp_chk_i (decide_eq_true (by rw [this]; unfold LIM; omega)) (wp_ok_i (wp_ok_i trivial))
      · rintro ⟨⟩ _
        refine wp_bind_i (wp_bind_i (wp_repr (sh_mach hm (by omega)) (by decide) (wp_ok_i ?_)))
        rw [eqD_true rfl]
        exact wp_ok_i rfl
    · refine wp_bind_i (wp_ok_i ?_)
      rw [if_pos (show (none : Option (List (List Int))).isNone = true from rfl)]
      refine wp_bind_i (wp_bind_i (wp_bind_i (wp_bind_i (wp_chk_i (rngB_c (by decide)) (wp_ok_i ?_)))))
      refine wp_lcM (g := fun _ => Sum.inr many) (fun x _ => told_many hm rfl (by omega) hv hb x) ?_
      refine wp_bind_i (wp_bind_i (wp_chk_i (by decide) (wp_ok_i (wp_chk_i (by decide) (wp_ok_i ?_)))))
      unfold eqE
      refine wp_chk_i (by decide +kernel) (wp_ok_i ?_)
      have e : PySem.PyData.eqv (pyD (enc ((rng 0 (3 : Int)).map fun _ => (Sum.inr many : (List (List Int)) ⊕ Txt)))) (pyD (enc (List.replicate (3 : Int).toNat [many]).flatten)) = true := many3
      rw [e, if_pos rfl]
      refine wp_bind_i (wp_repr (sh_mach hm (by omega)) (by decide) (wp_ok_i ?_))
      rw [eqD_true rfl]
      exact wp_ok_i rfl
end HW

set_option Elab.async false
set_option linter.all false
set_option maxRecDepth 100000
set_option maxHeartbeats 4000000
set_option autoImplicit false
namespace HW
open PySem L2 PyProof.Rows
def top (i : Nat) : Stmt := PySem.Challenge.pw_hallofwords_k77_turnings_and_members.main.body.getD i (.Pass ⟨0, 0, 0, 0⟩)
structure Bt (mg : Str → Option Value) : Prop where
  b_any : mg "any" = none
  b_enumerate : mg "enumerate" = none
  b_int : mg "int" = none
  b_isinstance : mg "isinstance" = none
  b_len : mg "len" = none
  b_list : mg "list" = none
  b_min : mg "min" = none
  b_range : mg "range" = none
  b_repr : mg "repr" = none
  b_set : mg "set" = none
  b_tuple : mg "tuple" = none
structure Glo (mg : Str → Option Value) : Prop where
  g_MOST_THINGS : ∃ t, mg "MOST_THINGS" = some (.int 2000 t)
structure Xcs (K : PySem.W.Frag) (mg : Str → Option Value) : Prop where
  c_HallError : ∃ C, mg "HallError" = some (.ref C) ∧ PySem.W.excIn K C [.type "ValueError", .type "Exception", .type "BaseException", .type "object"] "ValueError.__new__" = true ∧ PySem.W.keepIn K (.ref C) = true ∧ PySem.W.subIn K (.ref C) (.type "BaseException") = some true ∧ PySem.W.typeIn K (.ref C) = some (.type "type")
  c_TooMany : ∃ C, mg "TooMany" = some (.ref C) ∧ PySem.W.excIn K C [.type "ValueError", .type "Exception", .type "BaseException", .type "object"] "ValueError.__new__" = true ∧ PySem.W.keepIn K (.ref C) = true ∧ PySem.W.subIn K (.ref C) (.type "BaseException") = some true ∧ PySem.W.typeIn K (.ref C) = some (.type "type")
  e_TooMany_HallError : ∀ C D, mg "TooMany" = some (.ref C) → mg "HallError" = some (.ref D) → PySem.W.exmOne K (.ref C) (.ref D) = some true
  e_TooMany_TooMany : ∀ C D, mg "TooMany" = some (.ref C) → mg "TooMany" = some (.ref D) → PySem.W.exmOne K (.ref C) (.ref D) = some true

abbrev s_places_of : Stmt := top 4
abbrev N_places_of : List Str := ["letters", "word", "sign"]
theorem sc_places_of : FnScope N_places_of ["letters", "word"] (defScope s_places_of) := ⟨rfl, rfl, rfl, by decide +kernel, rfl, by decide +kernel, by decide +kernel⟩
theorem ok_places_of {K : Kx} {mg : Str → Option Value} {base : Heap} {f : Addr} {fd : FuncData} (F : Fun K.fr "places_of" "places_of" s_places_of f fd) (BT : Bt mg) (GL : Glo mg) (XC : Xcs K.fr mg)  :
    FnOk K.P K.w K.fr mg base (L2.CX K.P K.w) 1 f fd ["letters", "word"] (spM K mg .new (Rm2 places_of)) := by
  obtain ⟨t_MOST_THINGS, gm_MOST_THINGS⟩ := GL.g_MOST_THINGS
  refine fn_ok (N := N_places_of) (R := (List Int)) none (fun r h => nomatch h) F sc_places_of (by rintro ds m ⟨letters_0, word_1, rfl, _⟩; rfl) (by decide) (fun cdv A outer s H E c ds m hr hm hK hg hW => ?_)
  obtain ⟨letters_0, word_1, rfl, rfl⟩ := hm
  obtain ⟨cK, cmg, cF, cH, cG, cW⟩ := c
  cases (show K = cK from hK.symm); cases (show mg = cmg from hg.symm); cases hW
  have hu := hu_of hr
  have hu64 := hr.units
  have hu9 := Nat.lt_of_le_of_lt (Nat.add_le_add_left (by decide : 9 ≤ 64) _) hu64
  have hu16 := Nat.lt_of_le_of_lt (Nat.add_le_add_left (by decide : 16 ≤ 64) _) hu64
  have tk : Takes (cxOf (L2.CX K.P K.w) K.P K.w K.fr mg base N_places_of "places_of" (defScope s_places_of) f cdv A outer s H E) (fun cls d _ H => E cls d H) := takes_of rfl rfl rfl rfl
  refine ⟨_, places_of_b letters_0 word_1, (pss_cons (ps_ret (pe_lc (own := [("sign", 2)]) rfl sc_places_of.nd (pi_str (pv 1)) (blkOk_by (own := [("sign", 2)]) (N := N_places_of) (sc := defScope s_places_of) (by decide +kernel)) (fun _ _ _ _ _ => (pg_name (i := 2) sc_places_of.nd rfl (by first | exact Or.inl rfl | exact Or.inr rfl))) (fun _ _ _ _ _ => pts_nil) (fun _ _ _ _ _ => (pe_bmK K.fr PySem.F.plainAttrs_str PySem.F.slot_str_index PySem.F.type_str_index mt_sindexK (pv 0) (pa_cons (pv 2) pa_nil))))) pss_nil), rfl, (show StX _ _ _ [some (.dat (enc (letters_0 : Txt))), some (.dat (enc (word_1 : Txt))), none] _ _ _ _ from ?_)⟩
  unfold places_of_b
  exact s_ret (k := .new) (EvP.cv (m' := (M.bind (chk (decide ((word_1).cs.length < LIM)) (.ok (signs word_1))) fun z3 => (lcM (fun x2 => (idxT letters_0 x2)) z3))) (e_lc (it_str (v_dat (i := 1) (a := (word_1 : Txt)) rfl)) (tg_name (i := 2) (vs := [2]) (by simp)) (fun x2 => (EvP.cv (m' := (idxT letters_0 x2)) (e_bm (v_dat (i := 0) (a := (letters_0 : Txt)) rfl) (v_dat (i := 2) (a := (x2 : Txt)) rfl) ty_str o_sindex) (by simp only [M.bind_ok])))) (by simp only [M.bind_ok])) (fun a => a) (le_none rfl)

abbrev s_run_from : Stmt := top 6
abbrev N_run_from : List Str := ["letters", "machine", "state", "word", "place"]
theorem sc_run_from : FnScope N_run_from ["letters", "machine", "state", "word"] (defScope s_run_from) := ⟨rfl, rfl, rfl, by decide +kernel, rfl, by decide +kernel, by decide +kernel⟩
theorem ok_run_from {K : Kx} {mg : Str → Option Value} {base : Heap} {f : Addr} {fd : FuncData} (F : Fun K.fr "run_from" "run_from" s_run_from f fd) (BT : Bt mg) (GL : Glo mg) (XC : Xcs K.fr mg) (h_places_of : Fk K mg base "places_of" 1 ["letters", "word"] (spM K mg .new (Rm2 places_of))) :
    FnOk K.P K.w K.fr mg base (L2.CX K.P K.w) 2 f fd ["letters", "machine", "state", "word"] (spM K mg .dat (Rm4 run_from)) := by
  obtain ⟨f_places_of, fd_places_of, G_places_of, b_places_of, m_places_of, k_places_of⟩ := h_places_of.ex
  obtain ⟨t_MOST_THINGS, gm_MOST_THINGS⟩ := GL.g_MOST_THINGS
  refine fn_ok (N := N_run_from) (R := Int) none (fun r h => nomatch h) F sc_run_from (by rintro ds m ⟨letters_5, machine_6, state_7, word_8, rfl, _⟩; rfl) (by decide) (fun cdv A outer s H E c ds m hr hm hK hg hW => ?_)
  obtain ⟨letters_5, machine_6, state_7, word_8, rfl, rfl⟩ := hm
  obtain ⟨cK, cmg, cF, cH, cG, cW⟩ := c
  cases (show K = cK from hK.symm); cases (show mg = cmg from hg.symm); cases hW
  have hu := hu_of hr
  have hu64 := hr.units
  have hu9 := Nat.lt_of_le_of_lt (Nat.add_le_add_left (by decide : 9 ≤ 64) _) hu64
  have hu16 := Nat.lt_of_le_of_lt (Nat.add_le_add_left (by decide : 16 ≤ 64) _) hu64
  have tk : Takes (cxOf (L2.CX K.P K.w) K.P K.w K.fr mg base N_run_from "run_from" (defScope s_run_from) f cdv A outer s H E) (fun cls d _ H => E cls d H) := takes_of rfl rfl rfl rfl
  refine ⟨_, run_from_b letters_5 machine_6 state_7 word_8, (pss_cons (ps_for (passes_of rfl) rfl (pi_listK K.fr (pe_callS G_places_of (hr.mono (by decide)) rfl m_places_of k_places_of b_places_of (fun σ => passAt tk σ) (pa_cons (pv 0) (pa_cons (pv 3) pa_nil)))) (pg_name (i := 4) sc_run_from.nd rfl (by first | exact Or.inl rfl | exact Or.inr rfl)) (pss_cons (ps_set (i := 2) sc_run_from.nd rfl (by first | exact Or.inl rfl | exact Or.inr rfl) (pe_ix (ix_listK K.fr) (pe_ix (ix_listK K.fr) (pe_ix (ix_tupK K.fr) (pv 1) pe_int (fun _ _ => rfl)) (pv 2) (fun _ _ => rfl)) (pv 4) (fun _ _ => rfl))) pss_nil)) (pss_cons (ps_ret (pv 2)) pss_nil)), rfl, (show StX _ _ _ [some (.dat (enc (letters_5 : Txt))), some (.dat (enc (machine_6 : ((List (List Int)) × (List Bool))))), some (.dat (enc (state_7 : Int))), some (.dat (enc (word_8 : Txt))), none] _ _ _ _ from ?_)⟩
  unfold run_from_b
  refine s_for (vs := [4]) (ps := (fun s9 => [some (.dat (enc (letters_5 : Txt))), some (.dat (enc (machine_6 : ((List (List Int)) × (List Bool))))), some (.dat (enc (s9 : Int))), some (.dat (enc (word_8 : Txt))), none])) (EvIt.cv (m' := (places_of letters_5 word_8)) (it_list (EvP.froz (e_call2 (f := places_of) (v_dat (i := 0) (a := (letters_5 : Txt)) rfl) (v_dat (i := 3) (a := (word_8 : Txt)) rfl)))) (by simp only [M.bind_ok])) (tg_name (i := 4) (vs := [4]) (by simp)) (le_none rfl) (And.intro rfl (And.intro rfl (And.intro rfl (And.intro rfl True.intro)))) (fun F0' s9 x10 => (show StX _ _ _ [some (.dat (enc (letters_5 : Txt))), some (.dat (enc (machine_6 : ((List (List Int)) × (List Bool))))), some (.dat (enc (s9 : Int))), some (.dat (enc (word_8 : Txt))), some (.dat (enc (x10 : Int)))] _ _ _ _ from ?_)) (fun s9 => (show StX _ _ _ [some (.dat (enc (letters_5 : Txt))), some (.dat (enc (machine_6 : ((List (List Int)) × (List Bool))))), some (.dat (enc (s9 : Int))), some (.dat (enc (word_8 : Txt))), none] _ _ _ _ from ?_))
  · refine s_set (i := 2) (EvP.cv (m' := (M.bind (getL (machine_6).1 s9) fun z11 => (getL z11 x10))) (e_op (EvP.lookL (e_op (EvP.lookL (e_fst (v_dat (i := 1) (a := (machine_6 : ((List (List Int)) × (List Bool)))) rfl))) (v_dat (i := 2) (a := (s9 : Int)) rfl) o_ixL)) (v_dat (i := 4) (a := (x10 : Int)) rfl) o_ixL) (by simp only [M.bind_ok])) (le_none rfl) fun state_12 => (show StX _ _ _ [some (.dat (enc (letters_5 : Txt))), some (.dat (enc (machine_6 : ((List (List Int)) × (List Bool))))), some (.dat (enc (state_12 : Int))), some (.dat (enc (word_8 : Txt))), some (.dat (enc (x10 : Int)))] _ _ _ _ from ?_)
    exact s_nil (And.intro rfl (And.intro rfl (And.intro rfl (And.intro rfl True.intro))))
  · exact s_ret (k := .dat) (EvP.cv (m' := (.ok s9)) (v_dat (i := 2) (a := (s9 : Int)) rfl) (by simp only [M.bind_ok])) (fun a => a) (le_none rfl)

abbrev s_reached : Stmt := top 7
abbrev N_reached : List Str := ["table", "first", "found", "seen", "at", "target"]
theorem sc_reached : FnScope N_reached ["table", "first"] (defScope s_reached) := ⟨rfl, rfl, rfl, by decide +kernel, rfl, by decide +kernel, by decide +kernel⟩
theorem ok_reached {K : Kx} {mg : Str → Option Value} {base : Heap} {f : Addr} {fd : FuncData} (F : Fun K.fr "reached" "reached" s_reached f fd) (BT : Bt mg) (GL : Glo mg) (XC : Xcs K.fr mg)  :
    FnOk K.P K.w K.fr mg base (L2.CX K.P K.w) 1 f fd ["table", "first"] (spM K mg .new (Rm2 reached)) := by
  obtain ⟨t_MOST_THINGS, gm_MOST_THINGS⟩ := GL.g_MOST_THINGS
  refine fn_ok (N := N_reached) (R := (List Int)) none (fun r h => nomatch h) F sc_reached (by rintro ds m ⟨table_15, first_16, rfl, _⟩; rfl) (by decide) (fun cdv A outer s H E c ds m hr hm hK hg hW => ?_)
  obtain ⟨table_15, first_16, rfl, rfl⟩ := hm
  obtain ⟨cK, cmg, cF, cH, cG, cW⟩ := c
  cases (show K = cK from hK.symm); cases (show mg = cmg from hg.symm); cases hW
  have hu := hu_of hr
  have hu64 := hr.units
  have hu9 := Nat.lt_of_le_of_lt (Nat.add_le_add_left (by decide : 9 ≤ 64) _) hu64
  have hu16 := Nat.lt_of_le_of_lt (Nat.add_le_add_left (by decide : 16 ≤ 64) _) hu64
  have tk : Takes (cxOf (L2.CX K.P K.w) K.P K.w K.fr mg base N_reached "reached" (defScope s_reached) f cdv A outer s H E) (fun cls d _ H => E cls d H) := takes_of rfl rfl rfl rfl
  refine ⟨_, reached_b table_15 first_16, (pss_cons (ps_set (i := 2) sc_reached.nd rfl (by first | exact Or.inl rfl | exact Or.inr rfl) (pe_lst (pa_cons (pv 1) pa_nil))) (pss_cons (ps_set (i := 3) sc_reached.nd rfl (by first | exact Or.inl rfl | exact Or.inr rfl) (pe_disp (pps_cons (pv 1) pe_bl pps_nil) (by rfl) (by rfl) (fun z => by cases z) (by decide))) (pss_cons (ps_set (i := 4) sc_reached.nd rfl (by first | exact Or.inl rfl | exact Or.inr rfl) pe_int) (pss_cons (ps_while (passes_of rfl) (pt_cmpR op_lt (pv 4) (pe_callB (call_lenK K.fr) rfl BT.b_len PySem.boot_len (pa_cons (pv 2) pa_nil)) (nomark _)) (pss_cons (ps_for (passes_of rfl) rfl (pi_listK K.fr (pe_ix (ix_listK K.fr) (pv 0) (pe_ix (ix_listK K.fr) (pv 2) (pv 4) (fun _ _ => rfl)) (fun _ _ => rfl))) (pg_name (i := 5) sc_reached.nd rfl (by first | exact Or.inl rfl | exact Or.inr rfl)) (pss_cons (ps_if (pt_cmp (pc_dnotin hu (pv 5) (pv 3))) (pss_cons (ps_dput hu (pv 3) (pv 5) pe_bl rfl) (pss_cons (ps_expr (pe_bmK K.fr PySem.F.plainAttrs_list PySem.F.slot_list_append PySem.F.type_list_append mt_append (pv 2) (pa_cons (pv 5) pa_nil))) pss_nil)) pss_nil) pss_nil)) (pss_cons (ps_aug (i := 4) sc_reached.nd rfl (by first | exact Or.inl rfl | exact Or.inr rfl) pe_int ip_add) pss_nil))) (pss_cons (ps_ret (pv 2)) pss_nil))))), rfl, (show StX _ _ _ [some (.dat (enc (table_15 : (List (List Int))))), some (.dat (enc (first_16 : Int))), none, none, none, none] _ _ _ _ from ?_)⟩
  unfold reached_b
  refine s_own (i := 2) (EvP.cv (m' := (chk (decide (((first_16 :: ([] : (List Int)))).length < LIM)) (.ok (first_16 :: ([] : (List Int)))))) (e_lst (al_cons (v_dat (i := 1) (a := (first_16 : Int)) rfl) (al_nil (α := Int)))) (by simp only [M.bind_ok])) (le_none rfl) fun found_17 => (show StX _ _ _ [some (.dat (enc (table_15 : (List (List Int))))), some (.dat (enc (first_16 : Int))), some (.own true (enc (found_17 : (List Int)))), none, none, none] _ _ _ _ from ?_)
  refine s_own (i := 3) (EvP.cv (m' := (.ok (Dic.mk [(first_16, true)]))) (e_disp1 (v_dat (i := 1) (a := (first_16 : Int)) rfl) c_bl) (by simp only [M.bind_ok])) (le_none rfl) fun seen_18 => (show StX _ _ _ [some (.dat (enc (table_15 : (List (List Int))))), some (.dat (enc (first_16 : Int))), some (.own true (enc (found_17 : (List Int)))), some (.own true (enc (seen_18 : (Dic Int Bool)))), none, none] _ _ _ _ from ?_)
  refine s_set (i := 4) (EvP.cv (m' := (.ok (0 : Int))) (c_int (i := 0)) (by simp only [M.bind_ok])) (le_none rfl) fun at_19 => (show StX _ _ _ [some (.dat (enc (table_15 : (List (List Int))))), some (.dat (enc (first_16 : Int))), some (.own true (enc (found_17 : (List Int)))), some (.own true (enc (seen_18 : (Dic Int Bool)))), some (.dat (enc (at_19 : Int))), none] _ _ _ _ from ?_)
  refine s_while (ps := (fun s20 => [some (.dat (enc (table_15 : (List (List Int))))), some (.dat (enc (first_16 : Int))), some (.own true (enc (s20.1 : (List Int)))), some (.own true (enc (s20.2.1 : (Dic Int Bool)))), some (.dat (enc (s20.2.2 : Int))), none])) (And.intro rfl (And.intro rfl (And.intro rfl (And.intro rfl (And.intro rfl True.intro))))) (fun _ => (le_none rfl)) (fun s20 => EvT.cv (t_val (e_op (v_dat (i := 4) (a := (s20.2.2 : Int)) rfl) (e_cb1 (v_see (i := 2) (a := (s20.1 : (List Int))) rfl) (o_len rfl)) o_lt)) rfl) (fun s20 => (show StX _ _ _ [some (.dat (enc (table_15 : (List (List Int))))), some (.dat (enc (first_16 : Int))), some (.own true (enc (s20.1 : (List Int)))), some (.own true (enc (s20.2.1 : (Dic Int Bool)))), some (.dat (enc (s20.2.2 : Int))), none] _ _ _ _ from ?_)) (fun s20 => (show StX _ _ _ [some (.dat (enc (table_15 : (List (List Int))))), some (.dat (enc (first_16 : Int))), some (.own true (enc (s20.1 : (List Int)))), some (.own true (enc (s20.2.1 : (Dic Int Bool)))), some (.dat (enc (s20.2.2 : Int))), none] _ _ _ _ from ?_))
  · refine s_for (vs := [5]) (ps := (fun s22 => [some (.dat (enc (table_15 : (List (List Int))))), some (.dat (enc (first_16 : Int))), some (.own true (enc (s22.1 : (List Int)))), some (.own true (enc (s22.2 : (Dic Int Bool)))), some (.dat (enc (s20.2.2 : Int))), none])) (EvIt.cv (m' := (M.bind (getL s20.1 s20.2.2) fun z21 => (getL table_15 z21))) (it_list (e_op (EvP.lookL (v_dat (i := 0) (a := (table_15 : (List (List Int)))) rfl)) (e_op (v_see (i := 2) (a := (s20.1 : (List Int))) rfl) (v_dat (i := 4) (a := (s20.2.2 : Int)) rfl) o_ixL) o_ixL)) (by simp only [M.bind_ok])) (tg_name (i := 5) (vs := [5]) (by simp)) (le_none rfl) (And.intro rfl (And.intro rfl (And.intro rfl (And.intro rfl (And.intro rfl True.intro))))) (fun F0' s22 x23 => (show StX _ _ _ [some (.dat (enc (table_15 : (List (List Int))))), some (.dat (enc (first_16 : Int))), some (.own true (enc (s22.1 : (List Int)))), some (.own true (enc (s22.2 : (Dic Int Bool)))), some (.dat (enc (s20.2.2 : Int))), some (.dat (enc (x23 : Int)))] _ _ _ _ from ?_)) (fun s22 => (show StX _ _ _ [some (.dat (enc (table_15 : (List (List Int))))), some (.dat (enc (first_16 : Int))), some (.own true (enc (s22.1 : (List Int)))), some (.own true (enc (s22.2 : (Dic Int Bool)))), some (.dat (enc (s20.2.2 : Int))), none] _ _ _ _ from ?_))
    · refine s_ifM (N' := ((List Int) × (Dic Int Bool))) (pn' := (fun j28 => [some (.dat (enc (table_15 : (List (List Int))))), some (.dat (enc (first_16 : Int))), some (.own true (enc (j28.1 : (List Int)))), some (.own true (enc (j28.2 : (Dic Int Bool)))), some (.dat (enc (s20.2.2 : Int))), some (.dat (enc (x23 : Int)))])) (EvT.cv (m' := (.ok (!hasD s22.2 x23))) (t_B (e_dnin (v_dat (i := 5) (a := (x23 : Int)) rfl) (v_see (i := 3) (a := (s22.2 : (Dic Int Bool))) rfl))) (by simp only [M.bind_ok])) (le_none rfl) (show StX _ _ _ [some (.dat (enc (table_15 : (List (List Int))))), some (.dat (enc (first_16 : Int))), some (.own true (enc (s22.1 : (List Int)))), some (.own true (enc (s22.2 : (Dic Int Bool)))), some (.dat (enc (s20.2.2 : Int))), some (.dat (enc (x23 : Int)))] _ _ _ _ from ?_) (show StX _ _ _ [some (.dat (enc (table_15 : (List (List Int))))), some (.dat (enc (first_16 : Int))), some (.own true (enc (s22.1 : (List Int)))), some (.own true (enc (s22.2 : (Dic Int Bool)))), some (.dat (enc (s20.2.2 : Int))), some (.dat (enc (x23 : Int)))] _ _ _ _ from ?_) (fun j28 => (show StX _ _ _ [some (.dat (enc (table_15 : (List (List Int))))), some (.dat (enc (first_16 : Int))), some (.own true (enc (j28.1 : (List Int)))), some (.own true (enc (j28.2 : (Dic Int Bool)))), some (.dat (enc (s20.2.2 : Int))), some (.dat (enc (x23 : Int)))] _ _ _ _ from ?_))
      · refine s_dput (i := 3) (d := (s22.2 : (Dic Int Bool))) rfl (EvP.cv (m' := (.ok true)) c_bl (by simp only [M.bind_ok])) (EvP.cv (m' := (.ok x23)) (v_dat (i := 5) (a := (x23 : Int)) rfl) (by simp only [M.bind_ok])) (le_none rfl) fun a29 k30 => (show StX _ _ _ [some (.dat (enc (table_15 : (List (List Int))))), some (.dat (enc (first_16 : Int))), some (.own true (enc (s22.1 : (List Int)))), some (.own true (enc ((Dic.mk (pt (s22.2).kvs k30 a29)) : (Dic Int Bool)))), some (.dat (enc (s20.2.2 : Int))), some (.dat (enc (x23 : Int)))] _ _ _ _ from ?_)
        refine s_app (i := 2) (xs := (s22.1 : (List Int))) rfl (EvP.cv (m' := (.ok x23)) (v_dat (i := 5) (a := (x23 : Int)) rfl) (by simp only [M.bind_ok])) (le_none rfl) fun a31 => (show StX _ _ _ [some (.dat (enc (table_15 : (List (List Int))))), some (.dat (enc (first_16 : Int))), some (.own true (enc ((s22.1 ++ [a31]) : (List Int)))), some (.own true (enc ((Dic.mk (pt (s22.2).kvs k30 a29)) : (Dic Int Bool)))), some (.dat (enc (s20.2.2 : Int))), some (.dat (enc (x23 : Int)))] _ _ _ _ from ?_)
        exact s_nil (And.intro rfl (And.intro rfl (And.intro rfl (And.intro rfl (And.intro rfl (And.intro rfl True.intro))))))
      · exact s_nil (And.intro rfl (And.intro rfl (And.intro rfl (And.intro rfl (And.intro rfl (And.intro rfl True.intro))))))
      · exact s_nil (And.intro rfl (And.intro rfl (And.intro rfl (And.intro rfl (And.intro rfl True.intro)))))
    · refine s_aug (i := 4) (a := (s20.2.2 : Int)) rfl (EvP.cv (m' := (.ok (1 : Int))) (c_int (i := 1)) (by simp only [M.bind_ok])) (le_none rfl) fun b32 => (show StX _ _ _ [some (.dat (enc (table_15 : (List (List Int))))), some (.dat (enc (first_16 : Int))), some (.own true (enc (s22.1 : (List Int)))), some (.own true (enc (s22.2 : (Dic Int Bool)))), some (.dat (enc ((s20.2.2 + b32) : Int))), none] _ _ _ _ from ?_)
      exact s_nil (And.intro rfl (And.intro rfl (And.intro rfl (And.intro rfl (And.intro rfl True.intro)))))
  · exact s_retO (i := 2) (a := (s20.1 : (List Int))) rfl

abbrev s_classes_of : Stmt := top 8
abbrev N_classes_of : List Str := ["table", "ends", "states", "most", "classes", "many", "kinds", "later", "state", "kind", "target"]
theorem sc_classes_of : FnScope N_classes_of ["table", "ends", "states", "most"] (defScope s_classes_of) := ⟨rfl, rfl, rfl, by decide +kernel, rfl, by decide +kernel, by decide +kernel⟩
theorem ok_classes_of {K : Kx} {mg : Str → Option Value} {base : Heap} {f : Addr} {fd : FuncData} (F : Fun K.fr "classes_of" "classes_of" s_classes_of f fd) (BT : Bt mg) (GL : Glo mg) (XC : Xcs K.fr mg)  :
    FnOk K.P K.w K.fr mg base (L2.CX K.P K.w) 1 f fd ["table", "ends", "states", "most"] (spM K mg .dat (Rm4 classes_of)) := by
  obtain ⟨t_MOST_THINGS, gm_MOST_THINGS⟩ := GL.g_MOST_THINGS
  refine fn_ok (N := N_classes_of) (R := (Option (Dic Int Int))) none (fun r h => nomatch h) F sc_classes_of (by rintro ds m ⟨table_34, ends_35, states_36, most_37, rfl, _⟩; rfl) (by decide) (fun cdv A outer s H E c ds m hr hm hK hg hW => ?_)
  obtain ⟨table_34, ends_35, states_36, most_37, rfl, rfl⟩ := hm
  obtain ⟨cK, cmg, cF, cH, cG, cW⟩ := c
  cases (show K = cK from hK.symm); cases (show mg = cmg from hg.symm); cases hW
  have hu := hu_of hr
  have hu64 := hr.units
  have hu9 := Nat.lt_of_le_of_lt (Nat.add_le_add_left (by decide : 9 ≤ 64) _) hu64
  have hu16 := Nat.lt_of_le_of_lt (Nat.add_le_add_left (by decide : 16 ≤ 64) _) hu64
  have tk : Takes (cxOf (L2.CX K.P K.w) K.P K.w K.fr mg base N_classes_of "classes_of" (defScope s_classes_of) f cdv A outer s H E) (fun cls d _ H => E cls d H) := takes_of rfl rfl rfl rfl
  refine ⟨_, classes_of_b table_34 ends_35 states_36 most_37, (pss_cons (ps_set (i := 4) sc_classes_of.nd rfl (by first | exact Or.inl rfl | exact Or.inr rfl) (pe_dc (own := [("state", 8)]) rfl sc_classes_of.nd (pi_listK K.fr (pv 2)) (blkOk_by (own := [("state", 8)]) (N := N_classes_of) (sc := defScope s_classes_of) (by decide +kernel)) (fun _ _ _ _ _ => (pg_name (i := 8) sc_classes_of.nd rfl (by first | exact Or.inl rfl | exact Or.inr rfl))) (fun _ _ _ _ _ => pts_nil) (fun _ _ _ _ _ => (pv 8)) (fun _ _ _ _ _ => (pe_callTy call_intK rfl BT.b_int (by decide +kernel) (pa_cons (pe_ix (ix_listK K.fr) (pv 1) (pv 8) (fun _ _ => rfl)) pa_nil))))) (pss_cons (ps_set (i := 5) sc_classes_of.nd rfl (by first | exact Or.inl rfl | exact Or.inr rfl) (pe_lenSetL rfl BT.b_len rfl BT.b_set (pe_listVals rfl rfl BT.b_list (pv 4)))) (pss_cons (ps_while (passes_of rfl) (pt_cmpR op_le (pv 5) (pv 3) (nomark _)) (pss_cons (ps_set (i := 6) sc_classes_of.nd rfl (by first | exact Or.inl rfl | exact Or.inr rfl) pe_dnewN) (pss_cons (ps_set (i := 7) sc_classes_of.nd rfl (by first | exact Or.inl rfl | exact Or.inr rfl) pe_dnewK) (pss_cons (ps_for (passes_of rfl) rfl (pi_listK K.fr (pv 2)) (pg_name (i := 8) sc_classes_of.nd rfl (by first | exact Or.inl rfl | exact Or.inr rfl)) (pss_cons (ps_set (i := 9) sc_classes_of.nd rfl (by first | exact Or.inl rfl | exact Or.inr rfl) (pe_tup (pa_cons (pe_dget hu (pv 4) (pv 8) (fun _ _ => rfl)) (pa_cons (pe_callTy (call_tupleK K.fr) rfl BT.b_tuple (by decide +kernel) (pa_cons (pe_lc (own := [("target", 10)]) rfl sc_classes_of.nd (pi_listK K.fr (pe_ix (ix_listK K.fr) (pv 0) (pv 8) (fun _ _ => rfl))) (blkOk_by (own := [("target", 10)]) (N := N_classes_of) (sc := defScope s_classes_of) (by decide +kernel)) (fun _ _ _ _ _ => (pg_name (i := 10) sc_classes_of.nd rfl (by first | exact Or.inl rfl | exact Or.inr rfl))) (fun _ _ _ _ _ => pts_nil) (fun _ _ _ _ _ => (pe_dget hu (pv 4) (pv 10) (fun _ _ => rfl)))) pa_nil)) pa_nil)))) (pss_cons (ps_dput hu (pv 7) (pv 8) (pe_nsetd hu9 (pv 6) (pv 9) (pe_callB call_lenN rfl BT.b_len PySem.boot_len (pa_cons (pv 6) pa_nil)) ⟨rfl, rfl, rfl, rfl⟩) rfl) pss_nil))) (pss_cons (ps_if (pt_cmpR op_eq (pe_callB call_lenN rfl BT.b_len PySem.boot_len (pa_cons (pv 6) pa_nil)) (pv 5) (nomark _)) (pss_cons (ps_ret (pv 7)) pss_nil) pss_nil) (pss_cons (ps_set (i := 5) sc_classes_of.nd rfl (by first | exact Or.inl rfl | exact Or.inr rfl) (pe_callB call_lenN rfl BT.b_len PySem.boot_len (pa_cons (pv 6) pa_nil))) (pss_cons (ps_set (i := 4) sc_classes_of.nd rfl (by first | exact Or.inl rfl | exact Or.inr rfl) (pv 7)) pss_nil))))))) (pss_cons (ps_ret pe_non) pss_nil)))), rfl, (show StX _ _ _ [some (.dat (enc (table_34 : (List (List Int))))), some (.dat (enc (ends_35 : (List Bool)))), some (.dat (enc (states_36 : (List Int)))), some (.dat (enc (most_37 : Int))), none, none, none, none, none, none, none] _ _ _ _ from ?_)⟩
  unfold classes_of_b
  refine s_set (i := 4) (EvP.cv (m' := (dcM (fun x38 => (.ok x38)) (fun x38 => (M.bind (getL ends_35 x38) fun z39 => (.ok (if z39 then (1 : Int) else 0)))) states_36 [])) (EvP.froz (e_dc (it_list (v_dat (i := 2) (a := (states_36 : (List Int))) rfl)) (tg_name (i := 8) (vs := [8]) (by simp)) (fun x38 => (EvP.cv (m' := (.ok x38)) (v_dat (i := 8) (a := (x38 : Int)) rfl) (by simp only [M.bind_ok]))) (fun x38 => (EvP.cv (m' := (M.bind (getL ends_35 x38) fun z39 => (.ok (if z39 then (1 : Int) else 0)))) (e_cb1 (e_op (EvP.lookL (v_dat (i := 1) (a := (ends_35 : (List Bool))) rfl)) (v_dat (i := 8) (a := (x38 : Int)) rfl) o_ixL) o_intB) (by simp only [M.bind_ok]))))) (by simp only [M.bind_ok])) (le_none rfl) fun classes_40 => (show StX _ _ _ [some (.dat (enc (table_34 : (List (List Int))))), some (.dat (enc (ends_35 : (List Bool)))), some (.dat (enc (states_36 : (List Int)))), some (.dat (enc (most_37 : Int))), some (.dat (enc (classes_40 : (Dic Int Int)))), none, none, none, none, none, none] _ _ _ _ from ?_)
  refine s_set (i := 5) (EvP.cv (m' := (chk (decide ((((classes_40).kvs.map (·.2))).length ≤ 4000)) (.ok ((dedupI ((classes_40).kvs.map (·.2))).length : Int)))) (e_lenSet (EvP.look (e_listVals (EvP.lookD (v_dat (i := 4) (a := (classes_40 : (Dic Int Int))) rfl))))) (by simp only [M.bind_ok])) (le_none rfl) fun many_41 => (show StX _ _ _ [some (.dat (enc (table_34 : (List (List Int))))), some (.dat (enc (ends_35 : (List Bool)))), some (.dat (enc (states_36 : (List Int)))), some (.dat (enc (most_37 : Int))), some (.dat (enc (classes_40 : (Dic Int Int)))), some (.dat (enc (many_41 : Int))), none, none, none, none, none] _ _ _ _ from ?_)
  refine s_while (ps := (fun s42 => [some (.dat (enc (table_34 : (List (List Int))))), some (.dat (enc (ends_35 : (List Bool)))), some (.dat (enc (states_36 : (List Int)))), some (.dat (enc (most_37 : Int))), some (.dat (enc (s42.1 : (Dic Int Int)))), some (.dat (enc (s42.2 : Int))), none, none, none, none, none])) (And.intro rfl (And.intro rfl (And.intro rfl (And.intro rfl (And.intro rfl (And.intro rfl True.intro)))))) (fun _ => (le_none rfl)) (fun s42 => EvT.cv (t_val (e_op (v_dat (i := 5) (a := (s42.2 : Int)) rfl) (v_dat (i := 3) (a := (most_37 : Int)) rfl) o_le)) rfl) (fun s42 => (show StX _ _ _ [some (.dat (enc (table_34 : (List (List Int))))), some (.dat (enc (ends_35 : (List Bool)))), some (.dat (enc (states_36 : (List Int)))), some (.dat (enc (most_37 : Int))), some (.dat (enc (s42.1 : (Dic Int Int)))), some (.dat (enc (s42.2 : Int))), none, none, none, none, none] _ _ _ _ from ?_)) (fun s42 => (show StX _ _ _ [some (.dat (enc (table_34 : (List (List Int))))), some (.dat (enc (ends_35 : (List Bool)))), some (.dat (enc (states_36 : (List Int)))), some (.dat (enc (most_37 : Int))), some (.dat (enc (s42.1 : (Dic Int Int)))), some (.dat (enc (s42.2 : Int))), none, none, none, none, none] _ _ _ _ from ?_))
  · refine s_own (i := 6) (EvP.cv (m' := (.ok (DicN.mk [] : (DicN (Int × (Tp Int)) Int)))) (e_dict0N (κ := (Int × (Tp Int))) (α := Int)) (by simp only [M.bind_ok])) (le_none rfl) fun kinds_43 => (show StX _ _ _ [some (.dat (enc (table_34 : (List (List Int))))), some (.dat (enc (ends_35 : (List Bool)))), some (.dat (enc (states_36 : (List Int)))), some (.dat (enc (most_37 : Int))), some (.dat (enc (s42.1 : (Dic Int Int)))), some (.dat (enc (s42.2 : Int))), some (.own true (enc (kinds_43 : (DicN (Int × (Tp Int)) Int)))), none, none, none, none] _ _ _ _ from ?_)
    refine s_own (i := 7) (EvP.cv (m' := (.ok (Dic.mk [] : (Dic Int Int)))) (e_dict0 (α := Int) (β := Int)) (by simp only [M.bind_ok])) (le_none rfl) fun later_44 => (show StX _ _ _ [some (.dat (enc (table_34 : (List (List Int))))), some (.dat (enc (ends_35 : (List Bool)))), some (.dat (enc (states_36 : (List Int)))), some (.dat (enc (most_37 : Int))), some (.dat (enc (s42.1 : (Dic Int Int)))), some (.dat (enc (s42.2 : Int))), some (.own true (enc (kinds_43 : (DicN (Int × (Tp Int)) Int)))), some (.own true (enc (later_44 : (Dic Int Int)))), none, none, none] _ _ _ _ from ?_)
    refine s_for (vs := [8]) (ps := (fun s45 => [some (.dat (enc (table_34 : (List (List Int))))), some (.dat (enc (ends_35 : (List Bool)))), some (.dat (enc (states_36 : (List Int)))), some (.dat (enc (most_37 : Int))), some (.dat (enc (s42.1 : (Dic Int Int)))), some (.dat (enc (s42.2 : Int))), some (.own true (enc (s45.1 : (DicN (Int × (Tp Int)) Int)))), some (.own true (enc (s45.2 : (Dic Int Int)))), none, none, none])) (EvIt.cv (m' := (.ok states_36)) (it_list (v_dat (i := 2) (a := (states_36 : (List Int))) rfl)) (by simp only [M.bind_ok])) (tg_name (i := 8) (vs := [8]) (by simp)) (le_none rfl) (And.intro rfl (And.intro rfl (And.intro rfl (And.intro rfl (And.intro rfl (And.intro rfl (And.intro rfl (And.intro rfl True.intro)))))))) (fun F0' s45 x46 => (show StX _ _ _ [some (.dat (enc (table_34 : (List (List Int))))), some (.dat (enc (ends_35 : (List Bool)))), some (.dat (enc (states_36 : (List Int)))), some (.dat (enc (most_37 : Int))), some (.dat (enc (s42.1 : (Dic Int Int)))), some (.dat (enc (s42.2 : Int))), some (.own true (enc (s45.1 : (DicN (Int × (Tp Int)) Int)))), some (.own true (enc (s45.2 : (Dic Int Int)))), some (.dat (enc (x46 : Int))), none, none] _ _ _ _ from ?_)) (fun s45 => (show StX _ _ _ [some (.dat (enc (table_34 : (List (List Int))))), some (.dat (enc (ends_35 : (List Bool)))), some (.dat (enc (states_36 : (List Int)))), some (.dat (enc (most_37 : Int))), some (.dat (enc (s42.1 : (Dic Int Int)))), some (.dat (enc (s42.2 : Int))), some (.own true (enc (s45.1 : (DicN (Int × (Tp Int)) Int)))), some (.own true (enc (s45.2 : (Dic Int Int)))), none, none, none] _ _ _ _ from ?_))
    · refine s_set (i := 9) (EvP.cv (m' := (M.bind (getD s42.1 x46) fun z52 => (M.bind (M.bind (M.bind (getL table_34 x46) fun z50 => (lcM (fun x49 => (getD s42.1 x49)) z50)) fun z51 => (.ok (Tp.mk z51))) fun z53 => (.ok (z52, z53))))) (e_tup2 (e_dget (EvP.lookD (v_dat (i := 4) (a := (s42.1 : (Dic Int Int))) rfl)) (v_dat (i := 8) (a := (x46 : Int)) rfl)) (e_cb1 (EvP.look (e_lc (it_list (e_op (EvP.lookL (v_dat (i := 0) (a := (table_34 : (List (List Int)))) rfl)) (v_dat (i := 8) (a := (x46 : Int)) rfl) o_ixL)) (tg_name (i := 10) (vs := [10]) (by simp)) (fun x49 => (EvP.cv (m' := (getD s42.1 x49)) (e_dget (EvP.lookD (v_dat (i := 4) (a := (s42.1 : (Dic Int Int))) rfl)) (v_dat (i := 10) (a := (x49 : Int)) rfl)) (by simp only [M.bind_ok]))))) o_tuple)) (by simp only [M.bind_ok])) (le_none rfl) fun kind_54 => (show StX _ _ _ [some (.dat (enc (table_34 : (List (List Int))))), some (.dat (enc (ends_35 : (List Bool)))), some (.dat (enc (states_36 : (List Int)))), some (.dat (enc (most_37 : Int))), some (.dat (enc (s42.1 : (Dic Int Int)))), some (.dat (enc (s42.2 : Int))), some (.own true (enc (s45.1 : (DicN (Int × (Tp Int)) Int)))), some (.own true (enc (s45.2 : (Dic Int Int)))), some (.dat (enc (x46 : Int))), some (.dat (enc (kind_54 : (Int × (Tp Int))))), none] _ _ _ _ from ?_)
      refine s_dputX (i := 7) (mk := fun e55 => (.ok x46)) (d := (s45.2 : (Dic Int Int))) (x_cv (m' := (chk (decide ((s45.1).kvs.length < LIM)) (.ok (setdN s45.1 kind_54 ((s45.1).kvs.length : Int))))) (x_setd (j := 6) (post := (fun e55 => [some (.dat (enc (table_34 : (List (List Int))))), some (.dat (enc (ends_35 : (List Bool)))), some (.dat (enc (states_36 : (List Int)))), some (.dat (enc (most_37 : Int))), some (.dat (enc (s42.1 : (Dic Int Int)))), some (.dat (enc (s42.2 : Int))), some (.own true (enc (e55 : (DicN (Int × (Tp Int)) Int)))), some (.own true (enc (s45.2 : (Dic Int Int)))), some (.dat (enc (x46 : Int))), some (.dat (enc (kind_54 : (Int × (Tp Int))))), none])) (d := (s45.1 : (DicN (Int × (Tp Int)) Int))) rfl (v_dat (i := 9) (a := (kind_54 : (Int × (Tp Int)))) rfl) (e_cb1 (v_see (i := 6) (a := (s45.1 : (DicN (Int × (Tp Int)) Int))) rfl) o_lenN) (le_none rfl) (fun _ => rfl)) (by simp only [M.bind_ok])) (fun _ => rfl) (fun e55 => (EvP.cv (m' := (.ok x46)) (v_dat (i := 8) (a := (x46 : Int)) rfl) (by simp only [M.bind_ok]))) (fun _ => (le_none rfl)) fun a56 k57 => (show StX _ _ _ [some (.dat (enc (table_34 : (List (List Int))))), some (.dat (enc (ends_35 : (List Bool)))), some (.dat (enc (states_36 : (List Int)))), some (.dat (enc (most_37 : Int))), some (.dat (enc (s42.1 : (Dic Int Int)))), some (.dat (enc (s42.2 : Int))), some (.own true (enc (a56.1 : (DicN (Int × (Tp Int)) Int)))), some (.own true (enc ((Dic.mk (pt (s45.2).kvs k57 a56.2)) : (Dic Int Int)))), some (.dat (enc (x46 : Int))), some (.dat (enc (kind_54 : (Int × (Tp Int))))), none] _ _ _ _ from ?_)
      exact s_nil (And.intro rfl (And.intro rfl (And.intro rfl (And.intro rfl (And.intro rfl (And.intro rfl (And.intro rfl (And.intro rfl True.intro))))))))
    · refine s_ifD (EvT.cv (m' := (.ok (eqD ((s45.1).kvs.length : Int) s42.2))) (t_val (e_op (e_cb1 (v_see (i := 6) (a := (s45.1 : (DicN (Int × (Tp Int)) Int))) rfl) o_lenN) (v_dat (i := 5) (a := (s42.2 : Int)) rfl) o_eq)) (by simp only [M.bind_ok])) (le_none rfl) (show StX _ _ _ [some (.dat (enc (table_34 : (List (List Int))))), some (.dat (enc (ends_35 : (List Bool)))), some (.dat (enc (states_36 : (List Int)))), some (.dat (enc (most_37 : Int))), some (.dat (enc (s42.1 : (Dic Int Int)))), some (.dat (enc (s42.2 : Int))), some (.own true (enc (s45.1 : (DicN (Int × (Tp Int)) Int)))), some (.own true (enc (s45.2 : (Dic Int Int)))), none, none, none] _ _ _ _ from ?_) (show StX _ _ _ [some (.dat (enc (table_34 : (List (List Int))))), some (.dat (enc (ends_35 : (List Bool)))), some (.dat (enc (states_36 : (List Int)))), some (.dat (enc (most_37 : Int))), some (.dat (enc (s42.1 : (Dic Int Int)))), some (.dat (enc (s42.2 : Int))), some (.own true (enc (s45.1 : (DicN (Int × (Tp Int)) Int)))), some (.own true (enc (s45.2 : (Dic Int Int)))), none, none, none] _ _ _ _ from ?_)
      · refine s_froz (i := 7) (a := (s45.2 : (Dic Int Int))) rfl (show StX _ _ _ [some (.dat (enc (table_34 : (List (List Int))))), some (.dat (enc (ends_35 : (List Bool)))), some (.dat (enc (states_36 : (List Int)))), some (.dat (enc (most_37 : Int))), some (.dat (enc (s42.1 : (Dic Int Int)))), some (.dat (enc (s42.2 : Int))), some (.own true (enc (s45.1 : (DicN (Int × (Tp Int)) Int)))), some (.dat (enc (s45.2 : (Dic Int Int)))), none, none, none] _ _ _ _ from ?_)
        exact s_ret (k := .dat) (EvP.cv (m' := (.ok s45.2)) (v_dat (i := 7) (a := (s45.2 : (Dic Int Int))) rfl) (by simp only [M.bind_ok])) (fun a => (some a : (Option (Dic Int Int)))) (le_none rfl)
      · refine s_set (i := 5) (EvP.cv (m' := (.ok ((s45.1).kvs.length : Int))) (e_cb1 (v_see (i := 6) (a := (s45.1 : (DicN (Int × (Tp Int)) Int))) rfl) o_lenN) (by simp only [M.bind_ok])) (le_none rfl) fun many_60 => (show StX _ _ _ [some (.dat (enc (table_34 : (List (List Int))))), some (.dat (enc (ends_35 : (List Bool)))), some (.dat (enc (states_36 : (List Int)))), some (.dat (enc (most_37 : Int))), some (.dat (enc (s42.1 : (Dic Int Int)))), some (.dat (enc (many_60 : Int))), some (.own true (enc (s45.1 : (DicN (Int × (Tp Int)) Int)))), some (.own true (enc (s45.2 : (Dic Int Int)))), none, none, none] _ _ _ _ from ?_)
        refine s_froz (i := 7) (a := (s45.2 : (Dic Int Int))) rfl (show StX _ _ _ [some (.dat (enc (table_34 : (List (List Int))))), some (.dat (enc (ends_35 : (List Bool)))), some (.dat (enc (states_36 : (List Int)))), some (.dat (enc (most_37 : Int))), some (.dat (enc (s42.1 : (Dic Int Int)))), some (.dat (enc (many_60 : Int))), some (.own true (enc (s45.1 : (DicN (Int × (Tp Int)) Int)))), some (.dat (enc (s45.2 : (Dic Int Int)))), none, none, none] _ _ _ _ from ?_)
        refine s_set (i := 4) (EvP.cv (m' := (.ok s45.2)) (v_dat (i := 7) (a := (s45.2 : (Dic Int Int))) rfl) (by simp only [M.bind_ok])) (le_none rfl) fun classes_62 => (show StX _ _ _ [some (.dat (enc (table_34 : (List (List Int))))), some (.dat (enc (ends_35 : (List Bool)))), some (.dat (enc (states_36 : (List Int)))), some (.dat (enc (most_37 : Int))), some (.dat (enc (classes_62 : (Dic Int Int)))), some (.dat (enc (many_60 : Int))), some (.own true (enc (s45.1 : (DicN (Int × (Tp Int)) Int)))), some (.dat (enc (s45.2 : (Dic Int Int)))), none, none, none] _ _ _ _ from ?_)
        exact s_nil (And.intro rfl (And.intro rfl (And.intro rfl (And.intro rfl (And.intro rfl (And.intro rfl True.intro))))))
  · exact s_ret (k := .dat) (EvP.cv (m' := (.ok (none : (Option (Dic Int Int))))) (c_nonO (α := (Dic Int Int))) (by simp only [M.bind_ok])) (fun a => a) (le_none rfl)

abbrev s_merged : Stmt := top 9
abbrev N_merged : List Str := ["table", "ends", "states", "classes", "numbers", "first", "state", "rows", "target"]
theorem sc_merged : FnScope N_merged ["table", "ends", "states", "classes"] (defScope s_merged) := ⟨rfl, rfl, rfl, by decide +kernel, rfl, by decide +kernel, by decide +kernel⟩
theorem ok_merged {K : Kx} {mg : Str → Option Value} {base : Heap} {f : Addr} {fd : FuncData} (F : Fun K.fr "merged" "merged" s_merged f fd) (BT : Bt mg) (GL : Glo mg) (XC : Xcs K.fr mg)  :
    FnOk K.P K.w K.fr mg base (L2.CX K.P K.w) 1 f fd ["table", "ends", "states", "classes"] (spM K mg .dat (Rm4 merged)) := by
  obtain ⟨t_MOST_THINGS, gm_MOST_THINGS⟩ := GL.g_MOST_THINGS
  refine fn_ok (N := N_merged) (R := ((List (List Int)) × (List Bool))) none (fun r h => nomatch h) F sc_merged (by rintro ds m ⟨table_66, ends_67, states_68, classes_69, rfl, _⟩; rfl) (by decide) (fun cdv A outer s H E c ds m hr hm hK hg hW => ?_)
  obtain ⟨table_66, ends_67, states_68, classes_69, rfl, rfl⟩ := hm
  obtain ⟨cK, cmg, cF, cH, cG, cW⟩ := c
  cases (show K = cK from hK.symm); cases (show mg = cmg from hg.symm); cases hW
  have hu := hu_of hr
  have hu64 := hr.units
  have hu9 := Nat.lt_of_le_of_lt (Nat.add_le_add_left (by decide : 9 ≤ 64) _) hu64
  have hu16 := Nat.lt_of_le_of_lt (Nat.add_le_add_left (by decide : 16 ≤ 64) _) hu64
  have tk : Takes (cxOf (L2.CX K.P K.w) K.P K.w K.fr mg base N_merged "merged" (defScope s_merged) f cdv A outer s H E) (fun cls d _ H => E cls d H) := takes_of rfl rfl rfl rfl
  refine ⟨_, merged_b table_66 ends_67 states_68 classes_69, (pss_cons (ps_set (i := 4) sc_merged.nd rfl (by first | exact Or.inl rfl | exact Or.inr rfl) pe_dnewK) (pss_cons (ps_set (i := 5) sc_merged.nd rfl (by first | exact Or.inl rfl | exact Or.inr rfl) (pe_lst pa_nil)) (pss_cons (ps_for (passes_of rfl) rfl (pi_listK K.fr (pv 2)) (pg_name (i := 6) sc_merged.nd rfl (by first | exact Or.inl rfl | exact Or.inr rfl)) (pss_cons (ps_if (pt_cmp (pc_dnotin hu (pe_dget hu (pv 3) (pv 6) (fun _ _ => rfl)) (pv 4))) (pss_cons (ps_dput hu (pv 4) (pe_dget hu (pv 3) (pv 6) (fun _ _ => rfl)) (pe_callB call_lenDK rfl BT.b_len PySem.boot_len (pa_cons (pv 4) pa_nil)) rfl) (pss_cons (ps_expr (pe_bmK K.fr PySem.F.plainAttrs_list PySem.F.slot_list_append PySem.F.type_list_append mt_append (pv 5) (pa_cons (pv 6) pa_nil))) pss_nil)) pss_nil) pss_nil)) (pss_cons (ps_setLc (i := 7) (own := [("state", 6)]) rfl sc_merged.nd rfl rfl (sw_true rfl rfl rfl (by decide +kernel)) (pi_listK K.fr (pv 5)) (blkOk_by (own := [("state", 6)]) (N := N_merged) (sc := defScope s_merged) (by decide +kernel)) (fun _ _ _ _ _ => (pg_name (i := 6) sc_merged.nd rfl (by first | exact Or.inl rfl | exact Or.inr rfl))) (fun _ _ _ _ _ => pts_nil) (fun _ _ _ _ _ => (pe_lc (own := [("target", 8)]) rfl sc_merged.nd (pi_listK K.fr (pe_ix (ix_listK K.fr) (pv 0) (pv 6) (fun _ _ => rfl))) (blk_rel (blkOk_by (own := [("target", 8)]) (N := N_merged) (by decide +kernel))) (fun _ _ _ _ _ => (pg_name (i := 8) sc_merged.nd rfl (by first | exact Or.inl rfl | exact Or.inr rfl))) (fun _ _ _ _ _ => pts_nil) (fun _ _ _ _ _ => (pe_dget hu (pv 4) (pe_dget hu (pv 3) (pv 8) (fun _ _ => rfl)) (fun _ _ => rfl)))))) (pss_cons (ps_ret (pe_tup (pa_cons (pv 7) (pa_cons (pe_lc (own := [("state", 6)]) rfl sc_merged.nd (pi_listK K.fr (pv 5)) (blkOk_by (own := [("state", 6)]) (N := N_merged) (sc := defScope s_merged) (by decide +kernel)) (fun _ _ _ _ _ => (pg_name (i := 6) sc_merged.nd rfl (by first | exact Or.inl rfl | exact Or.inr rfl))) (fun _ _ _ _ _ => pts_nil) (fun _ _ _ _ _ => (pe_ix (ix_listK K.fr) (pv 1) (pv 6) (fun _ _ => rfl)))) pa_nil)))) pss_nil))))), rfl, (show StX _ _ _ [some (.dat (enc (table_66 : (List (List Int))))), some (.dat (enc (ends_67 : (List Bool)))), some (.dat (enc (states_68 : (List Int)))), some (.dat (enc (classes_69 : (Dic Int Int)))), none, none, none, none, none] _ _ _ _ from ?_)⟩
  unfold merged_b
  refine s_own (i := 4) (EvP.cv (m' := (.ok (Dic.mk [] : (Dic Int Int)))) (e_dict0 (α := Int) (β := Int)) (by simp only [M.bind_ok])) (le_none rfl) fun numbers_70 => (show StX _ _ _ [some (.dat (enc (table_66 : (List (List Int))))), some (.dat (enc (ends_67 : (List Bool)))), some (.dat (enc (states_68 : (List Int)))), some (.dat (enc (classes_69 : (Dic Int Int)))), some (.own true (enc (numbers_70 : (Dic Int Int)))), none, none, none, none] _ _ _ _ from ?_)
  refine s_own (i := 5) (EvP.cv (m' := (.ok ([] : (List Int)))) (e_lst0 (α := Int)) (by simp only [M.bind_ok])) (le_none rfl) fun first_71 => (show StX _ _ _ [some (.dat (enc (table_66 : (List (List Int))))), some (.dat (enc (ends_67 : (List Bool)))), some (.dat (enc (states_68 : (List Int)))), some (.dat (enc (classes_69 : (Dic Int Int)))), some (.own true (enc (numbers_70 : (Dic Int Int)))), some (.own true (enc (first_71 : (List Int)))), none, none, none] _ _ _ _ from ?_)
  refine s_for (vs := [6]) (ps := (fun s72 => [some (.dat (enc (table_66 : (List (List Int))))), some (.dat (enc (ends_67 : (List Bool)))), some (.dat (enc (states_68 : (List Int)))), some (.dat (enc (classes_69 : (Dic Int Int)))), some (.own true (enc (s72.1 : (Dic Int Int)))), some (.own true (enc (s72.2 : (List Int)))), none, none, none])) (EvIt.cv (m' := (.ok states_68)) (it_list (v_dat (i := 2) (a := (states_68 : (List Int))) rfl)) (by simp only [M.bind_ok])) (tg_name (i := 6) (vs := [6]) (by simp)) (le_none rfl) (And.intro rfl (And.intro rfl (And.intro rfl (And.intro rfl (And.intro rfl (And.intro rfl True.intro)))))) (fun F0' s72 x73 => (show StX _ _ _ [some (.dat (enc (table_66 : (List (List Int))))), some (.dat (enc (ends_67 : (List Bool)))), some (.dat (enc (states_68 : (List Int)))), some (.dat (enc (classes_69 : (Dic Int Int)))), some (.own true (enc (s72.1 : (Dic Int Int)))), some (.own true (enc (s72.2 : (List Int)))), some (.dat (enc (x73 : Int))), none, none] _ _ _ _ from ?_)) (fun s72 => (show StX _ _ _ [some (.dat (enc (table_66 : (List (List Int))))), some (.dat (enc (ends_67 : (List Bool)))), some (.dat (enc (states_68 : (List Int)))), some (.dat (enc (classes_69 : (Dic Int Int)))), some (.own true (enc (s72.1 : (Dic Int Int)))), some (.own true (enc (s72.2 : (List Int)))), none, none, none] _ _ _ _ from ?_))
  · refine s_ifM (N' := ((Dic Int Int) × (List Int))) (pn' := (fun j79 => [some (.dat (enc (table_66 : (List (List Int))))), some (.dat (enc (ends_67 : (List Bool)))), some (.dat (enc (states_68 : (List Int)))), some (.dat (enc (classes_69 : (Dic Int Int)))), some (.own true (enc (j79.1 : (Dic Int Int)))), some (.own true (enc (j79.2 : (List Int)))), some (.dat (enc (x73 : Int))), none, none])) (EvT.cv (m' := (M.bind (getD classes_69 x73) fun z74 => (.ok (!hasD s72.1 z74)))) (t_B (e_dnin (e_dget (EvP.lookD (v_dat (i := 3) (a := (classes_69 : (Dic Int Int))) rfl)) (v_dat (i := 6) (a := (x73 : Int)) rfl)) (v_see (i := 4) (a := (s72.1 : (Dic Int Int))) rfl))) (by simp only [M.bind_ok])) (le_none rfl) (show StX _ _ _ [some (.dat (enc (table_66 : (List (List Int))))), some (.dat (enc (ends_67 : (List Bool)))), some (.dat (enc (states_68 : (List Int)))), some (.dat (enc (classes_69 : (Dic Int Int)))), some (.own true (enc (s72.1 : (Dic Int Int)))), some (.own true (enc (s72.2 : (List Int)))), some (.dat (enc (x73 : Int))), none, none] _ _ _ _ from ?_) (show StX _ _ _ [some (.dat (enc (table_66 : (List (List Int))))), some (.dat (enc (ends_67 : (List Bool)))), some (.dat (enc (states_68 : (List Int)))), some (.dat (enc (classes_69 : (Dic Int Int)))), some (.own true (enc (s72.1 : (Dic Int Int)))), some (.own true (enc (s72.2 : (List Int)))), some (.dat (enc (x73 : Int))), none, none] _ _ _ _ from ?_) (fun j79 => (show StX _ _ _ [some (.dat (enc (table_66 : (List (List Int))))), some (.dat (enc (ends_67 : (List Bool)))), some (.dat (enc (states_68 : (List Int)))), some (.dat (enc (classes_69 : (Dic Int Int)))), some (.own true (enc (j79.1 : (Dic Int Int)))), some (.own true (enc (j79.2 : (List Int)))), some (.dat (enc (x73 : Int))), none, none] _ _ _ _ from ?_))
    · refine s_dput (i := 4) (d := (s72.1 : (Dic Int Int))) rfl (EvP.cv (m' := (.ok ((s72.1).kvs.length : Int))) (e_cb1 (v_see (i := 4) (a := (s72.1 : (Dic Int Int))) rfl) o_lenD) (by simp only [M.bind_ok])) (EvP.cv (m' := (getD classes_69 x73)) (e_dget (EvP.lookD (v_dat (i := 3) (a := (classes_69 : (Dic Int Int))) rfl)) (v_dat (i := 6) (a := (x73 : Int)) rfl)) (by simp only [M.bind_ok])) (le_none rfl) fun a80 k81 => (show StX _ _ _ [some (.dat (enc (table_66 : (List (List Int))))), some (.dat (enc (ends_67 : (List Bool)))), some (.dat (enc (states_68 : (List Int)))), some (.dat (enc (classes_69 : (Dic Int Int)))), some (.own true (enc ((Dic.mk (pt (s72.1).kvs k81 a80)) : (Dic Int Int)))), some (.own true (enc (s72.2 : (List Int)))), some (.dat (enc (x73 : Int))), none, none] _ _ _ _ from ?_)
      refine s_app (i := 5) (xs := (s72.2 : (List Int))) rfl (EvP.cv (m' := (.ok x73)) (v_dat (i := 6) (a := (x73 : Int)) rfl) (by simp only [M.bind_ok])) (le_none rfl) fun a82 => (show StX _ _ _ [some (.dat (enc (table_66 : (List (List Int))))), some (.dat (enc (ends_67 : (List Bool)))), some (.dat (enc (states_68 : (List Int)))), some (.dat (enc (classes_69 : (Dic Int Int)))), some (.own true (enc ((Dic.mk (pt (s72.1).kvs k81 a80)) : (Dic Int Int)))), some (.own true (enc ((s72.2 ++ [a82]) : (List Int)))), some (.dat (enc (x73 : Int))), none, none] _ _ _ _ from ?_)
      exact s_nil (And.intro rfl (And.intro rfl (And.intro rfl (And.intro rfl (And.intro rfl (And.intro rfl (And.intro rfl True.intro)))))))
    · exact s_nil (And.intro rfl (And.intro rfl (And.intro rfl (And.intro rfl (And.intro rfl (And.intro rfl (And.intro rfl True.intro)))))))
    · exact s_nil (And.intro rfl (And.intro rfl (And.intro rfl (And.intro rfl (And.intro rfl (And.intro rfl True.intro))))))
  · refine s_froz (i := 5) (a := (s72.2 : (List Int))) rfl (show StX _ _ _ [some (.dat (enc (table_66 : (List (List Int))))), some (.dat (enc (ends_67 : (List Bool)))), some (.dat (enc (states_68 : (List Int)))), some (.dat (enc (classes_69 : (Dic Int Int)))), some (.own true (enc (s72.1 : (Dic Int Int)))), some (.dat (enc (s72.2 : (List Int)))), none, none, none] _ _ _ _ from ?_)
    refine s_set (i := 7) (EvP.cv (m' := (lcM (fun x83 => (M.bind (getL table_66 x83) fun z86 => (lcM (fun x84 => (M.bind (getD classes_69 x84) fun z85 => (getD s72.1 z85))) z86))) s72.2)) (EvP.froz (e_lc (it_list (v_dat (i := 5) (a := (s72.2 : (List Int))) rfl)) (tg_name (i := 6) (vs := [6]) (by simp)) (fun x83 => (EvP.cv (m' := (M.bind (getL table_66 x83) fun z86 => (lcM (fun x84 => (M.bind (getD classes_69 x84) fun z85 => (getD s72.1 z85))) z86))) (EvP.froz (e_lc (it_list (e_op (EvP.lookL (v_dat (i := 0) (a := (table_66 : (List (List Int)))) rfl)) (v_dat (i := 6) (a := (x83 : Int)) rfl) o_ixL)) (tg_name (i := 8) (vs := [8]) (by simp)) (fun x84 => (EvP.cv (m' := (M.bind (getD classes_69 x84) fun z85 => (getD s72.1 z85))) (e_dget (v_see (i := 4) (a := (s72.1 : (Dic Int Int))) rfl) (e_dget (EvP.lookD (v_dat (i := 3) (a := (classes_69 : (Dic Int Int))) rfl)) (v_dat (i := 8) (a := (x84 : Int)) rfl))) (by simp only [M.bind_ok]))))) (by simp only [M.bind_ok]))))) (by simp only [M.bind_ok])) (le_none rfl) fun rows_87 => (show StX _ _ _ [some (.dat (enc (table_66 : (List (List Int))))), some (.dat (enc (ends_67 : (List Bool)))), some (.dat (enc (states_68 : (List Int)))), some (.dat (enc (classes_69 : (Dic Int Int)))), some (.own true (enc (s72.1 : (Dic Int Int)))), some (.dat (enc (s72.2 : (List Int)))), none, some (.dat (enc (rows_87 : (List (List Int))))), none] _ _ _ _ from ?_)
    exact s_ret (k := .dat) (EvP.cv (m' := (M.bind (lcM (fun x88 => (getL ends_67 x88)) s72.2) fun z89 => (.ok (rows_87, z89)))) (e_tup2 (v_dat (i := 7) (a := (rows_87 : (List (List Int)))) rfl) (EvP.froz (e_lc (it_list (v_dat (i := 5) (a := (s72.2 : (List Int))) rfl)) (tg_name (i := 6) (vs := [6]) (by simp)) (fun x88 => (EvP.cv (m' := (getL ends_67 x88)) (e_op (EvP.lookL (v_dat (i := 1) (a := (ends_67 : (List Bool))) rfl)) (v_dat (i := 6) (a := (x88 : Int)) rfl) o_ixL) (by simp only [M.bind_ok])))))) (by simp only [M.bind_ok])) (fun a => a) (le_none rfl)

abbrev s_least : Stmt := top 10
abbrev N_least : List Str := ["letters", "machine", "table", "ends", "states"]
theorem sc_least : FnScope N_least ["letters", "machine"] (defScope s_least) := ⟨rfl, rfl, rfl, by decide +kernel, rfl, by decide +kernel, by decide +kernel⟩
theorem ok_least {K : Kx} {mg : Str → Option Value} {base : Heap} {f : Addr} {fd : FuncData} (F : Fun K.fr "least" "least" s_least f fd) (BT : Bt mg) (GL : Glo mg) (XC : Xcs K.fr mg) (h_reached : Fk K mg base "reached" 1 ["table", "first"] (spM K mg .new (Rm2 reached))) (h_merged : Fk K mg base "merged" 1 ["table", "ends", "states", "classes"] (spM K mg .dat (Rm4 merged))) (h_classes_of : Fk K mg base "classes_of" 1 ["table", "ends", "states", "most"] (spM K mg .dat (Rm4 classes_of))) :
    FnOk K.P K.w K.fr mg base (L2.CX K.P K.w) 2 f fd ["letters", "machine"] (spM K mg .dat (Rm2 least)) := by
  obtain ⟨f_reached, fd_reached, G_reached, b_reached, m_reached, k_reached⟩ := h_reached.ex
  obtain ⟨f_merged, fd_merged, G_merged, b_merged, m_merged, k_merged⟩ := h_merged.ex
  obtain ⟨f_classes_of, fd_classes_of, G_classes_of, b_classes_of, m_classes_of, k_classes_of⟩ := h_classes_of.ex
  obtain ⟨t_MOST_THINGS, gm_MOST_THINGS⟩ := GL.g_MOST_THINGS
  refine fn_ok (N := N_least) (R := ((List (List Int)) × (List Bool))) none (fun r h => nomatch h) F sc_least (by rintro ds m ⟨letters_92, machine_93, rfl, _⟩; rfl) (by decide) (fun cdv A outer s H E c ds m hr hm hK hg hW => ?_)
  obtain ⟨letters_92, machine_93, rfl, rfl⟩ := hm
  obtain ⟨cK, cmg, cF, cH, cG, cW⟩ := c
  cases (show K = cK from hK.symm); cases (show mg = cmg from hg.symm); cases hW
  have hu := hu_of hr
  have hu64 := hr.units
  have hu9 := Nat.lt_of_le_of_lt (Nat.add_le_add_left (by decide : 9 ≤ 64) _) hu64
  have hu16 := Nat.lt_of_le_of_lt (Nat.add_le_add_left (by decide : 16 ≤ 64) _) hu64
  have tk : Takes (cxOf (L2.CX K.P K.w) K.P K.w K.fr mg base N_least "least" (defScope s_least) f cdv A outer s H E) (fun cls d _ H => E cls d H) := takes_of rfl rfl rfl rfl
  refine ⟨_, least_b letters_92 machine_93, (pss_cons (ps_asg (pv 1) (pg_tupK (n := 2) K.fr rfl (pgs_cons (pg_name (i := 2) sc_least.nd rfl (by first | exact Or.inl rfl | exact Or.inr rfl)) (pgs_cons (pg_name (i := 3) sc_least.nd rfl (by first | exact Or.inl rfl | exact Or.inr rfl)) pgs_nil)))) (pss_cons (ps_set (i := 4) sc_least.nd rfl (by first | exact Or.inl rfl | exact Or.inr rfl) (pe_callS G_reached (hr.mono (by decide)) rfl m_reached k_reached b_reached (fun σ => passAt tk σ) (pa_cons (pv 2) (pa_cons pe_int pa_nil)))) (pss_cons (ps_ret (pe_callS G_merged (hr.mono (by decide)) rfl m_merged k_merged b_merged (fun σ => passAt tk σ) (pa_cons (pv 2) (pa_cons (pv 3) (pa_cons (pv 4) (pa_cons (pe_callS G_classes_of (hr.mono (by decide)) rfl m_classes_of k_classes_of b_classes_of (fun σ => passAt tk σ) (pa_cons (pv 2) (pa_cons (pv 3) (pa_cons (pv 4) (pa_cons (pe_callB (call_lenK K.fr) rfl BT.b_len PySem.boot_len (pa_cons (pv 2) pa_nil)) pa_nil))))) pa_nil)))))) pss_nil))), rfl, (show StX _ _ _ [some (.dat (enc (letters_92 : Txt))), some (.dat (enc (machine_93 : ((List (List Int)) × (List Bool))))), none, none, none] _ _ _ _ from ?_)⟩
  unfold least_b
  refine s_tup2 (i := 2) (j := 3) (EvP.cv (m' := (.ok machine_93)) (v_dat (i := 1) (a := (machine_93 : ((List (List Int)) × (List Bool)))) rfl) (by simp only [M.bind_ok])) (le_none rfl) fun p94 => (show StX _ _ _ [some (.dat (enc (letters_92 : Txt))), some (.dat (enc (machine_93 : ((List (List Int)) × (List Bool))))), some (.dat (enc (p94.1 : (List (List Int))))), some (.dat (enc (p94.2 : (List Bool)))), none] _ _ _ _ from ?_)
  refine s_set (i := 4) (EvP.cv (m' := (reached p94.1 (0 : Int))) (EvP.froz (e_call2 (f := reached) (v_dat (i := 2) (a := (p94.1 : (List (List Int)))) rfl) (c_int (i := 0)))) (by simp only [M.bind_ok])) (le_none rfl) fun states_95 => (show StX _ _ _ [some (.dat (enc (letters_92 : Txt))), some (.dat (enc (machine_93 : ((List (List Int)) × (List Bool))))), some (.dat (enc (p94.1 : (List (List Int))))), some (.dat (enc (p94.2 : (List Bool)))), some (.dat (enc (states_95 : (List Int))))] _ _ _ _ from ?_)
  exact s_ret (k := .dat) (EvP.cv (m' := (M.bind (M.bind (classes_of p94.1 p94.2 states_95 ((p94.1).length : Int)) fun z96 => (unopt z96)) fun z97 => (merged p94.1 p94.2 states_95 z97))) (e_call4 (f := merged) (v_dat (i := 2) (a := (p94.1 : (List (List Int)))) rfl) (v_dat (i := 3) (a := (p94.2 : (List Bool))) rfl) (v_dat (i := 4) (a := (states_95 : (List Int))) rfl) (e_unopt (e_call4 (f := classes_of) (v_dat (i := 2) (a := (p94.1 : (List (List Int)))) rfl) (v_dat (i := 3) (a := (p94.2 : (List Bool))) rfl) (v_dat (i := 4) (a := (states_95 : (List Int))) rfl) (e_cb1 (EvP.lookL (v_dat (i := 2) (a := (p94.1 : (List (List Int)))) rfl)) (o_len rfl))))) (by simp only [M.bind_ok])) (fun a => a) (le_none rfl)

abbrev s_turning_of : Stmt := top 13
abbrev N_turning_of : List Str := ["letters", "machine", "word", "small", "state"]
theorem sc_turning_of : FnScope N_turning_of ["letters", "machine", "word"] (defScope s_turning_of) := ⟨rfl, rfl, rfl, by decide +kernel, rfl, by decide +kernel, by decide +kernel⟩
theorem ok_turning_of {K : Kx} {mg : Str → Option Value} {base : Heap} {f : Addr} {fd : FuncData} (F : Fun K.fr "turning_of" "turning_of" s_turning_of f fd) (BT : Bt mg) (GL : Glo mg) (XC : Xcs K.fr mg) (h_least : Fk K mg base "least" 2 ["letters", "machine"] (spM K mg .dat (Rm2 least))) (h_run_from : Fk K mg base "run_from" 2 ["letters", "machine", "state", "word"] (spM K mg .dat (Rm4 run_from))) :
    FnOk K.P K.w K.fr mg base (L2.CX K.P K.w) 3 f fd ["letters", "machine", "word"] (spM K mg .new (Rm3 turning_of)) := by
  obtain ⟨f_least, fd_least, G_least, b_least, m_least, k_least⟩ := h_least.ex
  obtain ⟨f_run_from, fd_run_from, G_run_from, b_run_from, m_run_from, k_run_from⟩ := h_run_from.ex
  obtain ⟨t_MOST_THINGS, gm_MOST_THINGS⟩ := GL.g_MOST_THINGS
  refine fn_ok (N := N_turning_of) (R := (List Int)) none (fun r h => nomatch h) F sc_turning_of (by rintro ds m ⟨letters_99, machine_100, word_101, rfl, _⟩; rfl) (by decide) (fun cdv A outer s H E c ds m hr hm hK hg hW => ?_)
  obtain ⟨letters_99, machine_100, word_101, rfl, rfl⟩ := hm
  obtain ⟨cK, cmg, cF, cH, cG, cW⟩ := c
  cases (show K = cK from hK.symm); cases (show mg = cmg from hg.symm); cases hW
  have hu := hu_of hr
  have hu64 := hr.units
  have hu9 := Nat.lt_of_le_of_lt (Nat.add_le_add_left (by decide : 9 ≤ 64) _) hu64
  have hu16 := Nat.lt_of_le_of_lt (Nat.add_le_add_left (by decide : 16 ≤ 64) _) hu64
  have tk : Takes (cxOf (L2.CX K.P K.w) K.P K.w K.fr mg base N_turning_of "turning_of" (defScope s_turning_of) f cdv A outer s H E) (fun cls d _ H => E cls d H) := takes_of rfl rfl rfl rfl
  refine ⟨_, turning_of_b letters_99 machine_100 word_101, (pss_cons (ps_set (i := 3) sc_turning_of.nd rfl (by first | exact Or.inl rfl | exact Or.inr rfl) (pe_callS G_least (hr.mono (by decide)) rfl m_least k_least b_least (fun σ => passAt tk σ) (pa_cons (pv 0) (pa_cons (pv 1) pa_nil)))) (pss_cons (ps_ret (pe_lc (own := [("state", 4)]) rfl sc_turning_of.nd (pi_range1 rfl BT.b_range (pa_cons (pe_callB (call_lenK K.fr) rfl BT.b_len PySem.boot_len (pa_cons (pe_ix (ix_tupK K.fr) (pv 3) pe_int (fun _ _ => rfl)) pa_nil)) pa_nil)) (blkOk_by (own := [("state", 4)]) (N := N_turning_of) (sc := defScope s_turning_of) (by decide +kernel)) (fun _ _ _ _ _ => (pg_name (i := 4) sc_turning_of.nd rfl (by first | exact Or.inl rfl | exact Or.inr rfl))) (fun _ _ _ _ _ => pts_nil) (fun _ _ _ _ _ => (pe_callS G_run_from (hr.mono (by decide)) rfl m_run_from k_run_from b_run_from (fun σ => passAt takes_none5 σ) (pa_cons (pv 0) (pa_cons (pv 3) (pa_cons (pv 4) (pa_cons (pv 2) pa_nil)))))))) pss_nil)), rfl, (show StX _ _ _ [some (.dat (enc (letters_99 : Txt))), some (.dat (enc (machine_100 : ((List (List Int)) × (List Bool))))), some (.dat (enc (word_101 : Txt))), none, none] _ _ _ _ from ?_)⟩
  unfold turning_of_b
  refine s_set (i := 3) (EvP.cv (m' := (least letters_99 machine_100)) (e_call2 (f := least) (v_dat (i := 0) (a := (letters_99 : Txt)) rfl) (v_dat (i := 1) (a := (machine_100 : ((List (List Int)) × (List Bool)))) rfl)) (by simp only [M.bind_ok])) (le_none rfl) fun small_102 => (show StX _ _ _ [some (.dat (enc (letters_99 : Txt))), some (.dat (enc (machine_100 : ((List (List Int)) × (List Bool))))), some (.dat (enc (word_101 : Txt))), some (.dat (enc (small_102 : ((List (List Int)) × (List Bool))))), none] _ _ _ _ from ?_)
  exact s_ret (k := .new) (EvP.cv (m' := (M.bind (chk (rngB 0 (((small_102).1).length : Int)) (.ok (rng 0 (((small_102).1).length : Int)))) fun z104 => (lcM (fun x103 => (run_from letters_99 small_102 x103 word_101)) z104))) (e_lc (it_rng1 (e_cb1 (EvP.lookL (e_fst (v_dat (i := 3) (a := (small_102 : ((List (List Int)) × (List Bool)))) rfl))) (o_len rfl))) (tg_name (i := 4) (vs := [4]) (by simp)) (fun x103 => (EvP.cv (m' := (run_from letters_99 small_102 x103 word_101)) (e_call4 (f := run_from) (v_dat (i := 0) (a := (letters_99 : Txt)) rfl) (v_dat (i := 3) (a := (small_102 : ((List (List Int)) × (List Bool)))) rfl) (v_dat (i := 4) (a := (x103 : Int)) rfl) (v_dat (i := 2) (a := (word_101 : Txt)) rfl)) (by simp only [M.bind_ok])))) (by simp only [M.bind_ok])) (fun a => a) (le_none rfl)

abbrev s_rows_met : Stmt := top 14
abbrev N_rows_met : List Str := ["letters", "table", "begin", "words", "order", "at", "place", "sign", "behind", "state", "one"]
theorem sc_rows_met : FnScope N_rows_met ["letters", "table"] (defScope s_rows_met) := ⟨rfl, rfl, rfl, by decide +kernel, rfl, by decide +kernel, by decide +kernel⟩
theorem ok_rows_met {K : Kx} {mg : Str → Option Value} {base : Heap} {f : Addr} {fd : FuncData} (F : Fun K.fr "rows_met" "rows_met" s_rows_met f fd) (BT : Bt mg) (GL : Glo mg) (XC : Xcs K.fr mg)  :
    FnOk K.P K.w K.fr mg base (L2.CX K.P K.w) 1 f fd ["letters", "table"] (spM K mg .new (Rm2 rows_met)) := by
  obtain ⟨C_TooMany, gx_TooMany, x_TooMany, k_TooMany, sb_TooMany, ty_TooMany⟩ := XC.c_TooMany
  obtain ⟨t_MOST_THINGS, gm_MOST_THINGS⟩ := GL.g_MOST_THINGS
  refine fn_ok (N := N_rows_met) (R := (List ((Tp Int) × Txt))) none (fun r h => nomatch h) F sc_rows_met (by rintro ds m ⟨letters_106, table_107, rfl, _⟩; rfl) (by decide) (fun cdv A outer s H E c ds m hr hm hK hg hW => ?_)
  obtain ⟨letters_106, table_107, rfl, rfl⟩ := hm
  obtain ⟨cK, cmg, cF, cH, cG, cW⟩ := c
  cases (show K = cK from hK.symm); cases (show mg = cmg from hg.symm); cases hW
  have hu := hu_of hr
  have hu64 := hr.units
  have hu9 := Nat.lt_of_le_of_lt (Nat.add_le_add_left (by decide : 9 ≤ 64) _) hu64
  have hu16 := Nat.lt_of_le_of_lt (Nat.add_le_add_left (by decide : 16 ≤ 64) _) hu64
  have tk : Takes (cxOf (L2.CX K.P K.w) K.P K.w K.fr mg base N_rows_met "rows_met" (defScope s_rows_met) f cdv A outer s H E) (fun cls d _ H => E cls d H) := takes_of rfl rfl rfl rfl
  refine ⟨_, rows_met_b letters_106 table_107, (pss_cons (ps_set (i := 2) sc_rows_met.nd rfl (by first | exact Or.inl rfl | exact Or.inr rfl) (pe_tupRg rfl rfl BT.b_tuple (prg_1 rfl BT.b_range (pe_callB (call_lenK K.fr) rfl BT.b_len PySem.boot_len (pa_cons (pv 1) pa_nil))))) (pss_cons (ps_set (i := 3) sc_rows_met.nd rfl (by first | exact Or.inl rfl | exact Or.inr rfl) (pe_dispN hu9 (pv 2) pe_str)) (pss_cons (ps_set (i := 4) sc_rows_met.nd rfl (by first | exact Or.inl rfl | exact Or.inr rfl) (pe_lst (pa_cons (pv 2) pa_nil))) (pss_cons (ps_set (i := 5) sc_rows_met.nd rfl (by first | exact Or.inl rfl | exact Or.inr rfl) pe_int) (pss_cons (ps_while (passes_of rfl) (pt_cmpR op_lt (pv 5) (pe_callB (call_lenK K.fr) rfl BT.b_len PySem.boot_len (pa_cons (pv 4) pa_nil)) (nomark _)) (pss_cons (ps_for (passes_of rfl) rfl (pi_enumS rfl BT.b_enumerate (pv 0)) (pg_tupK (n := 2) K.fr rfl (pgs_cons (pg_name (i := 6) sc_rows_met.nd rfl (by first | exact Or.inl rfl | exact Or.inr rfl)) (pgs_cons (pg_name (i := 7) sc_rows_met.nd rfl (by first | exact Or.inl rfl | exact Or.inr rfl)) pgs_nil))) (pss_cons (ps_set (i := 8) sc_rows_met.nd rfl (by first | exact Or.inl rfl | exact Or.inr rfl) (pe_callTy (call_tupleK K.fr) rfl BT.b_tuple (by decide +kernel) (pa_cons (pe_lc (own := [("state", 9)]) rfl sc_rows_met.nd (pi_tupK K.fr (pe_ix (ix_listK K.fr) (pv 4) (pv 5) (fun _ _ => rfl))) (blkOk_by (own := [("state", 9)]) (N := N_rows_met) (sc := defScope s_rows_met) (by decide +kernel)) (fun _ _ _ _ _ => (pg_name (i := 9) sc_rows_met.nd rfl (by first | exact Or.inl rfl | exact Or.inr rfl))) (fun _ _ _ _ _ => pts_nil) (fun _ _ _ _ _ => (pe_ix (ix_listK K.fr) (pe_ix (ix_listK K.fr) (pv 1) (pv 9) (fun _ _ => rfl)) (pv 6) (fun _ _ => rfl)))) pa_nil))) (pss_cons (ps_if (pt_cmp (pc_nnotin hu9 (pv 8) (pv 3))) (pss_cons (ps_nput hu9 (pv 3) (pv 8) (pe_op op_add_str (pe_nget hu9 (pv 3) (pe_ix (ix_listK K.fr) (pv 4) (pv 5) (fun _ _ => rfl)) (fun _ _ => rfl)) (pv 7)) rfl) (pss_cons (ps_expr (pe_bmK K.fr PySem.F.plainAttrs_list PySem.F.slot_list_append PySem.F.type_list_append mt_append (pv 4) (pa_cons (pv 8) pa_nil))) (pss_cons (ps_if (pt_cmpR op_gt (pe_callB (call_lenK K.fr) rfl BT.b_len PySem.boot_len (pa_cons (pv 4) pa_nil)) (pe_glob (v := .int 2000) rfl gm_MOST_THINGS ⟨_, rfl⟩) (nomark _)) (pss_cons (ps_raise rfl tk (pmk_own0 PySem.F.excBase_ValueError x_TooMany gx_TooMany k_TooMany (raises_own sb_TooMany ty_TooMany) rfl)) pss_nil) pss_nil) pss_nil))) pss_nil) pss_nil))) (pss_cons (ps_aug (i := 5) sc_rows_met.nd rfl (by first | exact Or.inl rfl | exact Or.inr rfl) pe_int ip_add) pss_nil))) (pss_cons (ps_ret (pe_lc (own := [("one", 10)]) rfl sc_rows_met.nd (pi_listK K.fr (pv 4)) (blkOk_by (own := [("one", 10)]) (N := N_rows_met) (sc := defScope s_rows_met) (by decide +kernel)) (fun _ _ _ _ _ => (pg_name (i := 10) sc_rows_met.nd rfl (by first | exact Or.inl rfl | exact Or.inr rfl))) (fun _ _ _ _ _ => pts_nil) (fun _ _ _ _ _ => (pe_tup (pa_cons (pv 10) (pa_cons (pe_nget hu9 (pv 3) (pv 10) (fun _ _ => rfl)) pa_nil)))))) pss_nil)))))), rfl, (show StX _ _ _ [some (.dat (enc (letters_106 : Txt))), some (.dat (enc (table_107 : (List (List Int))))), none, none, none, none, none, none, none, none, none] _ _ _ _ from ?_)⟩
  unfold rows_met_b
  refine s_set (i := 2) (EvP.cv (m' := (chk (rngB 0 ((table_107).length : Int)) (.ok (Tp.mk (rng 0 ((table_107).length : Int)))))) (e_tupRg (e_cb1 (EvP.lookL (v_dat (i := 1) (a := (table_107 : (List (List Int)))) rfl)) (o_len rfl))) (by simp only [M.bind_ok])) (le_none rfl) fun begin_108 => (show StX _ _ _ [some (.dat (enc (letters_106 : Txt))), some (.dat (enc (table_107 : (List (List Int))))), some (.dat (enc (begin_108 : (Tp Int)))), none, none, none, none, none, none, none, none] _ _ _ _ from ?_)
  refine s_own (i := 3) (EvP.cv (m' := (.ok (DicN.mk [(begin_108, (Txt.mk []))]))) (e_disp1N (v_dat (i := 2) (a := (begin_108 : (Tp Int))) rfl) (c_txt (cs := []) (by decide +kernel))) (by simp only [M.bind_ok])) (le_none rfl) fun words_109 => (show StX _ _ _ [some (.dat (enc (letters_106 : Txt))), some (.dat (enc (table_107 : (List (List Int))))), some (.dat (enc (begin_108 : (Tp Int)))), some (.own true (enc (words_109 : (DicN (Tp Int) Txt)))), none, none, none, none, none, none, none] _ _ _ _ from ?_)
  refine s_own (i := 4) (EvP.cv (m' := (chk (decide (((begin_108 :: ([] : (List (Tp Int))))).length < LIM)) (.ok (begin_108 :: ([] : (List (Tp Int))))))) (e_lst (al_cons (v_dat (i := 2) (a := (begin_108 : (Tp Int))) rfl) (al_nil (α := (Tp Int))))) (by simp only [M.bind_ok])) (le_none rfl) fun order_110 => (show StX _ _ _ [some (.dat (enc (letters_106 : Txt))), some (.dat (enc (table_107 : (List (List Int))))), some (.dat (enc (begin_108 : (Tp Int)))), some (.own true (enc (words_109 : (DicN (Tp Int) Txt)))), some (.own true (enc (order_110 : (List (Tp Int))))), none, none, none, none, none, none] _ _ _ _ from ?_)
  refine s_set (i := 5) (EvP.cv (m' := (.ok (0 : Int))) (c_int (i := 0)) (by simp only [M.bind_ok])) (le_none rfl) fun at_111 => (show StX _ _ _ [some (.dat (enc (letters_106 : Txt))), some (.dat (enc (table_107 : (List (List Int))))), some (.dat (enc (begin_108 : (Tp Int)))), some (.own true (enc (words_109 : (DicN (Tp Int) Txt)))), some (.own true (enc (order_110 : (List (Tp Int))))), some (.dat (enc (at_111 : Int))), none, none, none, none, none] _ _ _ _ from ?_)
  refine s_while (ps := (fun s112 => [some (.dat (enc (letters_106 : Txt))), some (.dat (enc (table_107 : (List (List Int))))), some (.dat (enc (begin_108 : (Tp Int)))), some (.own true (enc (s112.1 : (DicN (Tp Int) Txt)))), some (.own true (enc (s112.2.1 : (List (Tp Int))))), some (.dat (enc (s112.2.2 : Int))), none, none, none, none, none])) (And.intro rfl (And.intro rfl (And.intro rfl (And.intro rfl (And.intro rfl (And.intro rfl True.intro)))))) (fun _ => (le_none rfl)) (fun s112 => EvT.cv (t_val (e_op (v_dat (i := 5) (a := (s112.2.2 : Int)) rfl) (e_cb1 (v_see (i := 4) (a := (s112.2.1 : (List (Tp Int)))) rfl) (o_len rfl)) o_lt)) rfl) (fun s112 => (show StX _ _ _ [some (.dat (enc (letters_106 : Txt))), some (.dat (enc (table_107 : (List (List Int))))), some (.dat (enc (begin_108 : (Tp Int)))), some (.own true (enc (s112.1 : (DicN (Tp Int) Txt)))), some (.own true (enc (s112.2.1 : (List (Tp Int))))), some (.dat (enc (s112.2.2 : Int))), none, none, none, none, none] _ _ _ _ from ?_)) (fun s112 => (show StX _ _ _ [some (.dat (enc (letters_106 : Txt))), some (.dat (enc (table_107 : (List (List Int))))), some (.dat (enc (begin_108 : (Tp Int)))), some (.own true (enc (s112.1 : (DicN (Tp Int) Txt)))), some (.own true (enc (s112.2.1 : (List (Tp Int))))), some (.dat (enc (s112.2.2 : Int))), none, none, none, none, none] _ _ _ _ from ?_))
  · refine s_for (vs := [6, 7]) (ps := (fun s113 => [some (.dat (enc (letters_106 : Txt))), some (.dat (enc (table_107 : (List (List Int))))), some (.dat (enc (begin_108 : (Tp Int)))), some (.own true (enc (s113.1 : (DicN (Tp Int) Txt)))), some (.own true (enc (s113.2 : (List (Tp Int))))), some (.dat (enc (s112.2.2 : Int))), none, none, none, none, none])) (EvIt.cv (m' := (chk (decide ((letters_106).cs.length < LIM)) (.ok (enumL (signs letters_106))))) (it_enumS (v_dat (i := 0) (a := (letters_106 : Txt)) rfl)) (by simp only [M.bind_ok])) (tg_2 (i := 6) (j := 7) (vs := [6, 7]) (by simp) (by simp)) (le_none rfl) (And.intro rfl (And.intro rfl (And.intro rfl (And.intro rfl (And.intro rfl (And.intro rfl True.intro)))))) (fun F0' s113 x114 => (show StX _ _ _ [some (.dat (enc (letters_106 : Txt))), some (.dat (enc (table_107 : (List (List Int))))), some (.dat (enc (begin_108 : (Tp Int)))), some (.own true (enc (s113.1 : (DicN (Tp Int) Txt)))), some (.own true (enc (s113.2 : (List (Tp Int))))), some (.dat (enc (s112.2.2 : Int))), some (.dat (enc (x114.1 : Int))), some (.dat (enc (x114.2 : Txt))), none, none, none] _ _ _ _ from ?_)) (fun s113 => (show StX _ _ _ [some (.dat (enc (letters_106 : Txt))), some (.dat (enc (table_107 : (List (List Int))))), some (.dat (enc (begin_108 : (Tp Int)))), some (.own true (enc (s113.1 : (DicN (Tp Int) Txt)))), some (.own true (enc (s113.2 : (List (Tp Int))))), some (.dat (enc (s112.2.2 : Int))), none, none, none, none, none] _ _ _ _ from ?_))
    · refine s_set (i := 8) (EvP.cv (m' := (M.bind (M.bind (M.bind (getL s113.2 s112.2.2) fun z119 => (.ok (z119).xs)) fun z122 => (lcM (fun x120 => (M.bind (getL table_107 x120) fun z121 => (getL z121 x114.1))) z122)) fun z123 => (.ok (Tp.mk z123)))) (e_cb1 (EvP.look (e_lc (it_tup (e_op (v_see (i := 4) (a := (s113.2 : (List (Tp Int)))) rfl) (v_dat (i := 5) (a := (s112.2.2 : Int)) rfl) o_ixL)) (tg_name (i := 9) (vs := [9]) (by simp)) (fun x120 => (EvP.cv (m' := (M.bind (getL table_107 x120) fun z121 => (getL z121 x114.1))) (e_op (EvP.lookL (e_op (EvP.lookL (v_dat (i := 1) (a := (table_107 : (List (List Int)))) rfl)) (v_dat (i := 9) (a := (x120 : Int)) rfl) o_ixL)) (v_dat (i := 6) (a := (x114.1 : Int)) rfl) o_ixL) (by simp only [M.bind_ok]))))) o_tuple) (by simp only [M.bind_ok])) (le_none rfl) fun behind_124 => (show StX _ _ _ [some (.dat (enc (letters_106 : Txt))), some (.dat (enc (table_107 : (List (List Int))))), some (.dat (enc (begin_108 : (Tp Int)))), some (.own true (enc (s113.1 : (DicN (Tp Int) Txt)))), some (.own true (enc (s113.2 : (List (Tp Int))))), some (.dat (enc (s112.2.2 : Int))), some (.dat (enc (x114.1 : Int))), some (.dat (enc (x114.2 : Txt))), some (.dat (enc (behind_124 : (Tp Int)))), none, none] _ _ _ _ from ?_)
      refine s_ifM (N' := ((DicN (Tp Int) Txt) × (List (Tp Int)))) (pn' := (fun j132 => [some (.dat (enc (letters_106 : Txt))), some (.dat (enc (table_107 : (List (List Int))))), some (.dat (enc (begin_108 : (Tp Int)))), some (.own true (enc (j132.1 : (DicN (Tp Int) Txt)))), some (.own true (enc (j132.2 : (List (Tp Int))))), some (.dat (enc (s112.2.2 : Int))), some (.dat (enc (x114.1 : Int))), some (.dat (enc (x114.2 : Txt))), some (.dat (enc (behind_124 : (Tp Int)))), none, none])) (EvT.cv (m' := (.ok (!hasN s113.1 behind_124))) (t_B (e_dninN (v_dat (i := 8) (a := (behind_124 : (Tp Int))) rfl) (v_see (i := 3) (a := (s113.1 : (DicN (Tp Int) Txt))) rfl))) (by simp only [M.bind_ok])) (le_none rfl) (show StX _ _ _ [some (.dat (enc (letters_106 : Txt))), some (.dat (enc (table_107 : (List (List Int))))), some (.dat (enc (begin_108 : (Tp Int)))), some (.own true (enc (s113.1 : (DicN (Tp Int) Txt)))), some (.own true (enc (s113.2 : (List (Tp Int))))), some (.dat (enc (s112.2.2 : Int))), some (.dat (enc (x114.1 : Int))), some (.dat (enc (x114.2 : Txt))), some (.dat (enc (behind_124 : (Tp Int)))), none, none] _ _ _ _ from ?_) (show StX _ _ _ [some (.dat (enc (letters_106 : Txt))), some (.dat (enc (table_107 : (List (List Int))))), some (.dat (enc (begin_108 : (Tp Int)))), some (.own true (enc (s113.1 : (DicN (Tp Int) Txt)))), some (.own true (enc (s113.2 : (List (Tp Int))))), some (.dat (enc (s112.2.2 : Int))), some (.dat (enc (x114.1 : Int))), some (.dat (enc (x114.2 : Txt))), some (.dat (enc (behind_124 : (Tp Int)))), none, none] _ _ _ _ from ?_) (fun j132 => (show StX _ _ _ [some (.dat (enc (letters_106 : Txt))), some (.dat (enc (table_107 : (List (List Int))))), some (.dat (enc (begin_108 : (Tp Int)))), some (.own true (enc (j132.1 : (DicN (Tp Int) Txt)))), some (.own true (enc (j132.2 : (List (Tp Int))))), some (.dat (enc (s112.2.2 : Int))), some (.dat (enc (x114.1 : Int))), some (.dat (enc (x114.2 : Txt))), some (.dat (enc (behind_124 : (Tp Int)))), none, none] _ _ _ _ from ?_))
      · refine s_dputN (i := 3) (d := (s113.1 : (DicN (Tp Int) Txt))) rfl (EvP.cv (m' := (M.bind (M.bind (getL s113.2 s112.2.2) fun z133 => (getN s113.1 z133)) fun z134 => (chk (decide ((z134).cs.length + (x114.2).cs.length < LIM)) (.ok (Txt.mk ((z134).cs ++ (x114.2).cs)))))) (e_op (e_dgetN (v_see (i := 3) (a := (s113.1 : (DicN (Tp Int) Txt))) rfl) (e_op (v_see (i := 4) (a := (s113.2 : (List (Tp Int)))) rfl) (v_dat (i := 5) (a := (s112.2.2 : Int)) rfl) o_ixL)) (v_dat (i := 7) (a := (x114.2 : Txt)) rfl) o_addS) (by simp only [M.bind_ok])) (EvP.cv (m' := (.ok behind_124)) (v_dat (i := 8) (a := (behind_124 : (Tp Int))) rfl) (by simp only [M.bind_ok])) (le_none rfl) fun a135 k136 => (show StX _ _ _ [some (.dat (enc (letters_106 : Txt))), some (.dat (enc (table_107 : (List (List Int))))), some (.dat (enc (begin_108 : (Tp Int)))), some (.own true (enc ((DicN.mk (pt (s113.1).kvs k136 a135)) : (DicN (Tp Int) Txt)))), some (.own true (enc (s113.2 : (List (Tp Int))))), some (.dat (enc (s112.2.2 : Int))), some (.dat (enc (x114.1 : Int))), some (.dat (enc (x114.2 : Txt))), some (.dat (enc (behind_124 : (Tp Int)))), none, none] _ _ _ _ from ?_)
        refine s_app (i := 4) (xs := (s113.2 : (List (Tp Int)))) rfl (EvP.cv (m' := (.ok behind_124)) (v_dat (i := 8) (a := (behind_124 : (Tp Int))) rfl) (by simp only [M.bind_ok])) (le_none rfl) fun a137 => (show StX _ _ _ [some (.dat (enc (letters_106 : Txt))), some (.dat (enc (table_107 : (List (List Int))))), some (.dat (enc (begin_108 : (Tp Int)))), some (.own true (enc ((DicN.mk (pt (s113.1).kvs k136 a135)) : (DicN (Tp Int) Txt)))), some (.own true (enc ((s113.2 ++ [a137]) : (List (Tp Int))))), some (.dat (enc (s112.2.2 : Int))), some (.dat (enc (x114.1 : Int))), some (.dat (enc (x114.2 : Txt))), some (.dat (enc (behind_124 : (Tp Int)))), none, none] _ _ _ _ from ?_)
        refine s_ifD (EvT.cv (m' := (.ok (decide ((2000 : Int) < (((s113.2 ++ [a137])).length : Int))))) (t_val (e_op (e_cb1 (v_see (i := 4) (a := ((s113.2 ++ [a137]) : (List (Tp Int)))) rfl) (o_len rfl)) (c_int (i := 2000)) o_gt)) (by simp only [M.bind_ok])) (le_none rfl) (show StX _ _ _ [some (.dat (enc (letters_106 : Txt))), some (.dat (enc (table_107 : (List (List Int))))), some (.dat (enc (begin_108 : (Tp Int)))), some (.own true (enc ((DicN.mk (pt (s113.1).kvs k136 a135)) : (DicN (Tp Int) Txt)))), some (.own true (enc ((s113.2 ++ [a137]) : (List (Tp Int))))), some (.dat (enc (s112.2.2 : Int))), some (.dat (enc (x114.1 : Int))), some (.dat (enc (x114.2 : Txt))), some (.dat (enc (behind_124 : (Tp Int)))), none, none] _ _ _ _ from ?_) (show StX _ _ _ [some (.dat (enc (letters_106 : Txt))), some (.dat (enc (table_107 : (List (List Int))))), some (.dat (enc (begin_108 : (Tp Int)))), some (.own true (enc ((DicN.mk (pt (s113.1).kvs k136 a135)) : (DicN (Tp Int) Txt)))), some (.own true (enc ((s113.2 ++ [a137]) : (List (Tp Int))))), some (.dat (enc (s112.2.2 : Int))), some (.dat (enc (x114.1 : Int))), some (.dat (enc (x114.2 : Txt))), some (.dat (enc (behind_124 : (Tp Int)))), none, none] _ _ _ _ from ?_)
        · exact s_raise gx_TooMany (le_none rfl)
        · exact s_nil (And.intro rfl (And.intro rfl (And.intro rfl (And.intro rfl (And.intro rfl (And.intro rfl (And.intro rfl (And.intro rfl (And.intro rfl True.intro)))))))))
      · exact s_nil (And.intro rfl (And.intro rfl (And.intro rfl (And.intro rfl (And.intro rfl (And.intro rfl (And.intro rfl (And.intro rfl (And.intro rfl True.intro)))))))))
      · exact s_nil (And.intro rfl (And.intro rfl (And.intro rfl (And.intro rfl (And.intro rfl (And.intro rfl True.intro))))))
    · refine s_aug (i := 5) (a := (s112.2.2 : Int)) rfl (EvP.cv (m' := (.ok (1 : Int))) (c_int (i := 1)) (by simp only [M.bind_ok])) (le_none rfl) fun b139 => (show StX _ _ _ [some (.dat (enc (letters_106 : Txt))), some (.dat (enc (table_107 : (List (List Int))))), some (.dat (enc (begin_108 : (Tp Int)))), some (.own true (enc (s113.1 : (DicN (Tp Int) Txt)))), some (.own true (enc (s113.2 : (List (Tp Int))))), some (.dat (enc ((s112.2.2 + b139) : Int))), none, none, none, none, none] _ _ _ _ from ?_)
      exact s_nil (And.intro rfl (And.intro rfl (And.intro rfl (And.intro rfl (And.intro rfl (And.intro rfl True.intro))))))
  · refine s_froz (i := 4) (a := (s112.2.1 : (List (Tp Int)))) rfl (show StX _ _ _ [some (.dat (enc (letters_106 : Txt))), some (.dat (enc (table_107 : (List (List Int))))), some (.dat (enc (begin_108 : (Tp Int)))), some (.own true (enc (s112.1 : (DicN (Tp Int) Txt)))), some (.dat (enc (s112.2.1 : (List (Tp Int))))), some (.dat (enc (s112.2.2 : Int))), none, none, none, none, none] _ _ _ _ from ?_)
    exact s_ret (k := .new) (EvP.cv (m' := (lcM (fun x141 => (M.bind (getN s112.1 x141) fun z142 => (.ok (x141, z142)))) s112.2.1)) (e_lc (it_list (v_dat (i := 4) (a := (s112.2.1 : (List (Tp Int)))) rfl)) (tg_name (i := 10) (vs := [10]) (by simp)) (fun x141 => (EvP.cv (m' := (M.bind (getN s112.1 x141) fun z142 => (.ok (x141, z142)))) (e_tup2 (v_dat (i := 10) (a := (x141 : (Tp Int))) rfl) (e_dgetN (v_see (i := 3) (a := (s112.1 : (DicN (Tp Int) Txt))) rfl) (v_dat (i := 10) (a := (x141 : (Tp Int))) rfl))) (by simp only [M.bind_ok])))) (by simp only [M.bind_ok])) (fun a => a) (le_none rfl)

abbrev s_members : Stmt := top 15
abbrev N_members : List Str := ["letters", "machine", "row", "word"]
theorem sc_members : FnScope N_members ["letters", "machine"] (defScope s_members) := ⟨rfl, rfl, rfl, by decide +kernel, rfl, by decide +kernel, by decide +kernel⟩
theorem ok_members {K : Kx} {mg : Str → Option Value} {base : Heap} {f : Addr} {fd : FuncData} (F : Fun K.fr "members" "members" s_members f fd) (BT : Bt mg) (GL : Glo mg) (XC : Xcs K.fr mg) (h_rows_met : Fk K mg base "rows_met" 1 ["letters", "table"] (spM K mg .new (Rm2 rows_met))) (h_least : Fk K mg base "least" 2 ["letters", "machine"] (spM K mg .dat (Rm2 least))) :
    FnOk K.P K.w K.fr mg base (L2.CX K.P K.w) 3 f fd ["letters", "machine"] (spM K mg .deep (Rm2 members)) := by
  obtain ⟨f_rows_met, fd_rows_met, G_rows_met, b_rows_met, m_rows_met, k_rows_met⟩ := h_rows_met.ex
  obtain ⟨f_least, fd_least, G_least, b_least, m_least, k_least⟩ := h_least.ex
  obtain ⟨t_MOST_THINGS, gm_MOST_THINGS⟩ := GL.g_MOST_THINGS
  refine fn_ok (N := N_members) (R := (List (List Int))) none (fun r h => nomatch h) F sc_members (by rintro ds m ⟨letters_144, machine_145, rfl, _⟩; rfl) (by decide) (fun cdv A outer s H E c ds m hr hm hK hg hW => ?_)
  obtain ⟨letters_144, machine_145, rfl, rfl⟩ := hm
  obtain ⟨cK, cmg, cF, cH, cG, cW⟩ := c
  cases (show K = cK from hK.symm); cases (show mg = cmg from hg.symm); cases hW
  have hu := hu_of hr
  have hu64 := hr.units
  have hu9 := Nat.lt_of_le_of_lt (Nat.add_le_add_left (by decide : 9 ≤ 64) _) hu64
  have hu16 := Nat.lt_of_le_of_lt (Nat.add_le_add_left (by decide : 16 ≤ 64) _) hu64
  have tk : Takes (cxOf (L2.CX K.P K.w) K.P K.w K.fr mg base N_members "members" (defScope s_members) f cdv A outer s H E) (fun cls d _ H => E cls d H) := takes_of rfl rfl rfl rfl
  refine ⟨_, members_b letters_144 machine_145, (pss_cons (ps_ret (pe_lc (own := [("row", 2), ("word", 3)]) rfl sc_members.nd (pi_listK K.fr (pe_callS G_rows_met (hr.mono (by decide)) rfl m_rows_met k_rows_met b_rows_met (fun σ => passAt tk σ) (pa_cons (pv 0) (pa_cons (pe_ix (ix_tupK K.fr) (pe_callS G_least (hr.mono (by decide)) rfl m_least k_least b_least (fun σ => passAt tk σ) (pa_cons (pv 0) (pa_cons (pv 1) pa_nil))) pe_int (fun _ _ => rfl)) pa_nil)))) (blkOk_by (own := [("row", 2), ("word", 3)]) (N := N_members) (sc := defScope s_members) (by decide +kernel)) (fun _ _ _ _ _ => (pg_tupK (n := 2) K.fr rfl (pgs_cons (pg_name (i := 2) sc_members.nd rfl (by first | exact Or.inl rfl | exact Or.inr rfl)) (pgs_cons (pg_name (i := 3) sc_members.nd rfl (by first | exact Or.inl rfl | exact Or.inr rfl)) pgs_nil)))) (fun _ _ _ _ _ => pts_nil) (fun _ _ _ _ _ => (pe_callTy (call_listK K.fr) rfl BT.b_list (by decide +kernel) (pa_cons (pv 2) pa_nil))))) pss_nil), rfl, (show StX _ _ _ [some (.dat (enc (letters_144 : Txt))), some (.dat (enc (machine_145 : ((List (List Int)) × (List Bool))))), none, none] _ _ _ _ from ?_)⟩
  unfold members_b
  exact s_ret (k := .deep) (EvP.cv (m' := (M.bind (M.bind (M.bind (least letters_144 machine_145) fun z146 => (.ok (z146).1)) fun z147 => (rows_met letters_144 z147)) fun z149 => (lcM (fun x148 => (.ok (x148.1).xs)) z149))) (e_lcD (env := [some (.dat (enc (letters_144 : Txt))), some (.dat (enc (machine_145 : ((List (List Int)) × (List Bool))))), none, none]) (it_list (EvP.froz (e_call2 (f := rows_met) (v_dat (i := 0) (a := (letters_144 : Txt)) rfl) (e_fst (e_call2 (f := least) (v_dat (i := 0) (a := (letters_144 : Txt)) rfl) (v_dat (i := 1) (a := (machine_145 : ((List (List Int)) × (List Bool)))) rfl)))))) (tg_2 (i := 2) (j := 3) (vs := [2, 3]) (by simp) (by simp)) (fun x148 => (EvP.cv (m' := (.ok (x148.1).xs)) (EvP.deepL (e_cb1 (v_dat (i := 2) (a := (x148.1 : (Tp Int))) rfl) o_listT)) (by simp only [M.bind_ok])))) (by simp only [M.bind_ok])) (fun a => a) (le_none rfl)

abbrev s_ring_of : Stmt := top 18
abbrev N_ring_of : List Str := ["letters", "machine", "row", "word", "states"]
theorem sc_ring_of : FnScope N_ring_of ["letters", "machine"] (defScope s_ring_of) := ⟨rfl, rfl, rfl, by decide +kernel, rfl, by decide +kernel, by decide +kernel⟩
theorem ok_ring_of {K : Kx} {mg : Str → Option Value} {base : Heap} {f : Addr} {fd : FuncData} (F : Fun K.fr "ring_of" "ring_of" s_ring_of f fd) (BT : Bt mg) (GL : Glo mg) (XC : Xcs K.fr mg) (h_rows_met : Fk K mg base "rows_met" 1 ["letters", "table"] (spM K mg .new (Rm2 rows_met))) (h_least : Fk K mg base "least" 2 ["letters", "machine"] (spM K mg .dat (Rm2 least))) :
    FnOk K.P K.w K.fr mg base (L2.CX K.P K.w) 3 f fd ["letters", "machine"] (spM K mg .dat (Rm2 ring_of)) := by
  obtain ⟨f_rows_met, fd_rows_met, G_rows_met, b_rows_met, m_rows_met, k_rows_met⟩ := h_rows_met.ex
  obtain ⟨f_least, fd_least, G_least, b_least, m_least, k_least⟩ := h_least.ex
  obtain ⟨t_MOST_THINGS, gm_MOST_THINGS⟩ := GL.g_MOST_THINGS
  refine fn_ok (N := N_ring_of) (R := Int) none (fun r h => nomatch h) F sc_ring_of (by rintro ds m ⟨letters_151, machine_152, rfl, _⟩; rfl) (by decide) (fun cdv A outer s H E c ds m hr hm hK hg hW => ?_)
  obtain ⟨letters_151, machine_152, rfl, rfl⟩ := hm
  obtain ⟨cK, cmg, cF, cH, cG, cW⟩ := c
  cases (show K = cK from hK.symm); cases (show mg = cmg from hg.symm); cases hW
  have hu := hu_of hr
  have hu64 := hr.units
  have hu9 := Nat.lt_of_le_of_lt (Nat.add_le_add_left (by decide : 9 ≤ 64) _) hu64
  have hu16 := Nat.lt_of_le_of_lt (Nat.add_le_add_left (by decide : 16 ≤ 64) _) hu64
  have tk : Takes (cxOf (L2.CX K.P K.w) K.P K.w K.fr mg base N_ring_of "ring_of" (defScope s_ring_of) f cdv A outer s H E) (fun cls d _ H => E cls d H) := takes_of rfl rfl rfl rfl
  refine ⟨_, ring_of_b letters_151 machine_152, (pss_cons (ps_for (passes_of rfl) rfl (pi_listK K.fr (pe_callS G_rows_met (hr.mono (by decide)) rfl m_rows_met k_rows_met b_rows_met (fun σ => passAt tk σ) (pa_cons (pv 0) (pa_cons (pe_ix (ix_tupK K.fr) (pe_callS G_least (hr.mono (by decide)) rfl m_least k_least b_least (fun σ => passAt tk σ) (pa_cons (pv 0) (pa_cons (pv 1) pa_nil))) pe_int (fun _ _ => rfl)) pa_nil)))) (pg_tupK (n := 2) K.fr rfl (pgs_cons (pg_name (i := 2) sc_ring_of.nd rfl (by first | exact Or.inl rfl | exact Or.inr rfl)) (pgs_cons (pg_name (i := 3) sc_ring_of.nd rfl (by first | exact Or.inl rfl | exact Or.inr rfl)) pgs_nil))) pss_any) pss_any), rfl, (show StX _ _ _ [some (.dat (enc (letters_151 : Txt))), some (.dat (enc (machine_152 : ((List (List Int)) × (List Bool))))), none, none, none] _ _ _ _ from ?_)⟩
  unfold ring_of_b
  refine s_for (vs := [2, 3]) (ps := (fun s155 => [some (.dat (enc (letters_151 : Txt))), some (.dat (enc (machine_152 : ((List (List Int)) × (List Bool))))), none, none, none])) (EvIt.cv (m' := (M.bind (M.bind (least letters_151 machine_152) fun z153 => (.ok (z153).1)) fun z154 => (rows_met letters_151 z154))) (it_list (EvP.froz (e_call2 (f := rows_met) (v_dat (i := 0) (a := (letters_151 : Txt)) rfl) (e_fst (e_call2 (f := least) (v_dat (i := 0) (a := (letters_151 : Txt)) rfl) (v_dat (i := 1) (a := (machine_152 : ((List (List Int)) × (List Bool)))) rfl)))))) (by simp only [M.bind_ok])) (tg_2 (i := 2) (j := 3) (vs := [2, 3]) (by simp) (by simp)) (le_none rfl) (And.intro rfl (And.intro rfl True.intro)) (fun F0' s155 x156 => (show StX _ _ _ [some (.dat (enc (letters_151 : Txt))), some (.dat (enc (machine_152 : ((List (List Int)) × (List Bool))))), some (.dat (enc (x156.1 : (Tp Int)))), some (.dat (enc (x156.2 : Txt))), none] _ _ _ _ from ?_)) (fun s155 => (show StX _ _ _ [some (.dat (enc (letters_151 : Txt))), some (.dat (enc (machine_152 : ((List (List Int)) × (List Bool))))), none, none, none] _ _ _ _ from ?_))
  · exact s_stuck
  · exact s_stuck

abbrev s_rest_paper : Stmt := top 19
abbrev N_rest_paper : List Str := ["letters", "machine", "rows", "row"]
theorem sc_rest_paper : FnScope N_rest_paper ["letters", "machine"] (defScope s_rest_paper) := ⟨rfl, rfl, rfl, by decide +kernel, rfl, by decide +kernel, by decide +kernel⟩
theorem ok_rest_paper {K : Kx} {mg : Str → Option Value} {base : Heap} {f : Addr} {fd : FuncData} (F : Fun K.fr "rest_paper" "rest_paper" s_rest_paper f fd) (BT : Bt mg) (GL : Glo mg) (XC : Xcs K.fr mg) (h_members : Fk K mg base "members" 3 ["letters", "machine"] (spM K mg .deep (Rm2 members))) :
    FnOk K.P K.w K.fr mg base (L2.CX K.P K.w) 4 f fd ["letters", "machine"] (spM K mg .dat (Rm2 rest_paper)) := by
  obtain ⟨f_members, fd_members, G_members, b_members, m_members, k_members⟩ := h_members.ex
  obtain ⟨t_MOST_THINGS, gm_MOST_THINGS⟩ := GL.g_MOST_THINGS
  refine fn_ok (N := N_rest_paper) (R := Int) none (fun r h => nomatch h) F sc_rest_paper (by rintro ds m ⟨letters_158, machine_159, rfl, _⟩; rfl) (by decide) (fun cdv A outer s H E c ds m hr hm hK hg hW => ?_)
  obtain ⟨letters_158, machine_159, rfl, rfl⟩ := hm
  obtain ⟨cK, cmg, cF, cH, cG, cW⟩ := c
  cases (show K = cK from hK.symm); cases (show mg = cmg from hg.symm); cases hW
  have hu := hu_of hr
  have hu64 := hr.units
  have hu9 := Nat.lt_of_le_of_lt (Nat.add_le_add_left (by decide : 9 ≤ 64) _) hu64
  have hu16 := Nat.lt_of_le_of_lt (Nat.add_le_add_left (by decide : 16 ≤ 64) _) hu64
  have tk : Takes (cxOf (L2.CX K.P K.w) K.P K.w K.fr mg base N_rest_paper "rest_paper" (defScope s_rest_paper) f cdv A outer s H E) (fun cls d _ H => E cls d H) := takes_of rfl rfl rfl rfl
  refine ⟨_, rest_paper_b letters_158 machine_159, (pss_cons (ps_set (i := 2) sc_rest_paper.nd rfl (by first | exact Or.inl rfl | exact Or.inr rfl) (pe_callS G_members (hr.mono (by decide)) rfl m_members k_members b_members (fun σ => passAt tk σ) (pa_cons (pv 0) (pa_cons (pv 1) pa_nil)))) pss_any), rfl, (show StX _ _ _ [some (.dat (enc (letters_158 : Txt))), some (.dat (enc (machine_159 : ((List (List Int)) × (List Bool))))), none, none] _ _ _ _ from ?_)⟩
  unfold rest_paper_b
  refine s_set (i := 2) (EvP.cv (m' := (members letters_158 machine_159)) (EvP.shallow (e_call2 (f := members) (v_dat (i := 0) (a := (letters_158 : Txt)) rfl) (v_dat (i := 1) (a := (machine_159 : ((List (List Int)) × (List Bool)))) rfl))) (by simp only [M.bind_ok])) (le_none rfl) fun rows_160 => (show StX _ _ _ [some (.dat (enc (letters_158 : Txt))), some (.dat (enc (machine_159 : ((List (List Int)) × (List Bool))))), some (.dat (enc (rows_160 : (List (List Int))))), none] _ _ _ _ from ?_)
  exact s_stuck

abbrev s__law_pool : Stmt := top 21
abbrev N__law_pool : List Str := ["script", "pool", "state", "k", "cell", "step", "one", "two"]
theorem sc__law_pool : FnScope N__law_pool ["script"] (defScope s__law_pool) := ⟨rfl, rfl, rfl, by decide +kernel, rfl, by decide +kernel, by decide +kernel⟩
theorem ok__law_pool {K : Kx} {mg : Str → Option Value} {base : Heap} {f : Addr} {fd : FuncData} (F : Fun K.fr "_law_pool" "_law_pool" s__law_pool f fd) (BT : Bt mg) (GL : Glo mg) (XC : Xcs K.fr mg)  :
    FnOk K.P K.w K.fr mg base (L2.CX K.P K.w) 1 f fd ["script"] (spM K mg .new (Rm1 _law_pool)) := by
  obtain ⟨t_MOST_THINGS, gm_MOST_THINGS⟩ := GL.g_MOST_THINGS
  refine fn_ok (N := N__law_pool) (R := (List Int)) none (fun r h => nomatch h) F sc__law_pool (by rintro ds m ⟨script_162, rfl, _⟩; rfl) (by decide) (fun cdv A outer s H E c ds m hr hm hK hg hW => ?_)
  obtain ⟨script_162, rfl, rfl⟩ := hm
  obtain ⟨cK, cmg, cF, cH, cG, cW⟩ := c
  cases (show K = cK from hK.symm); cases (show mg = cmg from hg.symm); cases hW
  have hu := hu_of hr
  have hu64 := hr.units
  have hu9 := Nat.lt_of_le_of_lt (Nat.add_le_add_left (by decide : 9 ≤ 64) _) hu64
  have hu16 := Nat.lt_of_le_of_lt (Nat.add_le_add_left (by decide : 16 ≤ 64) _) hu64
  have tk : Takes (cxOf (L2.CX K.P K.w) K.P K.w K.fr mg base N__law_pool "_law_pool" (defScope s__law_pool) f cdv A outer s H E) (fun cls d _ H => E cls d H) := takes_of rfl rfl rfl rfl
  refine ⟨_, _law_pool_b script_162, (pss_cons (ps_set (i := 1) sc__law_pool.nd rfl (by first | exact Or.inl rfl | exact Or.inr rfl) (pe_lst pa_nil)) (pss_cons (ps_set (i := 2) sc__law_pool.nd rfl (by first | exact Or.inl rfl | exact Or.inr rfl) pe_int) (pss_cons (ps_for (passes_of rfl) rfl (pi_range1 rfl BT.b_range (pa_cons (pe_callB (call_min2K rfl) rfl BT.b_min (by decide +kernel) (pa_cons (pe_callB (call_lenK K.fr) rfl BT.b_len PySem.boot_len (pa_cons (pv 0) pa_nil)) (pa_cons pe_int pa_nil))) pa_nil)) (pg_name (i := 3) sc__law_pool.nd rfl (by first | exact Or.inl rfl | exact Or.inr rfl)) (pss_cons (ps_set (i := 4) sc__law_pool.nd rfl (by first | exact Or.inl rfl | exact Or.inr rfl) (pe_ix (ix_listK K.fr) (pv 0) (pv 3) (fun _ _ => rfl))) (pss_cons (ps_set (i := 2) sc__law_pool.nd rfl (by first | exact Or.inl rfl | exact Or.inr rfl) (pe_op op_mod (pe_callTy call_intK rfl BT.b_int (by decide +kernel) (pa_cons (pe_op op_add (pe_op op_add (pe_op op_mul (pv 2) pe_int) (pe_op op_mul (pv 4) pe_int)) (pv 3)) pa_nil)) pe_int)) (pss_cons (ps_if (pt_cmpR op_ge (pv 4) (pe_op op_pow pe_int pe_int) (nomark _)) (pss_cons (ps_for (passes_of rfl) rfl (pi_range1 rfl BT.b_range (pa_cons pe_int pa_nil)) (pg_name (i := 5) sc__law_pool.nd rfl (by first | exact Or.inl rfl | exact Or.inr rfl)) (pss_cons (ps_if (pt_cmpR op_eq (pv 4) pe_int (nomark _)) (pss_cons ps_break pss_nil) pss_nil) (pss_cons (ps_expr (pe_bmK K.fr PySem.F.plainAttrs_list PySem.F.slot_list_append PySem.F.type_list_append mt_append (pv 1) (pa_cons (pe_op op_mod (pe_callTy call_intK rfl BT.b_int (by decide +kernel) (pa_cons (pv 4) pa_nil)) pe_int) pa_nil))) (pss_cons (ps_set (i := 4) sc__law_pool.nd rfl (by first | exact Or.inl rfl | exact Or.inr rfl) (pe_op op_fdiv (pv 4) pe_int)) pss_nil)))) pss_nil) (pss_cons (ps_set (i := 6) sc__law_pool.nd rfl (by first | exact Or.inl rfl | exact Or.inr rfl) (pe_op op_mod (pe_callTy call_intK rfl BT.b_int (by decide +kernel) (pa_cons (pe_op op_add (pe_op op_add (pe_op op_mul (pv 4) pe_int) (pe_op op_mul (pv 3) pe_int)) pe_int) pa_nil)) pe_int)) (pss_cons (ps_set (i := 7) sc__law_pool.nd rfl (by first | exact Or.inl rfl | exact Or.inr rfl) (pe_op op_mod (pe_callTy call_intK rfl BT.b_int (by decide +kernel) (pa_cons (pe_op op_add (pe_op op_add (pe_op op_mul (pv 6) pe_int) (pe_op op_mul (pv 4) pe_int)) (pv 3)) pa_nil)) pe_int)) (pss_cons (ps_set (i := 1) sc__law_pool.nd rfl (by first | exact Or.inl rfl | exact Or.inr rfl) (pe_op op_cat (pv 1) (pe_lst (pa_cons (pe_op op_mod (pe_callTy call_intK rfl BT.b_int (by decide +kernel) (pa_cons (pe_op op_fdiv (pv 6) pe_int) pa_nil)) pe_int) (pa_cons (pe_op op_mod (pe_callTy call_intK rfl BT.b_int (by decide +kernel) (pa_cons (pv 7) pa_nil)) pe_int) pa_nil))))) pss_nil)))) pss_nil)))) (pss_cons (ps_for (passes_of rfl) rfl (pi_range1 rfl BT.b_range (pa_cons pe_int pa_nil)) (pg_name (i := 5) sc__law_pool.nd rfl (by first | exact Or.inl rfl | exact Or.inr rfl)) (pss_cons (ps_set (i := 2) sc__law_pool.nd rfl (by first | exact Or.inl rfl | exact Or.inr rfl) (pe_op op_mod (pe_callTy call_intK rfl BT.b_int (by decide +kernel) (pa_cons (pe_op op_add (pe_op op_mul (pv 2) pe_int) pe_int) pa_nil)) pe_int)) (pss_cons (ps_expr (pe_bmK K.fr PySem.F.plainAttrs_list PySem.F.slot_list_append PySem.F.type_list_append mt_append (pv 1) (pa_cons (pe_op op_mod (pe_callTy call_intK rfl BT.b_int (by decide +kernel) (pa_cons (pe_op op_fdiv (pv 2) pe_int) pa_nil)) pe_int) pa_nil))) pss_nil))) (pss_cons (ps_ret (pv 1)) pss_nil))))), rfl, (show StX _ _ _ [some (.dat (enc (script_162 : Scr))), none, none, none, none, none, none, none] _ _ _ _ from ?_)⟩
  unfold _law_pool_b
  refine s_own (i := 1) (EvP.cv (m' := (.ok ([] : (List Int)))) (e_lst0 (α := Int)) (by simp only [M.bind_ok])) (le_none rfl) fun pool_163 => (show StX _ _ _ [some (.dat (enc (script_162 : Scr))), some (.own true (enc (pool_163 : (List Int)))), none, none, none, none, none, none] _ _ _ _ from ?_)
  refine s_set (i := 2) (EvP.cv (m' := (.ok (17 : Int))) (c_int (i := 17)) (by simp only [M.bind_ok])) (le_none rfl) fun state_164 => (show StX _ _ _ [some (.dat (enc (script_162 : Scr))), some (.own true (enc (pool_163 : (List Int)))), some (.dat (enc (state_164 : Int))), none, none, none, none, none] _ _ _ _ from ?_)
  refine s_for (vs := [3]) (ps := (fun s165 => [some (.dat (enc (script_162 : Scr))), some (.own true (enc (s165.1 : (List Int)))), some (.dat (enc (s165.2 : Int))), none, none, none, none, none])) (EvIt.cv (m' := (chk (rngB 0 (if (63 : Int) < ((script_162).xs.length : Int) then (63 : Int) else ((script_162).xs.length : Int))) (.ok (rng 0 (if (63 : Int) < ((script_162).xs.length : Int) then (63 : Int) else ((script_162).xs.length : Int)))))) (it_rng1 (e_cb2 (e_cb1 (v_dat (i := 0) (a := (script_162 : Scr)) rfl) (o_lenScr rfl)) (c_int (i := 63)) o_min2)) (by simp only [M.bind_ok])) (tg_name (i := 3) (vs := [3]) (by simp)) (le_none rfl) (And.intro rfl (And.intro rfl (And.intro rfl True.intro))) (fun F0' s165 x166 => (show StX _ _ _ [some (.dat (enc (script_162 : Scr))), some (.own true (enc (s165.1 : (List Int)))), some (.dat (enc (s165.2 : Int))), some (.dat (enc (x166 : Int))), none, none, none, none] _ _ _ _ from ?_)) (fun s165 => (show StX _ _ _ [some (.dat (enc (script_162 : Scr))), some (.own true (enc (s165.1 : (List Int)))), some (.dat (enc (s165.2 : Int))), none, none, none, none, none] _ _ _ _ from ?_))
  · refine s_set (i := 4) (EvP.cv (m' := (getL (script_162).xs x166)) (e_op (v_dat (i := 0) (a := (script_162 : Scr)) rfl) (v_dat (i := 3) (a := (x166 : Int)) rfl) o_ixScr) (by simp only [M.bind_ok])) (le_none rfl) fun cell_167 => (show StX _ _ _ [some (.dat (enc (script_162 : Scr))), some (.own true (enc (s165.1 : (List Int)))), some (.dat (enc (s165.2 : Int))), some (.dat (enc (x166 : Int))), some (.dat (enc (cell_167 : Int))), none, none, none] _ _ _ _ from ?_)
    refine s_set (i := 2) (EvP.cv (m' := (M.bind (M.bind (M.bind (M.bind (chk (cmulB s165.2 (69621 : Int)) (.ok (s165.2 * (69621 : Int)))) fun z171 => (M.bind (chk (cmulB cell_167 (48271 : Int)) (.ok (cell_167 * (48271 : Int)))) fun z172 => (.ok (z171 + z172)))) fun z173 => (.ok (z173 + x166))) fun z174 => (.ok z174)) fun z175 => (chk (posB z175 (2147483647 : Int)) (.ok (z175 % (2147483647 : Int)))))) (e_op (e_cb1 (e_op (e_op (e_op (v_dat (i := 2) (a := (s165.2 : Int)) rfl) (c_int (i := 69621)) o_mul) (e_op (v_dat (i := 4) (a := (cell_167 : Int)) rfl) (c_int (i := 48271)) o_mul) o_add) (v_dat (i := 3) (a := (x166 : Int)) rfl) o_add) o_int) (c_int (i := 2147483647)) o_mod) (by simp only [M.bind_ok])) (le_none rfl) fun state_176 => (show StX _ _ _ [some (.dat (enc (script_162 : Scr))), some (.own true (enc (s165.1 : (List Int)))), some (.dat (enc (state_176 : Int))), some (.dat (enc (x166 : Int))), some (.dat (enc (cell_167 : Int))), none, none, none] _ _ _ _ from ?_)
    refine s_ifM (N' := ((List Int) × Int)) (pn' := (fun j211 => [some (.dat (enc (script_162 : Scr))), some (.own true (enc (j211.1 : (List Int)))), some (.dat (enc (state_176 : Int))), some (.dat (enc (x166 : Int))), some (.dat (enc (j211.2 : Int))), none, none, none])) (EvT.cv (m' := (M.bind (chk (powB (10 : Int) (18 : Int)) (.ok ((10 : Int) ^ ((18 : Int)).toNat))) fun z177 => (.ok (decide (z177 ≤ cell_167))))) (t_val (e_op (v_dat (i := 4) (a := (cell_167 : Int)) rfl) (e_op (c_int (i := 10)) (c_int (i := 18)) o_pow) o_ge)) (by simp only [M.bind_ok])) (le_none rfl) (show StX _ _ _ [some (.dat (enc (script_162 : Scr))), some (.own true (enc (s165.1 : (List Int)))), some (.dat (enc (state_176 : Int))), some (.dat (enc (x166 : Int))), some (.dat (enc (cell_167 : Int))), none, none, none] _ _ _ _ from ?_) (show StX _ _ _ [some (.dat (enc (script_162 : Scr))), some (.own true (enc (s165.1 : (List Int)))), some (.dat (enc (state_176 : Int))), some (.dat (enc (x166 : Int))), some (.dat (enc (cell_167 : Int))), none, none, none] _ _ _ _ from ?_) (fun j211 => (show StX _ _ _ [some (.dat (enc (script_162 : Scr))), some (.own true (enc (j211.1 : (List Int)))), some (.dat (enc (state_176 : Int))), some (.dat (enc (x166 : Int))), some (.dat (enc (j211.2 : Int))), none, none, none] _ _ _ _ from ?_))
    · refine s_for (vs := [5]) (ps := (fun s212 => [some (.dat (enc (script_162 : Scr))), some (.own true (enc (s212.1 : (List Int)))), some (.dat (enc (state_176 : Int))), some (.dat (enc (x166 : Int))), some (.dat (enc (s212.2 : Int))), none, none, none])) (EvIt.cv (m' := (chk (rngB 0 (60 : Int)) (.ok (rng 0 (60 : Int))))) (it_rng1 (c_int (i := 60))) (by simp only [M.bind_ok])) (tg_name (i := 5) (vs := [5]) (by simp)) (le_none rfl) (And.intro rfl (And.intro rfl (And.intro rfl (And.intro rfl (And.intro rfl True.intro))))) (fun F0' s212 x213 => (show StX _ _ _ [some (.dat (enc (script_162 : Scr))), some (.own true (enc (s212.1 : (List Int)))), some (.dat (enc (state_176 : Int))), some (.dat (enc (x166 : Int))), some (.dat (enc (s212.2 : Int))), some (.dat (enc (x213 : Int))), none, none] _ _ _ _ from ?_)) (fun s212 => (show StX _ _ _ [some (.dat (enc (script_162 : Scr))), some (.own true (enc (s212.1 : (List Int)))), some (.dat (enc (state_176 : Int))), some (.dat (enc (x166 : Int))), some (.dat (enc (s212.2 : Int))), none, none, none] _ _ _ _ from ?_))
      · refine s_ifD (EvT.cv (m' := (.ok (eqD s212.2 (0 : Int)))) (t_val (e_op (v_dat (i := 4) (a := (s212.2 : Int)) rfl) (c_int (i := 0)) o_eq)) (by simp only [M.bind_ok])) (le_none rfl) (show StX _ _ _ [some (.dat (enc (script_162 : Scr))), some (.own true (enc (s212.1 : (List Int)))), some (.dat (enc (state_176 : Int))), some (.dat (enc (x166 : Int))), some (.dat (enc (s212.2 : Int))), some (.dat (enc (x213 : Int))), none, none] _ _ _ _ from ?_) (show StX _ _ _ [some (.dat (enc (script_162 : Scr))), some (.own true (enc (s212.1 : (List Int)))), some (.dat (enc (state_176 : Int))), some (.dat (enc (x166 : Int))), some (.dat (enc (s212.2 : Int))), some (.dat (enc (x213 : Int))), none, none] _ _ _ _ from ?_)
        · exact s_brk (And.intro rfl (And.intro rfl (And.intro rfl (And.intro rfl (And.intro rfl True.intro)))))
        · refine s_app (i := 1) (xs := (s212.1 : (List Int))) rfl (EvP.cv (m' := (chk (posB s212.2 (60 : Int)) (.ok (s212.2 % (60 : Int))))) (e_op (e_cb1 (v_dat (i := 4) (a := (s212.2 : Int)) rfl) o_int) (c_int (i := 60)) o_mod) (by simp only [M.bind_ok])) (le_none rfl) fun a214 => (show StX _ _ _ [some (.dat (enc (script_162 : Scr))), some (.own true (enc ((s212.1 ++ [a214]) : (List Int)))), some (.dat (enc (state_176 : Int))), some (.dat (enc (x166 : Int))), some (.dat (enc (s212.2 : Int))), some (.dat (enc (x213 : Int))), none, none] _ _ _ _ from ?_)
          refine s_set (i := 4) (EvP.cv (m' := (chk (divB s212.2 (60 : Int)) (.ok (s212.2 / (60 : Int))))) (e_op (v_dat (i := 4) (a := (s212.2 : Int)) rfl) (c_int (i := 60)) o_fdiv) (by simp only [M.bind_ok])) (le_none rfl) fun cell_215 => (show StX _ _ _ [some (.dat (enc (script_162 : Scr))), some (.own true (enc ((s212.1 ++ [a214]) : (List Int)))), some (.dat (enc (state_176 : Int))), some (.dat (enc (x166 : Int))), some (.dat (enc (cell_215 : Int))), some (.dat (enc (x213 : Int))), none, none] _ _ _ _ from ?_)
          exact s_nil (And.intro rfl (And.intro rfl (And.intro rfl (And.intro rfl (And.intro rfl True.intro)))))
      · exact s_nil (And.intro rfl (And.intro rfl (And.intro rfl (And.intro rfl (And.intro rfl True.intro)))))
    · refine s_set (i := 6) (EvP.cv (m' := (M.bind (M.bind (M.bind (M.bind (chk (cmulB cell_167 (48271 : Int)) (.ok (cell_167 * (48271 : Int)))) fun z221 => (M.bind (chk (cmulB x166 (69621 : Int)) (.ok (x166 * (69621 : Int)))) fun z222 => (.ok (z221 + z222)))) fun z223 => (.ok (z223 + (7 : Int)))) fun z224 => (.ok z224)) fun z225 => (chk (posB z225 (2147483647 : Int)) (.ok (z225 % (2147483647 : Int)))))) (e_op (e_cb1 (e_op (e_op (e_op (v_dat (i := 4) (a := (cell_167 : Int)) rfl) (c_int (i := 48271)) o_mul) (e_op (v_dat (i := 3) (a := (x166 : Int)) rfl) (c_int (i := 69621)) o_mul) o_add) (c_int (i := 7)) o_add) o_int) (c_int (i := 2147483647)) o_mod) (by simp only [M.bind_ok])) (le_none rfl) fun one_226 => (show StX _ _ _ [some (.dat (enc (script_162 : Scr))), some (.own true (enc (s165.1 : (List Int)))), some (.dat (enc (state_176 : Int))), some (.dat (enc (x166 : Int))), some (.dat (enc (cell_167 : Int))), none, some (.dat (enc (one_226 : Int))), none] _ _ _ _ from ?_)
      refine s_set (i := 7) (EvP.cv (m' := (M.bind (M.bind (M.bind (M.bind (chk (cmulB one_226 (16807 : Int)) (.ok (one_226 * (16807 : Int)))) fun z230 => (M.bind (chk (cmulB cell_167 (31 : Int)) (.ok (cell_167 * (31 : Int)))) fun z231 => (.ok (z230 + z231)))) fun z232 => (.ok (z232 + x166))) fun z233 => (.ok z233)) fun z234 => (chk (posB z234 (1000003 : Int)) (.ok (z234 % (1000003 : Int)))))) (e_op (e_cb1 (e_op (e_op (e_op (v_dat (i := 6) (a := (one_226 : Int)) rfl) (c_int (i := 16807)) o_mul) (e_op (v_dat (i := 4) (a := (cell_167 : Int)) rfl) (c_int (i := 31)) o_mul) o_add) (v_dat (i := 3) (a := (x166 : Int)) rfl) o_add) o_int) (c_int (i := 1000003)) o_mod) (by simp only [M.bind_ok])) (le_none rfl) fun two_235 => (show StX _ _ _ [some (.dat (enc (script_162 : Scr))), some (.own true (enc (s165.1 : (List Int)))), some (.dat (enc (state_176 : Int))), some (.dat (enc (x166 : Int))), some (.dat (enc (cell_167 : Int))), none, some (.dat (enc (one_226 : Int))), some (.dat (enc (two_235 : Int)))] _ _ _ _ from ?_)
      refine s_own (i := 1) (EvP.cv (m' := (M.bind (M.bind (M.bind (M.bind (M.bind (chk (divB one_226 (11 : Int)) (.ok (one_226 / (11 : Int)))) fun z236 => (.ok z236)) fun z237 => (chk (posB z237 (60 : Int)) (.ok (z237 % (60 : Int))))) fun z238 => (M.bind (M.bind (chk (posB two_235 (60 : Int)) (.ok (two_235 % (60 : Int)))) fun z239 => (.ok (z239 :: ([] : (List Int))))) fun z240 => (.ok (z238 :: z240)))) fun z241 => (chk (decide ((z241).length < LIM)) (.ok z241))) fun z242 => (chk (decide ((s165.1).length + (z242).length < LIM)) (.ok (s165.1 ++ z242))))) (e_op (v_see (i := 1) (a := (s165.1 : (List Int))) rfl) (EvP.look (e_lst (al_cons (e_op (e_cb1 (e_op (v_dat (i := 6) (a := (one_226 : Int)) rfl) (c_int (i := 11)) o_fdiv) o_int) (c_int (i := 60)) o_mod) (al_cons (e_op (e_cb1 (v_dat (i := 7) (a := (two_235 : Int)) rfl) o_int) (c_int (i := 60)) o_mod) (al_nil (α := Int)))))) o_cat) (by simp only [M.bind_ok])) (le_none rfl) fun pool_243 => (show StX _ _ _ [some (.dat (enc (script_162 : Scr))), some (.own true (enc (pool_243 : (List Int)))), some (.dat (enc (state_176 : Int))), some (.dat (enc (x166 : Int))), some (.dat (enc (cell_167 : Int))), none, some (.dat (enc (one_226 : Int))), some (.dat (enc (two_235 : Int)))] _ _ _ _ from ?_)
      exact s_nil (And.intro rfl (And.intro rfl (And.intro rfl (And.intro rfl (And.intro rfl True.intro)))))
    · exact s_nil (And.intro rfl (And.intro rfl (And.intro rfl True.intro)))
  · refine s_for (vs := [5]) (ps := (fun s244 => [some (.dat (enc (script_162 : Scr))), some (.own true (enc (s244.1 : (List Int)))), some (.dat (enc (s244.2 : Int))), none, none, none, none, none])) (EvIt.cv (m' := (chk (rngB 0 (300 : Int)) (.ok (rng 0 (300 : Int))))) (it_rng1 (c_int (i := 300))) (by simp only [M.bind_ok])) (tg_name (i := 5) (vs := [5]) (by simp)) (le_none rfl) (And.intro rfl (And.intro rfl (And.intro rfl True.intro))) (fun F0' s244 x245 => (show StX _ _ _ [some (.dat (enc (script_162 : Scr))), some (.own true (enc (s244.1 : (List Int)))), some (.dat (enc (s244.2 : Int))), none, none, some (.dat (enc (x245 : Int))), none, none] _ _ _ _ from ?_)) (fun s244 => (show StX _ _ _ [some (.dat (enc (script_162 : Scr))), some (.own true (enc (s244.1 : (List Int)))), some (.dat (enc (s244.2 : Int))), none, none, none, none, none] _ _ _ _ from ?_))
    · refine s_set (i := 2) (EvP.cv (m' := (M.bind (M.bind (M.bind (chk (cmulB s244.2 (48271 : Int)) (.ok (s244.2 * (48271 : Int)))) fun z247 => (.ok (z247 + (11 : Int)))) fun z248 => (.ok z248)) fun z249 => (chk (posB z249 (2147483647 : Int)) (.ok (z249 % (2147483647 : Int)))))) (e_op (e_cb1 (e_op (e_op (v_dat (i := 2) (a := (s244.2 : Int)) rfl) (c_int (i := 48271)) o_mul) (c_int (i := 11)) o_add) o_int) (c_int (i := 2147483647)) o_mod) (by simp only [M.bind_ok])) (le_none rfl) fun state_250 => (show StX _ _ _ [some (.dat (enc (script_162 : Scr))), some (.own true (enc (s244.1 : (List Int)))), some (.dat (enc (state_250 : Int))), none, none, some (.dat (enc (x245 : Int))), none, none] _ _ _ _ from ?_)
      refine s_app (i := 1) (xs := (s244.1 : (List Int))) rfl (EvP.cv (m' := (M.bind (M.bind (chk (divB state_250 (97 : Int)) (.ok (state_250 / (97 : Int)))) fun z251 => (.ok z251)) fun z252 => (chk (posB z252 (60 : Int)) (.ok (z252 % (60 : Int)))))) (e_op (e_cb1 (e_op (v_dat (i := 2) (a := (state_250 : Int)) rfl) (c_int (i := 97)) o_fdiv) o_int) (c_int (i := 60)) o_mod) (by simp only [M.bind_ok])) (le_none rfl) fun a253 => (show StX _ _ _ [some (.dat (enc (script_162 : Scr))), some (.own true (enc ((s244.1 ++ [a253]) : (List Int)))), some (.dat (enc (state_250 : Int))), none, none, some (.dat (enc (x245 : Int))), none, none] _ _ _ _ from ?_)
      exact s_nil (And.intro rfl (And.intro rfl (And.intro rfl True.intro)))
    · exact s_retO (i := 1) (a := (s244.1 : (List Int))) rfl

abbrev s__law_stream : Stmt := top 22
abbrev N__law_stream : List Str := ["script"]
theorem sc__law_stream : FnScope N__law_stream ["script"] (defScope s__law_stream) := ⟨rfl, rfl, rfl, by decide +kernel, rfl, by decide +kernel, by decide +kernel⟩
theorem ok__law_stream {K : Kx} {mg : Str → Option Value} {base : Heap} {f : Addr} {fd : FuncData} (F : Fun K.fr "_law_stream" "_law_stream" s__law_stream f fd) (BT : Bt mg) (GL : Glo mg) (XC : Xcs K.fr mg) (h__law_pool : Fk K mg base "_law_pool" 1 ["script"] (spM K mg .new (Rm1 _law_pool))) :
    FnOk K.P K.w K.fr mg base (L2.CX K.P K.w) 2 f fd ["script"] (spM K mg .new (Rm1 _law_stream)) := by
  obtain ⟨f__law_pool, fd__law_pool, G__law_pool, b__law_pool, m__law_pool, k__law_pool⟩ := h__law_pool.ex
  obtain ⟨t_MOST_THINGS, gm_MOST_THINGS⟩ := GL.g_MOST_THINGS
  refine fn_ok (N := N__law_stream) (R := (List Int)) none (fun r h => nomatch h) F sc__law_stream (by rintro ds m ⟨script_256, rfl, _⟩; rfl) (by decide) (fun cdv A outer s H E c ds m hr hm hK hg hW => ?_)
  obtain ⟨script_256, rfl, rfl⟩ := hm
  obtain ⟨cK, cmg, cF, cH, cG, cW⟩ := c
  cases (show K = cK from hK.symm); cases (show mg = cmg from hg.symm); cases hW
  have hu := hu_of hr
  have hu64 := hr.units
  have hu9 := Nat.lt_of_le_of_lt (Nat.add_le_add_left (by decide : 9 ≤ 64) _) hu64
  have hu16 := Nat.lt_of_le_of_lt (Nat.add_le_add_left (by decide : 16 ≤ 64) _) hu64
  have tk : Takes (cxOf (L2.CX K.P K.w) K.P K.w K.fr mg base N__law_stream "_law_stream" (defScope s__law_stream) f cdv A outer s H E) (fun cls d _ H => E cls d H) := takes_of rfl rfl rfl rfl
  refine ⟨_, _law_stream_b script_256, (pss_cons (ps_ret (pe_op op_cat (pe_lst (pa_cons pe_int pa_nil)) (pe_callS G__law_pool (hr.mono (by decide)) rfl m__law_pool k__law_pool b__law_pool (fun σ => passAt tk σ) (pa_cons (pv 0) pa_nil)))) pss_nil), rfl, (show StX _ _ _ [some (.dat (enc (script_256 : Scr)))] _ _ _ _ from ?_)⟩
  unfold _law_stream_b
  exact s_ret (k := .new) (EvP.cv (m' := (M.bind (chk (decide ((((0 : Int) :: ([] : (List Int)))).length < LIM)) (.ok ((0 : Int) :: ([] : (List Int))))) fun z257 => (M.bind (_law_pool script_256) fun z258 => (chk (decide ((z257).length + (z258).length < LIM)) (.ok (z257 ++ z258)))))) (e_op (EvP.look (e_lst (al_cons (c_int (i := 0)) (al_nil (α := Int))))) (EvP.look (e_call1 (f := _law_pool) (v_dat (i := 0) (a := (script_256 : Scr)) rfl))) o_cat) (by simp only [M.bind_ok])) (fun a => a) (le_none rfl)

abbrev s__law_pick : Stmt := top 23
abbrev N__law_pick : List Str := ["pool", "many"]
theorem sc__law_pick : FnScope N__law_pick ["pool", "many"] (defScope s__law_pick) := ⟨rfl, rfl, rfl, by decide +kernel, rfl, by decide +kernel, by decide +kernel⟩
theorem ok__law_pick {K : Kx} {mg : Str → Option Value} {base : Heap} {f : Addr} {fd : FuncData} (F : Fun K.fr "_law_pick" "_law_pick" s__law_pick f fd) (BT : Bt mg) (GL : Glo mg) (XC : Xcs K.fr mg)  :
    FnOk K.P K.w K.fr mg base (L2.CX K.P K.w) 1 f fd ["pool", "many"] (spIO K (RmIO1 _law_pick)) := by
  obtain ⟨t_MOST_THINGS, gm_MOST_THINGS⟩ := GL.g_MOST_THINGS
  refine fn_okIO (N := N__law_pick) (T := (List Int)) (R := Int) F sc__law_pick (by rintro d ds m ⟨pool_260, many_261, _, rfl, _⟩; rfl) (by decide) (fun cdv A outer s H E c l d0 ds m hr hm hK hg hW hl => ?_)
  obtain ⟨pool_260, many_261, rfl, rfl, rfl⟩ := hm
  obtain ⟨cK, cmg, cF, cH, cG, cW⟩ := c
  cases (show K = cK from hK.symm); cases (show mg = cmg from hg.symm); cases hW
  have hu := hu_of hr
  have hu64 := hr.units
  have hu9 := Nat.lt_of_le_of_lt (Nat.add_le_add_left (by decide : 9 ≤ 64) _) hu64
  have hu16 := Nat.lt_of_le_of_lt (Nat.add_le_add_left (by decide : 16 ≤ 64) _) hu64
  have tk : Takes (cxOf (L2.CX K.P K.w) K.P K.w K.fr mg base N__law_pick "_law_pick" (defScope s__law_pick) f cdv A outer s H E) (fun cls d _ H => E cls d H) := takes_of rfl rfl rfl rfl
  refine ⟨_, _law_pick_b pool_260 many_261, (pss_cons (ps_asg (pe_op op_add pe_int (pe_op op_mod (pe_callTy call_intK rfl BT.b_int (by decide +kernel) (pa_cons (pe_ix (ix_listK K.fr) (pv 0) pe_int (fun _ _ => rfl)) pa_nil)) (pe_op op_sub (pe_callB (call_lenK K.fr) rfl BT.b_len PySem.boot_len (pa_cons (pv 0) pa_nil)) pe_int))) (pg_sub (pv 0) pe_int set_list)) (pss_cons (ps_ret (pe_op op_mod (pe_callTy call_intK rfl BT.b_int (by decide +kernel) (pa_cons (pe_ix (ix_listK K.fr) (pv 0) (pe_ix (ix_listK K.fr) (pv 0) pe_int (fun _ _ => rfl)) (fun _ _ => rfl)) pa_nil)) (pv 1))) pss_nil)), rfl, (show StX _ _ _ [some (.own false (enc (pool_260 : (List Int)))), some (.dat (enc (many_261 : Int)))] _ _ _ _ from ?_)⟩
  unfold _law_pick_b
  refine s_setL (i := 0) (xs := (pool_260 : (List Int))) rfl (EvP.cv (m' := (M.bind (M.bind (M.bind (getL pool_260 (0 : Int)) fun z262 => (.ok z262)) fun z263 => (chk (posB z263 (((pool_260).length : Int) - (1 : Int))) (.ok (z263 % (((pool_260).length : Int) - (1 : Int)))))) fun z264 => (.ok ((1 : Int) + z264)))) (e_op (c_int (i := 1)) (e_op (e_cb1 (e_op (v_see (i := 0) (a := (pool_260 : (List Int))) rfl) (c_int (i := 0)) o_ixL) o_int) (e_op (e_cb1 (v_see (i := 0) (a := (pool_260 : (List Int))) rfl) (o_len rfl)) (c_int (i := 1)) o_sub) o_mod) o_add) (by simp only [M.bind_ok])) (EvP.cv (m' := (.ok (0 : Int))) (c_int (i := 0)) (by simp only [M.bind_ok])) (le_none rfl) fun pool_267 => (show StX _ _ _ [some (.own false (enc (pool_267 : (List Int)))), some (.dat (enc (many_261 : Int)))] _ _ _ _ from ?_)
  exact s_retIO hl (p := (pool_267 : (List Int))) (EvP.cv (m' := (M.bind (M.bind (M.bind (getL pool_267 (0 : Int)) fun z269 => (getL pool_267 z269)) fun z270 => (.ok z270)) fun z271 => (chk (posB z271 many_261) (.ok (z271 % many_261))))) (e_op (e_cb1 (e_op (v_see (i := 0) (a := (pool_267 : (List Int))) rfl) (e_op (v_see (i := 0) (a := (pool_267 : (List Int))) rfl) (c_int (i := 0)) o_ixL) o_ixL) o_int) (v_dat (i := 1) (a := (many_261 : Int)) rfl) o_mod) (by simp only [M.bind_ok])) rfl (le_none rfl)

abbrev s__law_letters : Stmt := top 24
abbrev N__law_letters : List Str := ["pool", "most", "many", "signs", "at", "step", "k"]
theorem sc__law_letters : FnScope N__law_letters ["pool", "most"] (defScope s__law_letters) := ⟨rfl, rfl, rfl, by decide +kernel, rfl, by decide +kernel, by decide +kernel⟩
theorem ok__law_letters {K : Kx} {mg : Str → Option Value} {base : Heap} {f : Addr} {fd : FuncData} (F : Fun K.fr "_law_letters" "_law_letters" s__law_letters f fd) (BT : Bt mg) (GL : Glo mg) (XC : Xcs K.fr mg) (h__law_pick : Fk K mg base "_law_pick" 1 ["pool", "many"] (spIO K (RmIO1 _law_pick))) :
    FnOk K.P K.w K.fr mg base (L2.CX K.P K.w) 2 f fd ["pool", "most"] (spIO K (RmIO1 _law_letters)) := by
  obtain ⟨f__law_pick, fd__law_pick, G__law_pick, b__law_pick, m__law_pick, k__law_pick⟩ := h__law_pick.ex
  obtain ⟨t_MOST_THINGS, gm_MOST_THINGS⟩ := GL.g_MOST_THINGS
  refine fn_okIO (N := N__law_letters) (T := (List Int)) (R := Txt) F sc__law_letters (by rintro d ds m ⟨pool_273, most_274, _, rfl, _⟩; rfl) (by decide) (fun cdv A outer s H E c l d0 ds m hr hm hK hg hW hl => ?_)
  obtain ⟨pool_273, most_274, rfl, rfl, rfl⟩ := hm
  obtain ⟨cK, cmg, cF, cH, cG, cW⟩ := c
  cases (show K = cK from hK.symm); cases (show mg = cmg from hg.symm); cases hW
  have hu := hu_of hr
  have hu64 := hr.units
  have hu9 := Nat.lt_of_le_of_lt (Nat.add_le_add_left (by decide : 9 ≤ 64) _) hu64
  have hu16 := Nat.lt_of_le_of_lt (Nat.add_le_add_left (by decide : 16 ≤ 64) _) hu64
  have tk : Takes (cxOf (L2.CX K.P K.w) K.P K.w K.fr mg base N__law_letters "_law_letters" (defScope s__law_letters) f cdv A outer s H E) (fun cls d _ H => E cls d H) := takes_of rfl rfl rfl rfl
  refine ⟨_, _law_letters_b pool_273 most_274, (pss_cons (ps_set (i := 2) sc__law_letters.nd rfl (by first | exact Or.inl rfl | exact Or.inr rfl) (pe_op op_add pe_int (pe_callS G__law_pick (hr.mono (by decide)) rfl m__law_pick k__law_pick b__law_pick (fun σ => passAt tk σ) (pa_cons (pv 0) (pa_cons (pv 1) pa_nil))))) (pss_cons (ps_set (i := 3) sc__law_letters.nd rfl (by first | exact Or.inl rfl | exact Or.inr rfl) pe_str) (pss_cons (ps_asg (pe_tup (pa_cons (pe_callS G__law_pick (hr.mono (by decide)) rfl m__law_pick k__law_pick b__law_pick (fun σ => passAt tk σ) (pa_cons (pv 0) (pa_cons pe_int pa_nil))) (pa_cons (pe_ix (ix_listK K.fr) (pe_lst (pa_cons pe_int (pa_cons pe_int (pa_cons pe_int (pa_cons pe_int (pa_cons pe_int (pa_cons pe_int pa_nil))))))) (pe_callS G__law_pick (hr.mono (by decide)) rfl m__law_pick k__law_pick b__law_pick (fun σ => passAt tk σ) (pa_cons (pv 0) (pa_cons pe_int pa_nil))) (fun _ _ => rfl)) pa_nil))) (pg_tupK (n := 2) K.fr rfl (pgs_cons (pg_name (i := 4) sc__law_letters.nd rfl (by first | exact Or.inl rfl | exact Or.inr rfl)) (pgs_cons (pg_name (i := 5) sc__law_letters.nd rfl (by first | exact Or.inl rfl | exact Or.inr rfl)) pgs_nil)))) (pss_cons (ps_ret (pe_join pe_str (pe_lc (own := [("k", 6)]) rfl sc__law_letters.nd (pi_range1 rfl BT.b_range (pa_cons (pv 2) pa_nil)) (blkOk_by (own := [("k", 6)]) (N := N__law_letters) (sc := defScope s__law_letters) (by decide +kernel)) (fun _ _ _ _ _ => (pg_name (i := 6) sc__law_letters.nd rfl (by first | exact Or.inl rfl | exact Or.inr rfl))) (fun _ _ _ _ _ => pts_nil) (fun _ _ _ _ _ => (pe_ix ix_str (pv 3) (pe_op op_mod (pe_callTy call_intK rfl BT.b_int (by decide +kernel) (pa_cons (pe_op op_add (pv 4) (pe_op op_mul (pv 5) (pv 6))) pa_nil)) pe_int) (fun _ _ => rfl)))))) pss_nil)))), rfl, (show StX _ _ _ [some (.own false (enc (pool_273 : (List Int)))), some (.dat (enc (most_274 : Int))), none, none, none, none, none] _ _ _ _ from ?_)⟩
  unfold _law_letters_b
  refine sx_set (i := 2) (x_cv (m' := (M.bind (noX (_law_pick pool_273 most_274)) fun s275 => (.ok (s275.1, ((1 : Int) + s275.2))))) (x_op (x_pure (post := (fun s => [some (.own false (enc (s : (List Int)))), some (.dat (enc (most_274 : Int))), none, none, none, none, none])) pool_273 (c_int (i := 1)) rfl (le_none rfl)) (fun q => (x_call1 (s := (q : (List Int))) (i := 0) (post := (fun s => [some (.own false (enc (s : (List Int)))), some (.dat (enc (most_274 : Int))), none, none, none, none, none])) (f := _law_pick) rfl (v_dat (i := 1) (a := (most_274 : Int)) rfl) (le_none rfl) (fun _ => rfl))) o_add (fun _ => (le_none rfl))) (by simp only [M.bind_ok])) fun many_276 => (show StX _ _ _ [some (.own false (enc (many_276.1 : (List Int)))), some (.dat (enc (most_274 : Int))), some (.dat (enc (many_276.2 : Int))), none, none, none, none] _ _ _ _ from ?_)
  refine s_set (i := 3) (EvP.cv (m' := (.ok (Txt.mk [97, 98, 99, 100, 101, 102, 103, 104, 105, 106, 107, 108, 109, 110, 111, 112, 113, 114, 115, 116, 117, 118, 119, 120, 121, 122]))) (c_txt (cs := [97, 98, 99, 100, 101, 102, 103, 104, 105, 106, 107, 108, 109, 110, 111, 112, 113, 114, 115, 116, 117, 118, 119, 120, 121, 122]) (by decide +kernel)) (by simp only [M.bind_ok])) (le_none rfl) fun signs_277 => (show StX _ _ _ [some (.own false (enc (many_276.1 : (List Int)))), some (.dat (enc (most_274 : Int))), some (.dat (enc (many_276.2 : Int))), some (.dat (enc (signs_277 : Txt))), none, none, none] _ _ _ _ from ?_)
  refine sx_tup2 (i := 4) (j := 5) (x_cv (m' := (M.bind (noX (_law_pick many_276.1 (26 : Int))) fun s287 => (M.bind (M.bind (M.bind (chk (decide ((((1 : Int) :: ((3 : Int) :: ((5 : Int) :: ((7 : Int) :: ((9 : Int) :: ((11 : Int) :: ([] : (List Int))))))))).length < LIM)) (.ok ((1 : Int) :: ((3 : Int) :: ((5 : Int) :: ((7 : Int) :: ((9 : Int) :: ((11 : Int) :: ([] : (List Int)))))))))) fun a288 => .ok (s287.1, a288)) fun s289 => (M.bind (noX (_law_pick s289.1 (6 : Int))) fun s290 => (M.bind (getL s289.2 s290.2) fun a291 => .ok (s290.1, a291)))) fun s292 => (.ok (s292.1, (s287.2, s292.2)))))) (x_tup2 (x_call1 (s := (many_276.1 : (List Int))) (i := 0) (post := (fun s => [some (.own false (enc (s : (List Int)))), some (.dat (enc (most_274 : Int))), some (.dat (enc (many_276.2 : Int))), some (.dat (enc (signs_277 : Txt))), none, none, none])) (f := _law_pick) rfl (c_int (i := 26)) (le_none rfl) (fun _ => rfl)) (fun q282 => (x_op (x_pure (post := (fun s => [some (.own false (enc (s : (List Int)))), some (.dat (enc (most_274 : Int))), some (.dat (enc (many_276.2 : Int))), some (.dat (enc (signs_277 : Txt))), none, none, none])) q282 (EvP.froz (e_lst (al_cons (c_int (i := 1)) (al_cons (c_int (i := 3)) (al_cons (c_int (i := 5)) (al_cons (c_int (i := 7)) (al_cons (c_int (i := 9)) (al_cons (c_int (i := 11)) (al_nil (α := Int)))))))))) rfl (le_none rfl)) (fun q => (x_call1 (s := (q : (List Int))) (i := 0) (post := (fun s => [some (.own false (enc (s : (List Int)))), some (.dat (enc (most_274 : Int))), some (.dat (enc (many_276.2 : Int))), some (.dat (enc (signs_277 : Txt))), none, none, none])) (f := _law_pick) rfl (c_int (i := 6)) (le_none rfl) (fun _ => rfl))) (Op2.lookL o_ixL) (fun _ => (le_none rfl))))) (by simp only [M.bind_ok])) fun p293 => (show StX _ _ _ [some (.own false (enc (p293.1 : (List Int)))), some (.dat (enc (most_274 : Int))), some (.dat (enc (many_276.2 : Int))), some (.dat (enc (signs_277 : Txt))), some (.dat (enc (p293.2.1 : Int))), some (.dat (enc (p293.2.2 : Int))), none] _ _ _ _ from ?_)
  exact s_retIO hl (p := (p293.1 : (List Int))) (EvP.cv (m' := (M.bind (M.bind (chk (rngB 0 many_276.2) (.ok (rng 0 many_276.2))) fun z300 => (lcM (fun x294 => (M.bind (M.bind (M.bind (M.bind (chk (cmulB p293.2.2 x294) (.ok (p293.2.2 * x294))) fun z296 => (.ok (p293.2.1 + z296))) fun z297 => (.ok z297)) fun z298 => (chk (posB z298 (26 : Int)) (.ok (z298 % (26 : Int))))) fun z299 => (getT signs_277 z299))) z300)) fun z301 => (joinM (Txt.mk []) z301))) (e_join (c_txt (cs := []) (by decide +kernel)) (EvP.look (e_lc (it_rng1 (v_dat (i := 2) (a := (many_276.2 : Int)) rfl)) (tg_name (i := 6) (vs := [6]) (by simp)) (fun x294 => (EvP.cv (m' := (M.bind (M.bind (M.bind (M.bind (chk (cmulB p293.2.2 x294) (.ok (p293.2.2 * x294))) fun z296 => (.ok (p293.2.1 + z296))) fun z297 => (.ok z297)) fun z298 => (chk (posB z298 (26 : Int)) (.ok (z298 % (26 : Int))))) fun z299 => (getT signs_277 z299))) (e_op (v_dat (i := 3) (a := (signs_277 : Txt)) rfl) (e_op (e_cb1 (e_op (v_dat (i := 4) (a := (p293.2.1 : Int)) rfl) (e_op (v_dat (i := 5) (a := (p293.2.2 : Int)) rfl) (v_dat (i := 6) (a := (x294 : Int)) rfl) o_mul) o_add) o_int) (c_int (i := 26)) o_mod) o_ixS) (by simp only [M.bind_ok])))))) (by simp only [M.bind_ok])) rfl (le_none rfl)

abbrev s__law_machine : Stmt := top 25
abbrev N__law_machine : List Str := ["pool", "letters", "most", "many", "table", "state", "sign"]
theorem sc__law_machine : FnScope N__law_machine ["pool", "letters", "most"] (defScope s__law_machine) := ⟨rfl, rfl, rfl, by decide +kernel, rfl, by decide +kernel, by decide +kernel⟩
theorem ok__law_machine {K : Kx} {mg : Str → Option Value} {base : Heap} {f : Addr} {fd : FuncData} (F : Fun K.fr "_law_machine" "_law_machine" s__law_machine f fd) (BT : Bt mg) (GL : Glo mg) (XC : Xcs K.fr mg) (h__law_pick : Fk K mg base "_law_pick" 1 ["pool", "many"] (spIO K (RmIO1 _law_pick))) :
    FnOk K.P K.w K.fr mg base (L2.CX K.P K.w) 2 f fd ["pool", "letters", "most"] (spIO K (RmIO2 _law_machine)) := by
  obtain ⟨f__law_pick, fd__law_pick, G__law_pick, b__law_pick, m__law_pick, k__law_pick⟩ := h__law_pick.ex
  obtain ⟨t_MOST_THINGS, gm_MOST_THINGS⟩ := GL.g_MOST_THINGS
  refine fn_okIO (N := N__law_machine) (T := (List Int)) (R := ((List (List Int)) × (List Bool))) F sc__law_machine (by rintro d ds m ⟨pool_303, letters_304, most_305, _, rfl, _⟩; rfl) (by decide) (fun cdv A outer s H E c l d0 ds m hr hm hK hg hW hl => ?_)
  obtain ⟨pool_303, letters_304, most_305, rfl, rfl, rfl⟩ := hm
  obtain ⟨cK, cmg, cF, cH, cG, cW⟩ := c
  cases (show K = cK from hK.symm); cases (show mg = cmg from hg.symm); cases hW
  have hu := hu_of hr
  have hu64 := hr.units
  have hu9 := Nat.lt_of_le_of_lt (Nat.add_le_add_left (by decide : 9 ≤ 64) _) hu64
  have hu16 := Nat.lt_of_le_of_lt (Nat.add_le_add_left (by decide : 16 ≤ 64) _) hu64
  have tk : Takes (cxOf (L2.CX K.P K.w) K.P K.w K.fr mg base N__law_machine "_law_machine" (defScope s__law_machine) f cdv A outer s H E) (fun cls d _ H => E cls d H) := takes_of rfl rfl rfl rfl
  refine ⟨_, _law_machine_b pool_303 letters_304 most_305, (pss_cons (ps_set (i := 3) sc__law_machine.nd rfl (by first | exact Or.inl rfl | exact Or.inr rfl) (pe_op op_add pe_int (pe_callS G__law_pick (hr.mono (by decide)) rfl m__law_pick k__law_pick b__law_pick (fun σ => passAt tk σ) (pa_cons (pv 0) (pa_cons (pv 2) pa_nil))))) (pss_cons (ps_setLc (i := 4) (own := [("state", 5)]) rfl sc__law_machine.nd rfl rfl (sw_true rfl rfl rfl (by decide +kernel)) (pi_range1 rfl BT.b_range (pa_cons (pv 3) pa_nil)) (blkOk_by (own := [("state", 5)]) (N := N__law_machine) (sc := defScope s__law_machine) (by decide +kernel)) (fun _ _ _ _ _ => (pg_name (i := 5) sc__law_machine.nd rfl (by first | exact Or.inl rfl | exact Or.inr rfl))) (fun _ _ _ _ _ => pts_nil) (fun _ _ _ _ _ => (pe_lc (own := [("sign", 6)]) rfl sc__law_machine.nd (pi_str (pv 1)) (blk_rel (blkOk_by (own := [("sign", 6)]) (N := N__law_machine) (by decide +kernel))) (fun _ _ _ _ _ => (pg_name (i := 6) sc__law_machine.nd rfl (by first | exact Or.inl rfl | exact Or.inr rfl))) (fun _ _ _ _ _ => pts_nil) (fun _ _ _ _ _ => (pe_callS G__law_pick (hr.mono (by decide)) rfl m__law_pick k__law_pick b__law_pick (fun σ => passAt takes_none5 σ) (pa_cons (pv 0) (pa_cons (pv 3) pa_nil))))))) (pss_cons (ps_ret (pe_tup (pa_cons (pv 4) (pa_cons (pe_lc (own := [("state", 5)]) rfl sc__law_machine.nd (pi_range1 rfl BT.b_range (pa_cons (pv 3) pa_nil)) (blkOk_by (own := [("state", 5)]) (N := N__law_machine) (sc := defScope s__law_machine) (by decide +kernel)) (fun _ _ _ _ _ => (pg_name (i := 5) sc__law_machine.nd rfl (by first | exact Or.inl rfl | exact Or.inr rfl))) (fun _ _ _ _ _ => pts_nil) (fun _ _ _ _ _ => (pe_cmpR op_eq (pe_callS G__law_pick (hr.mono (by decide)) rfl m__law_pick k__law_pick b__law_pick (fun σ => passAt takes_none5 σ) (pa_cons (pv 0) (pa_cons pe_int pa_nil))) pe_int (nomark _)))) pa_nil)))) pss_nil))), rfl, (show StX _ _ _ [some (.own false (enc (pool_303 : (List Int)))), some (.dat (enc (letters_304 : Txt))), some (.dat (enc (most_305 : Int))), none, none, none, none] _ _ _ _ from ?_)⟩
  unfold _law_machine_b
  refine sx_set (i := 3) (x_cv (m' := (M.bind (noX (_law_pick pool_303 most_305)) fun s306 => (.ok (s306.1, ((1 : Int) + s306.2))))) (x_op (x_pure (post := (fun s => [some (.own false (enc (s : (List Int)))), some (.dat (enc (letters_304 : Txt))), some (.dat (enc (most_305 : Int))), none, none, none, none])) pool_303 (c_int (i := 1)) rfl (le_none rfl)) (fun q => (x_call1 (s := (q : (List Int))) (i := 0) (post := (fun s => [some (.own false (enc (s : (List Int)))), some (.dat (enc (letters_304 : Txt))), some (.dat (enc (most_305 : Int))), none, none, none, none])) (f := _law_pick) rfl (v_dat (i := 2) (a := (most_305 : Int)) rfl) (le_none rfl) (fun _ => rfl))) o_add (fun _ => (le_none rfl))) (by simp only [M.bind_ok])) fun many_307 => (show StX _ _ _ [some (.own false (enc (many_307.1 : (List Int)))), some (.dat (enc (letters_304 : Txt))), some (.dat (enc (most_305 : Int))), some (.dat (enc (many_307.2 : Int))), none, none, none] _ _ _ _ from ?_)
  refine sx_set (i := 4) (x_cv (m' := (M.bind (M.bind (chk (rngB 0 many_307.2) (.ok (rng 0 many_307.2))) fun a318 => .ok (many_307.1, a318)) fun s319 => (lcX (fun s313 x308 => (M.bind (M.bind (chk (decide ((letters_304).cs.length < LIM)) (.ok (signs letters_304))) fun a316 => .ok (s313, a316)) fun s317 => (lcX (fun s315 x314 => (noX (_law_pick s315 many_307.2))) s317.2 s317.1))) s319.2 s319.1))) (x_lc (vs := [5]) (ps := (fun s => [some (.own false (enc (s : (List Int)))), some (.dat (enc (letters_304 : Txt))), some (.dat (enc (most_305 : Int))), some (.dat (enc (many_307.2 : Int))), none, none, none])) (xi := noneC 7) (xi_pure (post := (fun s => [some (.own false (enc (s : (List Int)))), some (.dat (enc (letters_304 : Txt))), some (.dat (enc (most_305 : Int))), some (.dat (enc (many_307.2 : Int))), none, none, none])) many_307.1 (it_rng1 (v_dat (i := 3) (a := (many_307.2 : Int)) rfl)) rfl (le_none rfl)) (fun c' hK => (tg_name (i := 5) (vs := [5]) (by simp))) (fun F0 G s313 x308 => x_cv (m' := (M.bind (M.bind (chk (decide ((letters_304).cs.length < LIM)) (.ok (signs letters_304))) fun a316 => .ok (s313, a316)) fun s317 => (lcX (fun s315 x314 => (noX (_law_pick s315 many_307.2))) s317.2 s317.1))) (x_lc (vs := [6]) (ps := (fun s => [some (.own false (enc (s : (List Int)))), some (.dat (enc (letters_304 : Txt))), some (.dat (enc (most_305 : Int))), some (.dat (enc (many_307.2 : Int))), none, some (.dat (enc (x308 : Int))), none])) (xi := noneC 7) (xi_pure (post := (fun s => [some (.own false (enc (s : (List Int)))), some (.dat (enc (letters_304 : Txt))), some (.dat (enc (most_305 : Int))), some (.dat (enc (many_307.2 : Int))), none, some (.dat (enc (x308 : Int))), none])) s313 (it_str (v_dat (i := 1) (a := (letters_304 : Txt)) rfl)) rfl (le_none rfl)) (fun c' hK => (tg_name (i := 6) (vs := [6]) (by simp))) (fun F0 G s315 x314 => x_cv (m' := (noX (_law_pick s315 many_307.2))) (x_call1 (s := (s315 : (List Int))) (i := 0) (post := (fun s => [some (.own false (enc (s : (List Int)))), some (.dat (enc (letters_304 : Txt))), some (.dat (enc (most_305 : Int))), some (.dat (enc (many_307.2 : Int))), none, some (.dat (enc (x308 : Int))), some (.dat (enc (x314 : Txt)))])) (f := _law_pick) rfl (v_dat (i := 3) (a := (many_307.2 : Int)) rfl) (le_none rfl) (fun _ => rfl)) (by simp only [M.bind_ok])) (fun s => rfl) (fun s x => (And.intro rfl (And.intro rfl (And.intro rfl (And.intro rfl (And.intro rfl True.intro))))))) (by simp only [M.bind_ok])) (fun s => rfl) (fun s x => (And.intro rfl (And.intro rfl (And.intro rfl (And.intro rfl True.intro)))))) (by simp only [M.bind_ok])) fun table_320 => (show StX _ _ _ [some (.own false (enc (table_320.1 : (List Int)))), some (.dat (enc (letters_304 : Txt))), some (.dat (enc (most_305 : Int))), some (.dat (enc (many_307.2 : Int))), some (.dat (enc (table_320.2 : (List (List Int))))), none, none] _ _ _ _ from ?_)
  exact sx_retIO hl (x_cv (m' := (M.bind (M.bind (M.bind (chk (rngB 0 many_307.2) (.ok (rng 0 many_307.2))) fun a344 => .ok (table_320.1, a344)) fun s345 => (lcX (fun s341 x338 => (M.bind (noX (_law_pick s341 (3 : Int))) fun s343 => (.ok (s343.1, (eqD s343.2 (0 : Int)))))) s345.2 s345.1)) fun s346 => (.ok (s346.1, (table_320.2, s346.2))))) (x_tup2 (x_pure (post := (fun s => [some (.own false (enc (s : (List Int)))), some (.dat (enc (letters_304 : Txt))), some (.dat (enc (most_305 : Int))), some (.dat (enc (many_307.2 : Int))), some (.dat (enc (table_320.2 : (List (List Int))))), none, none])) table_320.1 (v_dat (i := 4) (a := (table_320.2 : (List (List Int)))) rfl) rfl (le_none rfl)) (fun q329 => (x_lc (vs := [5]) (ps := (fun s => [some (.own false (enc (s : (List Int)))), some (.dat (enc (letters_304 : Txt))), some (.dat (enc (most_305 : Int))), some (.dat (enc (many_307.2 : Int))), some (.dat (enc (table_320.2 : (List (List Int))))), none, none])) (xi := noneC 7) (xi_pure (post := (fun s => [some (.own false (enc (s : (List Int)))), some (.dat (enc (letters_304 : Txt))), some (.dat (enc (most_305 : Int))), some (.dat (enc (many_307.2 : Int))), some (.dat (enc (table_320.2 : (List (List Int))))), none, none])) q329 (it_rng1 (v_dat (i := 3) (a := (many_307.2 : Int)) rfl)) rfl (le_none rfl)) (fun c' hK => (tg_name (i := 5) (vs := [5]) (by simp))) (fun F0 G s333 x330 => x_cv (m' := (M.bind (noX (_law_pick s333 (3 : Int))) fun s335 => (.ok (s335.1, (eqD s335.2 (0 : Int)))))) (x_op (x_call1 (s := (s333 : (List Int))) (i := 0) (post := (fun s => [some (.own false (enc (s : (List Int)))), some (.dat (enc (letters_304 : Txt))), some (.dat (enc (most_305 : Int))), some (.dat (enc (many_307.2 : Int))), some (.dat (enc (table_320.2 : (List (List Int))))), some (.dat (enc (x330 : Int))), none])) (f := _law_pick) rfl (c_int (i := 3)) (le_none rfl) (fun _ => rfl)) (fun q334 => (x_pure (post := (fun s => [some (.own false (enc (s : (List Int)))), some (.dat (enc (letters_304 : Txt))), some (.dat (enc (most_305 : Int))), some (.dat (enc (many_307.2 : Int))), some (.dat (enc (table_320.2 : (List (List Int))))), some (.dat (enc (x330 : Int))), none])) q334 (c_int (i := 0)) rfl (le_none rfl))) o_eq (fun _ => (le_none rfl))) (by simp only [M.bind_ok])) (fun s => rfl) (fun s x => (And.intro rfl (And.intro rfl (And.intro rfl (And.intro rfl (And.intro rfl True.intro))))))))) (by simp only [M.bind_ok])) (fun _ => rfl)

abbrev s__law_least : Stmt := top 26
abbrev N__law_least : List Str := ["letters", "machine", "table", "ends", "order", "turn", "state", "marks", "rows", "first", "numbers", "k", "target", "one", "row"]
theorem sc__law_least : FnScope N__law_least ["letters", "machine"] (defScope s__law_least) := ⟨rfl, rfl, rfl, by decide +kernel, rfl, by decide +kernel, by decide +kernel⟩
theorem ok__law_least {K : Kx} {mg : Str → Option Value} {base : Heap} {f : Addr} {fd : FuncData} (F : Fun K.fr "_law_least" "_law_least" s__law_least f fd) (BT : Bt mg) (GL : Glo mg) (XC : Xcs K.fr mg)  :
    FnOk K.P K.w K.fr mg base (L2.CX K.P K.w) 1 f fd ["letters", "machine"] (spM K mg .dat (Rm2 _law_least)) := by
  obtain ⟨t_MOST_THINGS, gm_MOST_THINGS⟩ := GL.g_MOST_THINGS
  refine fn_ok (N := N__law_least) (R := ((List (List Int)) × (List Bool))) none (fun r h => nomatch h) F sc__law_least (by rintro ds m ⟨letters_348, machine_349, rfl, _⟩; rfl) (by decide) (fun cdv A outer s H E c ds m hr hm hK hg hW => ?_)
  obtain ⟨letters_348, machine_349, rfl, rfl⟩ := hm
  obtain ⟨cK, cmg, cF, cH, cG, cW⟩ := c
  cases (show K = cK from hK.symm); cases (show mg = cmg from hg.symm); cases hW
  have hu := hu_of hr
  have hu64 := hr.units
  have hu9 := Nat.lt_of_le_of_lt (Nat.add_le_add_left (by decide : 9 ≤ 64) _) hu64
  have hu16 := Nat.lt_of_le_of_lt (Nat.add_le_add_left (by decide : 16 ≤ 64) _) hu64
  have tk : Takes (cxOf (L2.CX K.P K.w) K.P K.w K.fr mg base N__law_least "_law_least" (defScope s__law_least) f cdv A outer s H E) (fun cls d _ H => E cls d H) := takes_of rfl rfl rfl rfl
  refine ⟨_, _law_least_b letters_348 machine_349, (pss_cons (ps_asg (pv 1) (pg_tupK (n := 2) K.fr rfl (pgs_cons (pg_name (i := 2) sc__law_least.nd rfl (by first | exact Or.inl rfl | exact Or.inr rfl)) (pgs_cons (pg_name (i := 3) sc__law_least.nd rfl (by first | exact Or.inl rfl | exact Or.inr rfl)) pgs_nil)))) (pss_cons (ps_set (i := 4) sc__law_least.nd rfl (by first | exact Or.inl rfl | exact Or.inr rfl) (pe_lst (pa_cons pe_int pa_nil))) (pss_cons (ps_for (passes_of rfl) rfl (pi_range1 rfl BT.b_range (pa_cons (pe_callB (call_lenK K.fr) rfl BT.b_len PySem.boot_len (pa_cons (pv 2) pa_nil)) pa_nil)) (pg_name (i := 5) sc__law_least.nd rfl (by first | exact Or.inl rfl | exact Or.inr rfl)) (pss_cons (ps_for (passes_of rfl) rfl (pi_listK K.fr (pe_slice (sl_listK K.fr) (pv 4) (po_some (pv 5)) (po_some (pe_op op_add (pv 5) pe_int)))) (pg_name (i := 6) sc__law_least.nd rfl (by first | exact Or.inl rfl | exact Or.inr rfl)) (pss_cons (ps_set (i := 4) sc__law_least.nd rfl (by first | exact Or.inl rfl | exact Or.inr rfl) (pe_op op_cat (pv 4) (pe_lc (own := [("k", 11), ("target", 12)]) rfl sc__law_least.nd (pi_enumK K.fr rfl BT.b_enumerate (pa_cons (pe_bdK K.fr (pe_ix (ix_listK K.fr) (pv 2) (pv 6) (fun _ _ => rfl))) pa_nil)) (blkOk_by (own := [("k", 11), ("target", 12)]) (N := N__law_least) (sc := defScope s__law_least) (by decide +kernel)) (fun _ _ _ _ _ => (pg_tupK (n := 2) K.fr rfl (pgs_cons (pg_name (i := 11) sc__law_least.nd rfl (by first | exact Or.inl rfl | exact Or.inr rfl)) (pgs_cons (pg_name (i := 12) sc__law_least.nd rfl (by first | exact Or.inl rfl | exact Or.inr rfl)) pgs_nil)))) (fun _ _ _ _ _ => pts_one (PW.pt (pw_and (pt_cmpR (op_notInK K.fr) (pv 12) (pv 4) (by rfl)) (pw_and1 (pt_cmpR (op_notInK K.fr) (pv 12) (pe_slice (sl_listK K.fr) (pe_ix (ix_listK K.fr) (pv 2) (pv 6) (fun _ _ => rfl)) po_none (po_some (pv 11))) (by rfl)))))) (fun _ _ _ _ _ => (pv 12))))) pss_nil)) pss_nil)) (pss_cons (ps_set (i := 7) sc__law_least.nd rfl (by first | exact Or.inl rfl | exact Or.inr rfl) (pe_lc (own := [("one", 13)]) rfl sc__law_least.nd (pi_listK K.fr (pv 3)) (blkOk_by (own := [("one", 13)]) (N := N__law_least) (sc := defScope s__law_least) (by decide +kernel)) (fun _ _ _ _ _ => (pg_name (i := 13) sc__law_least.nd rfl (by first | exact Or.inl rfl | exact Or.inr rfl))) (fun _ _ _ _ _ => pts_nil) (fun _ _ _ _ _ => (pe_callTy call_intK rfl BT.b_int (by decide +kernel) (pa_cons (pv 13) pa_nil))))) (pss_cons (ps_for (passes_of rfl) rfl (pi_range1 rfl BT.b_range (pa_cons (pe_callB (call_lenK K.fr) rfl BT.b_len PySem.boot_len (pa_cons (pv 2) pa_nil)) pa_nil)) (pg_name (i := 5) sc__law_least.nd rfl (by first | exact Or.inl rfl | exact Or.inr rfl)) (pss_cons (ps_set (i := 8) sc__law_least.nd rfl (by first | exact Or.inl rfl | exact Or.inr rfl) (pe_lc (own := [("state", 6)]) rfl sc__law_least.nd (pi_range1 rfl BT.b_range (pa_cons (pe_callB (call_lenK K.fr) rfl BT.b_len PySem.boot_len (pa_cons (pv 2) pa_nil)) pa_nil)) (blkOk_by (own := [("state", 6)]) (N := N__law_least) (sc := defScope s__law_least) (by decide +kernel)) (fun _ _ _ _ _ => (pg_name (i := 6) sc__law_least.nd rfl (by first | exact Or.inl rfl | exact Or.inr rfl))) (fun _ _ _ _ _ => pts_nil) (fun _ _ _ _ _ => (pe_tup (pa_cons (pe_ix (ix_listK K.fr) (pv 7) (pv 6) (fun _ _ => rfl)) (pa_cons (pe_callTy (call_tupleK K.fr) rfl BT.b_tuple (by decide +kernel) (pa_cons (pe_lc (own := [("target", 12)]) rfl sc__law_least.nd (pi_listK K.fr (pe_ix (ix_listK K.fr) (pv 2) (pv 6) (fun _ _ => rfl))) (blk_rel (blkOk_by (own := [("target", 12)]) (N := N__law_least) (by decide +kernel))) (fun _ _ _ _ _ => (pg_name (i := 12) sc__law_least.nd rfl (by first | exact Or.inl rfl | exact Or.inr rfl))) (fun _ _ _ _ _ => pts_nil) (fun _ _ _ _ _ => (pe_ix (ix_listK K.fr) (pv 7) (pv 12) (fun _ _ => rfl)))) pa_nil)) pa_nil)))))) (pss_cons (ps_set (i := 7) sc__law_least.nd rfl (by first | exact Or.inl rfl | exact Or.inr rfl) (pe_lc (own := [("row", 14)]) rfl sc__law_least.nd (pi_listK K.fr (pv 8)) (blkOk_by (own := [("row", 14)]) (N := N__law_least) (sc := defScope s__law_least) (by decide +kernel)) (fun _ _ _ _ _ => (pg_name (i := 14) sc__law_least.nd rfl (by first | exact Or.inl rfl | exact Or.inr rfl))) (fun _ _ _ _ _ => pts_nil) (fun _ _ _ _ _ => (pe_bmK K.fr PySem.F.plainAttrs_list PySem.F.slot_list_index PySem.F.type_list_index (mt_indexN hu16) (pv 8) (pa_cons (pv 14) pa_nil))))) pss_nil))) (pss_cons (ps_set (i := 9) sc__law_least.nd rfl (by first | exact Or.inl rfl | exact Or.inr rfl) (pe_lst pa_nil)) (pss_cons (ps_for (passes_of rfl) rfl (pi_listK K.fr (pv 4)) (pg_name (i := 6) sc__law_least.nd rfl (by first | exact Or.inl rfl | exact Or.inr rfl)) (pss_cons (ps_if (pt_cmpR (op_notInK K.fr) (pe_ix (ix_listK K.fr) (pv 7) (pv 6) (fun _ _ => rfl)) (pe_lc (own := [("one", 13)]) rfl sc__law_least.nd (pi_listK K.fr (pv 9)) (blkOk_by (own := [("one", 13)]) (N := N__law_least) (sc := defScope s__law_least) (by decide +kernel)) (fun _ _ _ _ _ => (pg_name (i := 13) sc__law_least.nd rfl (by first | exact Or.inl rfl | exact Or.inr rfl))) (fun _ _ _ _ _ => pts_nil) (fun _ _ _ _ _ => (pe_ix (ix_listK K.fr) (pv 7) (pv 13) (fun _ _ => rfl)))) (by rfl)) (pss_cons (ps_expr (pe_bmK K.fr PySem.F.plainAttrs_list PySem.F.slot_list_append PySem.F.type_list_append mt_append (pv 9) (pa_cons (pv 6) pa_nil))) pss_nil) pss_nil) pss_nil)) (pss_cons (ps_set (i := 10) sc__law_least.nd rfl (by first | exact Or.inl rfl | exact Or.inr rfl) (pe_lc (own := [("state", 6)]) rfl sc__law_least.nd (pi_listK K.fr (pv 9)) (blkOk_by (own := [("state", 6)]) (N := N__law_least) (sc := defScope s__law_least) (by decide +kernel)) (fun _ _ _ _ _ => (pg_name (i := 6) sc__law_least.nd rfl (by first | exact Or.inl rfl | exact Or.inr rfl))) (fun _ _ _ _ _ => pts_nil) (fun _ _ _ _ _ => (pe_ix (ix_listK K.fr) (pv 7) (pv 6) (fun _ _ => rfl))))) (pss_cons (ps_ret (pe_tup (pa_cons (pe_lc (own := [("state", 6)]) rfl sc__law_least.nd (pi_listK K.fr (pv 9)) (blkOk_by (own := [("state", 6)]) (N := N__law_least) (sc := defScope s__law_least) (by decide +kernel)) (fun _ _ _ _ _ => (pg_name (i := 6) sc__law_least.nd rfl (by first | exact Or.inl rfl | exact Or.inr rfl))) (fun _ _ _ _ _ => pts_nil) (fun _ _ _ _ _ => (pe_lc (own := [("target", 12)]) rfl sc__law_least.nd (pi_listK K.fr (pe_ix (ix_listK K.fr) (pv 2) (pv 6) (fun _ _ => rfl))) (blk_rel (blkOk_by (own := [("target", 12)]) (N := N__law_least) (by decide +kernel))) (fun _ _ _ _ _ => (pg_name (i := 12) sc__law_least.nd rfl (by first | exact Or.inl rfl | exact Or.inr rfl))) (fun _ _ _ _ _ => pts_nil) (fun _ _ _ _ _ => (pe_bmK K.fr PySem.F.plainAttrs_list PySem.F.slot_list_index PySem.F.type_list_index (mt_indexK K.fr) (pv 10) (pa_cons (pe_ix (ix_listK K.fr) (pv 7) (pv 12) (fun _ _ => rfl)) pa_nil)))))) (pa_cons (pe_lc (own := [("state", 6)]) rfl sc__law_least.nd (pi_listK K.fr (pv 9)) (blkOk_by (own := [("state", 6)]) (N := N__law_least) (sc := defScope s__law_least) (by decide +kernel)) (fun _ _ _ _ _ => (pg_name (i := 6) sc__law_least.nd rfl (by first | exact Or.inl rfl | exact Or.inr rfl))) (fun _ _ _ _ _ => pts_nil) (fun _ _ _ _ _ => (pe_ix (ix_listK K.fr) (pv 3) (pv 6) (fun _ _ => rfl)))) pa_nil)))) pss_nil))))))))), rfl, (show StX _ _ _ [some (.dat (enc (letters_348 : Txt))), some (.dat (enc (machine_349 : ((List (List Int)) × (List Bool))))), none, none, none, none, none, none, none, none, none, none, none, none, none] _ _ _ _ from ?_)⟩
  unfold _law_least_b
  refine s_tup2 (i := 2) (j := 3) (EvP.cv (m' := (.ok machine_349)) (v_dat (i := 1) (a := (machine_349 : ((List (List Int)) × (List Bool)))) rfl) (by simp only [M.bind_ok])) (le_none rfl) fun p350 => (show StX _ _ _ [some (.dat (enc (letters_348 : Txt))), some (.dat (enc (machine_349 : ((List (List Int)) × (List Bool))))), some (.dat (enc (p350.1 : (List (List Int))))), some (.dat (enc (p350.2 : (List Bool)))), none, none, none, none, none, none, none, none, none, none, none] _ _ _ _ from ?_)
  refine s_set (i := 4) (EvP.cv (m' := (chk (decide ((((0 : Int) :: ([] : (List Int)))).length < LIM)) (.ok ((0 : Int) :: ([] : (List Int)))))) (EvP.froz (e_lst (al_cons (c_int (i := 0)) (al_nil (α := Int))))) (by simp only [M.bind_ok])) (le_none rfl) fun order_351 => (show StX _ _ _ [some (.dat (enc (letters_348 : Txt))), some (.dat (enc (machine_349 : ((List (List Int)) × (List Bool))))), some (.dat (enc (p350.1 : (List (List Int))))), some (.dat (enc (p350.2 : (List Bool)))), some (.dat (enc (order_351 : (List Int)))), none, none, none, none, none, none, none, none, none, none] _ _ _ _ from ?_)
  refine s_for (vs := [5]) (ps := (fun s352 => [some (.dat (enc (letters_348 : Txt))), some (.dat (enc (machine_349 : ((List (List Int)) × (List Bool))))), some (.dat (enc (p350.1 : (List (List Int))))), some (.dat (enc (p350.2 : (List Bool)))), some (.dat (enc (s352 : (List Int)))), none, none, none, none, none, none, none, none, none, none])) (EvIt.cv (m' := (chk (rngB 0 ((p350.1).length : Int)) (.ok (rng 0 ((p350.1).length : Int))))) (it_rng1 (e_cb1 (EvP.lookL (v_dat (i := 2) (a := (p350.1 : (List (List Int)))) rfl)) (o_len rfl))) (by simp only [M.bind_ok])) (tg_name (i := 5) (vs := [5]) (by simp)) (le_none rfl) (And.intro rfl (And.intro rfl (And.intro rfl (And.intro rfl (And.intro rfl True.intro))))) (fun F0' s352 x353 => (show StX _ _ _ [some (.dat (enc (letters_348 : Txt))), some (.dat (enc (machine_349 : ((List (List Int)) × (List Bool))))), some (.dat (enc (p350.1 : (List (List Int))))), some (.dat (enc (p350.2 : (List Bool)))), some (.dat (enc (s352 : (List Int)))), some (.dat (enc (x353 : Int))), none, none, none, none, none, none, none, none, none] _ _ _ _ from ?_)) (fun s352 => (show StX _ _ _ [some (.dat (enc (letters_348 : Txt))), some (.dat (enc (machine_349 : ((List (List Int)) × (List Bool))))), some (.dat (enc (p350.1 : (List (List Int))))), some (.dat (enc (p350.2 : (List Bool)))), some (.dat (enc (s352 : (List Int)))), none, none, none, none, none, none, none, none, none, none] _ _ _ _ from ?_))
  · refine s_for (vs := [6]) (ps := (fun s354 => [some (.dat (enc (letters_348 : Txt))), some (.dat (enc (machine_349 : ((List (List Int)) × (List Bool))))), some (.dat (enc (p350.1 : (List (List Int))))), some (.dat (enc (p350.2 : (List Bool)))), some (.dat (enc (s354 : (List Int)))), some (.dat (enc (x353 : Int))), none, none, none, none, none, none, none, none, none])) (EvIt.cv (m' := (.ok (cutL s352 (some x353) (some (x353 + (1 : Int)))))) (it_list (EvP.froz (e_slL (EvP.lookL (v_dat (i := 4) (a := (s352 : (List Int))) rfl)) (po_so (v_dat (i := 5) (a := (x353 : Int)) rfl)) (po_so (e_op (v_dat (i := 5) (a := (x353 : Int)) rfl) (c_int (i := 1)) o_add))))) (by simp only [M.bind_ok])) (tg_name (i := 6) (vs := [6]) (by simp)) (le_none rfl) (And.intro rfl (And.intro rfl (And.intro rfl (And.intro rfl (And.intro rfl (And.intro rfl True.intro)))))) (fun F0' s354 x355 => (show StX _ _ _ [some (.dat (enc (letters_348 : Txt))), some (.dat (enc (machine_349 : ((List (List Int)) × (List Bool))))), some (.dat (enc (p350.1 : (List (List Int))))), some (.dat (enc (p350.2 : (List Bool)))), some (.dat (enc (s354 : (List Int)))), some (.dat (enc (x353 : Int))), some (.dat (enc (x355 : Int))), none, none, none, none, none, none, none, none] _ _ _ _ from ?_)) (fun s354 => (show StX _ _ _ [some (.dat (enc (letters_348 : Txt))), some (.dat (enc (machine_349 : ((List (List Int)) × (List Bool))))), some (.dat (enc (p350.1 : (List (List Int))))), some (.dat (enc (p350.2 : (List Bool)))), some (.dat (enc (s354 : (List Int)))), some (.dat (enc (x353 : Int))), none, none, none, none, none, none, none, none, none] _ _ _ _ from ?_))
    · refine s_set (i := 4) (EvP.cv (m' := (M.bind (M.bind (M.bind (getL p350.1 x355) fun z356 => (.ok (enumL z356))) fun z361 => (lcF (fun x357 => (if (!memB x357.2 s354) = true then (M.bind (M.bind (getL p350.1 x355) fun z359 => (.ok (cutL z359 none (some x357.1)))) fun z360 => (.ok (!memB x357.2 z360))) else .ok false)) (fun x357 => (.ok x357.2)) z361)) fun z362 => (chk (decide ((s354).length + (z362).length < LIM)) (.ok (s354 ++ z362))))) (EvP.froz (e_op (EvP.lookL (v_dat (i := 4) (a := (s354 : (List Int))) rfl)) (EvP.look (e_lcF (it_enum (e_op (EvP.lookL (v_dat (i := 2) (a := (p350.1 : (List (List Int)))) rfl)) (v_dat (i := 6) (a := (x355 : Int)) rfl) o_ixL)) (tg_2 (i := 11) (j := 12) (vs := [11, 12]) (by simp) (by simp)) (fun x357 => EvT.cv (t_and (t_val (e_op (v_dat (i := 12) (a := (x357.2 : Int)) rfl) (EvP.lookL (v_dat (i := 4) (a := (s354 : (List Int))) rfl)) o_notIn)) (t_val (e_op (v_dat (i := 12) (a := (x357.2 : Int)) rfl) (EvP.look (e_slL (EvP.lookL (e_op (EvP.lookL (v_dat (i := 2) (a := (p350.1 : (List (List Int)))) rfl)) (v_dat (i := 6) (a := (x355 : Int)) rfl) o_ixL)) po_no (po_so (v_dat (i := 11) (a := (x357.1 : Int)) rfl)))) o_notIn))) rfl) (fun x357 => (EvP.cv (m' := (.ok x357.2)) (v_dat (i := 12) (a := (x357.2 : Int)) rfl) (by simp only [M.bind_ok]))))) o_cat)) (by simp only [M.bind_ok])) (le_none rfl) fun order_363 => (show StX _ _ _ [some (.dat (enc (letters_348 : Txt))), some (.dat (enc (machine_349 : ((List (List Int)) × (List Bool))))), some (.dat (enc (p350.1 : (List (List Int))))), some (.dat (enc (p350.2 : (List Bool)))), some (.dat (enc (order_363 : (List Int)))), some (.dat (enc (x353 : Int))), some (.dat (enc (x355 : Int))), none, none, none, none, none, none, none, none] _ _ _ _ from ?_)
      exact s_nil (And.intro rfl (And.intro rfl (And.intro rfl (And.intro rfl (And.intro rfl (And.intro rfl True.intro))))))
    · exact s_nil (And.intro rfl (And.intro rfl (And.intro rfl (And.intro rfl (And.intro rfl True.intro)))))
  · refine s_set (i := 7) (EvP.cv (m' := (lcM (fun x365 => (.ok (if x365 then (1 : Int) else 0))) p350.2)) (EvP.froz (e_lc (it_list (v_dat (i := 3) (a := (p350.2 : (List Bool))) rfl)) (tg_name (i := 13) (vs := [13]) (by simp)) (fun x365 => (EvP.cv (m' := (.ok (if x365 then (1 : Int) else 0))) (e_cb1 (v_dat (i := 13) (a := (x365 : Bool)) rfl) o_intB) (by simp only [M.bind_ok]))))) (by simp only [M.bind_ok])) (le_none rfl) fun marks_366 => (show StX _ _ _ [some (.dat (enc (letters_348 : Txt))), some (.dat (enc (machine_349 : ((List (List Int)) × (List Bool))))), some (.dat (enc (p350.1 : (List (List Int))))), some (.dat (enc (p350.2 : (List Bool)))), some (.dat (enc (s352 : (List Int)))), none, none, some (.dat (enc (marks_366 : (List Int)))), none, none, none, none, none, none, none] _ _ _ _ from ?_)
    refine s_for (vs := [5]) (ps := (fun s367 => [some (.dat (enc (letters_348 : Txt))), some (.dat (enc (machine_349 : ((List (List Int)) × (List Bool))))), some (.dat (enc (p350.1 : (List (List Int))))), some (.dat (enc (p350.2 : (List Bool)))), some (.dat (enc (s352 : (List Int)))), none, none, some (.dat (enc (s367 : (List Int)))), none, none, none, none, none, none, none])) (EvIt.cv (m' := (chk (rngB 0 ((p350.1).length : Int)) (.ok (rng 0 ((p350.1).length : Int))))) (it_rng1 (e_cb1 (EvP.lookL (v_dat (i := 2) (a := (p350.1 : (List (List Int)))) rfl)) (o_len rfl))) (by simp only [M.bind_ok])) (tg_name (i := 5) (vs := [5]) (by simp)) (le_none rfl) (And.intro rfl (And.intro rfl (And.intro rfl (And.intro rfl (And.intro rfl (And.intro rfl True.intro)))))) (fun F0' s367 x368 => (show StX _ _ _ [some (.dat (enc (letters_348 : Txt))), some (.dat (enc (machine_349 : ((List (List Int)) × (List Bool))))), some (.dat (enc (p350.1 : (List (List Int))))), some (.dat (enc (p350.2 : (List Bool)))), some (.dat (enc (s352 : (List Int)))), some (.dat (enc (x368 : Int))), none, some (.dat (enc (s367 : (List Int)))), none, none, none, none, none, none, none] _ _ _ _ from ?_)) (fun s367 => (show StX _ _ _ [some (.dat (enc (letters_348 : Txt))), some (.dat (enc (machine_349 : ((List (List Int)) × (List Bool))))), some (.dat (enc (p350.1 : (List (List Int))))), some (.dat (enc (p350.2 : (List Bool)))), some (.dat (enc (s352 : (List Int)))), none, none, some (.dat (enc (s367 : (List Int)))), none, none, none, none, none, none, none] _ _ _ _ from ?_))
    · refine s_set (i := 8) (EvP.cv (m' := (M.bind (chk (rngB 0 ((p350.1).length : Int)) (.ok (rng 0 ((p350.1).length : Int)))) fun z377 => (lcM (fun x369 => (M.bind (getL s367 x369) fun z375 => (M.bind (M.bind (M.bind (getL p350.1 x369) fun z373 => (lcM (fun x372 => (getL s367 x372)) z373)) fun z374 => (.ok (Tp.mk z374))) fun z376 => (.ok (z375, z376))))) z377))) (EvP.froz (e_lc (it_rng1 (e_cb1 (EvP.lookL (v_dat (i := 2) (a := (p350.1 : (List (List Int)))) rfl)) (o_len rfl))) (tg_name (i := 6) (vs := [6]) (by simp)) (fun x369 => (EvP.cv (m' := (M.bind (getL s367 x369) fun z375 => (M.bind (M.bind (M.bind (getL p350.1 x369) fun z373 => (lcM (fun x372 => (getL s367 x372)) z373)) fun z374 => (.ok (Tp.mk z374))) fun z376 => (.ok (z375, z376))))) (e_tup2 (e_op (EvP.lookL (v_dat (i := 7) (a := (s367 : (List Int))) rfl)) (v_dat (i := 6) (a := (x369 : Int)) rfl) o_ixL) (e_cb1 (EvP.look (e_lc (it_list (e_op (EvP.lookL (v_dat (i := 2) (a := (p350.1 : (List (List Int)))) rfl)) (v_dat (i := 6) (a := (x369 : Int)) rfl) o_ixL)) (tg_name (i := 12) (vs := [12]) (by simp)) (fun x372 => (EvP.cv (m' := (getL s367 x372)) (e_op (EvP.lookL (v_dat (i := 7) (a := (s367 : (List Int))) rfl)) (v_dat (i := 12) (a := (x372 : Int)) rfl) o_ixL) (by simp only [M.bind_ok]))))) o_tuple)) (by simp only [M.bind_ok]))))) (by simp only [M.bind_ok])) (le_none rfl) fun rows_378 => (show StX _ _ _ [some (.dat (enc (letters_348 : Txt))), some (.dat (enc (machine_349 : ((List (List Int)) × (List Bool))))), some (.dat (enc (p350.1 : (List (List Int))))), some (.dat (enc (p350.2 : (List Bool)))), some (.dat (enc (s352 : (List Int)))), some (.dat (enc (x368 : Int))), none, some (.dat (enc (s367 : (List Int)))), some (.dat (enc (rows_378 : (List (Int × (Tp Int)))))), none, none, none, none, none, none] _ _ _ _ from ?_)
      refine s_set (i := 7) (EvP.cv (m' := (lcM (fun x379 => (idxN rows_378 x379)) rows_378)) (EvP.froz (e_lc (it_list (v_dat (i := 8) (a := (rows_378 : (List (Int × (Tp Int))))) rfl)) (tg_name (i := 14) (vs := [14]) (by simp)) (fun x379 => (EvP.cv (m' := (idxN rows_378 x379)) (e_bm (EvP.lookL (v_dat (i := 8) (a := (rows_378 : (List (Int × (Tp Int))))) rfl)) (v_dat (i := 14) (a := (x379 : (Int × (Tp Int)))) rfl) ty_list o_lindexN) (by simp only [M.bind_ok]))))) (by simp only [M.bind_ok])) (le_none rfl) fun marks_380 => (show StX _ _ _ [some (.dat (enc (letters_348 : Txt))), some (.dat (enc (machine_349 : ((List (List Int)) × (List Bool))))), some (.dat (enc (p350.1 : (List (List Int))))), some (.dat (enc (p350.2 : (List Bool)))), some (.dat (enc (s352 : (List Int)))), some (.dat (enc (x368 : Int))), none, some (.dat (enc (marks_380 : (List Int)))), some (.dat (enc (rows_378 : (List (Int × (Tp Int)))))), none, none, none, none, none, none] _ _ _ _ from ?_)
      exact s_nil (And.intro rfl (And.intro rfl (And.intro rfl (And.intro rfl (And.intro rfl (And.intro rfl True.intro))))))
    · refine s_own (i := 9) (EvP.cv (m' := (.ok ([] : (List Int)))) (e_lst0 (α := Int)) (by simp only [M.bind_ok])) (le_none rfl) fun first_381 => (show StX _ _ _ [some (.dat (enc (letters_348 : Txt))), some (.dat (enc (machine_349 : ((List (List Int)) × (List Bool))))), some (.dat (enc (p350.1 : (List (List Int))))), some (.dat (enc (p350.2 : (List Bool)))), some (.dat (enc (s352 : (List Int)))), none, none, some (.dat (enc (s367 : (List Int)))), none, some (.own true (enc (first_381 : (List Int)))), none, none, none, none, none] _ _ _ _ from ?_)
      refine s_for (vs := [6]) (ps := (fun s382 => [some (.dat (enc (letters_348 : Txt))), some (.dat (enc (machine_349 : ((List (List Int)) × (List Bool))))), some (.dat (enc (p350.1 : (List (List Int))))), some (.dat (enc (p350.2 : (List Bool)))), some (.dat (enc (s352 : (List Int)))), none, none, some (.dat (enc (s367 : (List Int)))), none, some (.own true (enc (s382 : (List Int)))), none, none, none, none, none])) (EvIt.cv (m' := (.ok s352)) (it_list (v_dat (i := 4) (a := (s352 : (List Int))) rfl)) (by simp only [M.bind_ok])) (tg_name (i := 6) (vs := [6]) (by simp)) (le_none rfl) (And.intro rfl (And.intro rfl (And.intro rfl (And.intro rfl (And.intro rfl (And.intro rfl (And.intro rfl True.intro))))))) (fun F0' s382 x383 => (show StX _ _ _ [some (.dat (enc (letters_348 : Txt))), some (.dat (enc (machine_349 : ((List (List Int)) × (List Bool))))), some (.dat (enc (p350.1 : (List (List Int))))), some (.dat (enc (p350.2 : (List Bool)))), some (.dat (enc (s352 : (List Int)))), none, some (.dat (enc (x383 : Int))), some (.dat (enc (s367 : (List Int)))), none, some (.own true (enc (s382 : (List Int)))), none, none, none, none, none] _ _ _ _ from ?_)) (fun s382 => (show StX _ _ _ [some (.dat (enc (letters_348 : Txt))), some (.dat (enc (machine_349 : ((List (List Int)) × (List Bool))))), some (.dat (enc (p350.1 : (List (List Int))))), some (.dat (enc (p350.2 : (List Bool)))), some (.dat (enc (s352 : (List Int)))), none, none, some (.dat (enc (s367 : (List Int)))), none, some (.own true (enc (s382 : (List Int)))), none, none, none, none, none] _ _ _ _ from ?_))
      · refine s_ifM (N' := (List Int)) (pn' := (fun j392 => [some (.dat (enc (letters_348 : Txt))), some (.dat (enc (machine_349 : ((List (List Int)) × (List Bool))))), some (.dat (enc (p350.1 : (List (List Int))))), some (.dat (enc (p350.2 : (List Bool)))), some (.dat (enc (s352 : (List Int)))), none, some (.dat (enc (x383 : Int))), some (.dat (enc (s367 : (List Int)))), none, some (.own true (enc (j392 : (List Int)))), none, none, none, none, none])) (EvT.cv (m' := (M.bind (getL s367 x383) fun z388 => (M.bind (noX (lcM (fun x386 => (getL s367 x386)) s382)) fun z389 => (.ok (!memB z388 z389))))) (t_val (e_op (e_op (EvP.lookL (v_dat (i := 7) (a := (s367 : (List Int))) rfl)) (v_dat (i := 6) (a := (x383 : Int)) rfl) o_ixL) (EvP.look (e_tmpL (i := 9) (a := (s382 : (List Int))) rfl (fun Fz387 => (e_lc (it_list (v_dat (i := 9) (a := (s382 : (List Int))) rfl)) (tg_name (i := 13) (vs := [13]) (by simp)) (fun x386 => (EvP.cv (m' := (getL s367 x386)) (e_op (EvP.lookL (v_dat (i := 7) (a := (s367 : (List Int))) rfl)) (v_dat (i := 13) (a := (x386 : Int)) rfl) o_ixL) (by simp only [M.bind_ok]))))))) o_notIn)) (by simp only [M.bind_ok])) (le_none rfl) (show StX _ _ _ [some (.dat (enc (letters_348 : Txt))), some (.dat (enc (machine_349 : ((List (List Int)) × (List Bool))))), some (.dat (enc (p350.1 : (List (List Int))))), some (.dat (enc (p350.2 : (List Bool)))), some (.dat (enc (s352 : (List Int)))), none, some (.dat (enc (x383 : Int))), some (.dat (enc (s367 : (List Int)))), none, some (.own true (enc (s382 : (List Int)))), none, none, none, none, none] _ _ _ _ from ?_) (show StX _ _ _ [some (.dat (enc (letters_348 : Txt))), some (.dat (enc (machine_349 : ((List (List Int)) × (List Bool))))), some (.dat (enc (p350.1 : (List (List Int))))), some (.dat (enc (p350.2 : (List Bool)))), some (.dat (enc (s352 : (List Int)))), none, some (.dat (enc (x383 : Int))), some (.dat (enc (s367 : (List Int)))), none, some (.own true (enc (s382 : (List Int)))), none, none, none, none, none] _ _ _ _ from ?_) (fun j392 => (show StX _ _ _ [some (.dat (enc (letters_348 : Txt))), some (.dat (enc (machine_349 : ((List (List Int)) × (List Bool))))), some (.dat (enc (p350.1 : (List (List Int))))), some (.dat (enc (p350.2 : (List Bool)))), some (.dat (enc (s352 : (List Int)))), none, some (.dat (enc (x383 : Int))), some (.dat (enc (s367 : (List Int)))), none, some (.own true (enc (j392 : (List Int)))), none, none, none, none, none] _ _ _ _ from ?_))
        · refine s_app (i := 9) (xs := (s382 : (List Int))) rfl (EvP.cv (m' := (.ok x383)) (v_dat (i := 6) (a := (x383 : Int)) rfl) (by simp only [M.bind_ok])) (le_none rfl) fun a393 => (show StX _ _ _ [some (.dat (enc (letters_348 : Txt))), some (.dat (enc (machine_349 : ((List (List Int)) × (List Bool))))), some (.dat (enc (p350.1 : (List (List Int))))), some (.dat (enc (p350.2 : (List Bool)))), some (.dat (enc (s352 : (List Int)))), none, some (.dat (enc (x383 : Int))), some (.dat (enc (s367 : (List Int)))), none, some (.own true (enc ((s382 ++ [a393]) : (List Int)))), none, none, none, none, none] _ _ _ _ from ?_)
          exact s_nil (And.intro rfl (And.intro rfl (And.intro rfl (And.intro rfl (And.intro rfl (And.intro rfl (And.intro rfl (And.intro rfl True.intro))))))))
        · exact s_nil (And.intro rfl (And.intro rfl (And.intro rfl (And.intro rfl (And.intro rfl (And.intro rfl (And.intro rfl (And.intro rfl True.intro))))))))
        · exact s_nil (And.intro rfl (And.intro rfl (And.intro rfl (And.intro rfl (And.intro rfl (And.intro rfl (And.intro rfl True.intro)))))))
      · refine s_set (i := 10) (EvP.cv (m' := (noX (lcM (fun x394 => (getL s367 x394)) s382))) (EvP.froz (e_tmpL (i := 9) (a := (s382 : (List Int))) rfl (fun Fz395 => (e_lc (it_list (v_dat (i := 9) (a := (s382 : (List Int))) rfl)) (tg_name (i := 6) (vs := [6]) (by simp)) (fun x394 => (EvP.cv (m' := (getL s367 x394)) (e_op (EvP.lookL (v_dat (i := 7) (a := (s367 : (List Int))) rfl)) (v_dat (i := 6) (a := (x394 : Int)) rfl) o_ixL) (by simp only [M.bind_ok]))))))) (by simp only [M.bind_ok])) (le_none rfl) fun numbers_396 => (show StX _ _ _ [some (.dat (enc (letters_348 : Txt))), some (.dat (enc (machine_349 : ((List (List Int)) × (List Bool))))), some (.dat (enc (p350.1 : (List (List Int))))), some (.dat (enc (p350.2 : (List Bool)))), some (.dat (enc (s352 : (List Int)))), none, none, some (.dat (enc (s367 : (List Int)))), none, some (.own true (enc (s382 : (List Int)))), some (.dat (enc (numbers_396 : (List Int)))), none, none, none, none] _ _ _ _ from ?_)
        refine s_froz (i := 9) (a := (s382 : (List Int))) rfl (show StX _ _ _ [some (.dat (enc (letters_348 : Txt))), some (.dat (enc (machine_349 : ((List (List Int)) × (List Bool))))), some (.dat (enc (p350.1 : (List (List Int))))), some (.dat (enc (p350.2 : (List Bool)))), some (.dat (enc (s352 : (List Int)))), none, none, some (.dat (enc (s367 : (List Int)))), none, some (.dat (enc (s382 : (List Int)))), some (.dat (enc (numbers_396 : (List Int)))), none, none, none, none] _ _ _ _ from ?_)
        exact s_ret (k := .dat) (EvP.cv (m' := (M.bind (lcM (fun x401 => (M.bind (getL p350.1 x401) fun z404 => (lcM (fun x402 => (M.bind (getL s367 x402) fun z403 => (idxL numbers_396 z403))) z404))) s382) fun z406 => (M.bind (lcM (fun x405 => (getL p350.2 x405)) s382) fun z407 => (.ok (z406, z407))))) (e_tup2 (EvP.froz (e_lc (it_list (v_dat (i := 9) (a := (s382 : (List Int))) rfl)) (tg_name (i := 6) (vs := [6]) (by simp)) (fun x401 => (EvP.cv (m' := (M.bind (getL p350.1 x401) fun z404 => (lcM (fun x402 => (M.bind (getL s367 x402) fun z403 => (idxL numbers_396 z403))) z404))) (EvP.froz (e_lc (it_list (e_op (EvP.lookL (v_dat (i := 2) (a := (p350.1 : (List (List Int)))) rfl)) (v_dat (i := 6) (a := (x401 : Int)) rfl) o_ixL)) (tg_name (i := 12) (vs := [12]) (by simp)) (fun x402 => (EvP.cv (m' := (M.bind (getL s367 x402) fun z403 => (idxL numbers_396 z403))) (e_bm (EvP.lookL (v_dat (i := 10) (a := (numbers_396 : (List Int))) rfl)) (e_op (EvP.lookL (v_dat (i := 7) (a := (s367 : (List Int))) rfl)) (v_dat (i := 12) (a := (x402 : Int)) rfl) o_ixL) ty_list o_lindex) (by simp only [M.bind_ok]))))) (by simp only [M.bind_ok]))))) (EvP.froz (e_lc (it_list (v_dat (i := 9) (a := (s382 : (List Int))) rfl)) (tg_name (i := 6) (vs := [6]) (by simp)) (fun x405 => (EvP.cv (m' := (getL p350.2 x405)) (e_op (EvP.lookL (v_dat (i := 3) (a := (p350.2 : (List Bool))) rfl)) (v_dat (i := 6) (a := (x405 : Int)) rfl) o_ixL) (by simp only [M.bind_ok])))))) (by simp only [M.bind_ok])) (fun a => a) (le_none rfl)

abbrev s__law_told : Stmt := top 27
abbrev N__law_told : List Str := ["letters", "machine", "which"]
theorem sc__law_told : FnScope N__law_told ["letters", "machine", "which"] (defScope s__law_told) := ⟨rfl, rfl, rfl, by decide +kernel, rfl, by decide +kernel, by decide +kernel⟩
theorem ok__law_told {K : Kx} {mg : Str → Option Value} {base : Heap} {f : Addr} {fd : FuncData} (F : Fun K.fr "_law_told" "_law_told" s__law_told f fd) (BT : Bt mg) (GL : Glo mg) (XC : Xcs K.fr mg) (h_ring_of : Fk K mg base "ring_of" 3 ["letters", "machine"] (spM K mg .dat (Rm2 ring_of))) (h_rest_paper : Fk K mg base "rest_paper" 4 ["letters", "machine"] (spM K mg .dat (Rm2 rest_paper))) (h_members : Fk K mg base "members" 3 ["letters", "machine"] (spM K mg .deep (Rm2 members))) :
    FnOk K.P K.w K.fr mg base (L2.CX K.P K.w) 5 f fd ["letters", "machine", "which"] (spM K mg .deep (Rm3 _law_told)) := by
  obtain ⟨f_ring_of, fd_ring_of, G_ring_of, b_ring_of, m_ring_of, k_ring_of⟩ := h_ring_of.ex
  obtain ⟨f_rest_paper, fd_rest_paper, G_rest_paper, b_rest_paper, m_rest_paper, k_rest_paper⟩ := h_rest_paper.ex
  obtain ⟨f_members, fd_members, G_members, b_members, m_members, k_members⟩ := h_members.ex
  obtain ⟨C_HallError, gx_HallError, x_HallError, k_HallError, sb_HallError, ty_HallError⟩ := XC.c_HallError
  obtain ⟨C_TooMany, gx_TooMany, x_TooMany, k_TooMany, sb_TooMany, ty_TooMany⟩ := XC.c_TooMany
  obtain ⟨t_MOST_THINGS, gm_MOST_THINGS⟩ := GL.g_MOST_THINGS
  refine fn_ok (N := N__law_told) (R := ((List (List Int)) ⊕ Txt)) none (fun r h => nomatch h) F sc__law_told (by rintro ds m ⟨letters_412, machine_413, which_414, rfl, _⟩; rfl) (by decide) (fun cdv A outer s H E c ds m hr hm hK hg hW => ?_)
  obtain ⟨letters_412, machine_413, which_414, rfl, rfl⟩ := hm
  obtain ⟨cK, cmg, cF, cH, cG, cW⟩ := c
  cases (show K = cK from hK.symm); cases (show mg = cmg from hg.symm); cases hW
  have hu := hu_of hr
  have hu64 := hr.units
  have hu9 := Nat.lt_of_le_of_lt (Nat.add_le_add_left (by decide : 9 ≤ 64) _) hu64
  have hu16 := Nat.lt_of_le_of_lt (Nat.add_le_add_left (by decide : 16 ≤ 64) _) hu64
  have tk : Takes (cxOf (L2.CX K.P K.w) K.P K.w K.fr mg base N__law_told "_law_told" (defScope s__law_told) f cdv A outer s H E) (fun cls d _ H => E cls d H) := takes_of rfl rfl rfl rfl
  refine ⟨_, _law_told_b letters_412 machine_413 which_414, (pss_cons (ps_try_manyK rfl rfl tk (fun W _ _ tk2 _ => (pss_cons (ps_if (pt_cmpR op_eq (pv 2) pe_int (nomark _)) (pss_cons (ps_ret (pe_callS G_ring_of (hr.mono (by decide)) rfl m_ring_of k_ring_of b_ring_of (fun σ => passAt tk2 σ) (pa_cons (pv 0) (pa_cons (pv 1) pa_nil)))) pss_nil) pss_nil) (pss_cons (ps_if (pt_cmpR op_eq (pv 2) pe_int (nomark _)) (pss_cons (ps_ret (pe_callS G_rest_paper (hr.mono (by decide)) rfl m_rest_paper k_rest_paper b_rest_paper (fun σ => passAt tk2 σ) (pa_cons (pv 0) (pa_cons (pv 1) pa_nil)))) pss_nil) pss_nil) (pss_cons (ps_ret (pe_callS G_members (hr.mono (by decide)) rfl m_members k_members b_members (fun σ => passAt tk2 σ) (pa_cons (pv 0) (pa_cons (pv 1) pa_nil)))) pss_nil)))) (HdsOk.cons (c := .ref C_TooMany) ⟨rfl, by decide, .inl gx_TooMany⟩ (fun _ _ _ _ _ _ _ => (pss_cons (ps_ret pe_str) pss_nil)) (HdsOk.cons (c := .ref C_HallError) ⟨rfl, by decide, .inl gx_HallError⟩ (fun _ _ _ _ _ _ _ => (pss_cons (ps_ret pe_str) pss_nil)) HdsOk.nil))) pss_nil), rfl, (show StX _ _ _ [some (.dat (enc (letters_412 : Txt))), some (.dat (enc (machine_413 : ((List (List Int)) × (List Bool))))), some (.dat (enc (which_414 : Int)))] _ _ _ _ from ?_)⟩
  unfold _law_told_b
  refine s_try (pn' := fun (_ : Unit) => [some (.dat (enc (letters_412 : Txt))), some (.dat (enc (machine_413 : ((List (List Int)) × (List Bool))))), some (.dat (enc (which_414 : Int)))]) (xe' := [some (.dat (enc (letters_412 : Txt))), some (.dat (enc (machine_413 : ((List (List Int)) × (List Bool))))), some (.dat (enc (which_414 : Int)))]) (fun _ => (show StX _ _ _ [some (.dat (enc (letters_412 : Txt))), some (.dat (enc (machine_413 : ((List (List Int)) × (List Bool))))), some (.dat (enc (which_414 : Int)))] _ _ _ _ from ?_)) ?hh (fun _ => s_stuck)
  · refine s_ifD (EvT.cv (m' := (.ok (eqD which_414 (1 : Int)))) (t_val (e_op (v_dat (i := 2) (a := (which_414 : Int)) rfl) (c_int (i := 1)) o_eq)) (by simp only [M.bind_ok])) (And.intro rfl (And.intro rfl (And.intro rfl True.intro))) (show StX _ _ _ [some (.dat (enc (letters_412 : Txt))), some (.dat (enc (machine_413 : ((List (List Int)) × (List Bool))))), some (.dat (enc (which_414 : Int)))] _ _ _ _ from ?_) (show StX _ _ _ [some (.dat (enc (letters_412 : Txt))), some (.dat (enc (machine_413 : ((List (List Int)) × (List Bool))))), some (.dat (enc (which_414 : Int)))] _ _ _ _ from ?_)
    · exact s_retNo (EvP.cv (m' := (ring_of letters_412 machine_413)) (e_call2 (f := ring_of) (v_dat (i := 0) (a := (letters_412 : Txt)) rfl) (v_dat (i := 1) (a := (machine_413 : ((List (List Int)) × (List Bool)))) rfl)) (by simp only [M.bind_ok])) (And.intro rfl (And.intro rfl (And.intro rfl True.intro)))
    · refine s_ifD (EvT.cv (m' := (.ok (eqD which_414 (2 : Int)))) (t_val (e_op (v_dat (i := 2) (a := (which_414 : Int)) rfl) (c_int (i := 2)) o_eq)) (by simp only [M.bind_ok])) (And.intro rfl (And.intro rfl (And.intro rfl True.intro))) (show StX _ _ _ [some (.dat (enc (letters_412 : Txt))), some (.dat (enc (machine_413 : ((List (List Int)) × (List Bool))))), some (.dat (enc (which_414 : Int)))] _ _ _ _ from ?_) (show StX _ _ _ [some (.dat (enc (letters_412 : Txt))), some (.dat (enc (machine_413 : ((List (List Int)) × (List Bool))))), some (.dat (enc (which_414 : Int)))] _ _ _ _ from ?_)
      · exact s_retNo (EvP.cv (m' := (rest_paper letters_412 machine_413)) (e_call2 (f := rest_paper) (v_dat (i := 0) (a := (letters_412 : Txt)) rfl) (v_dat (i := 1) (a := (machine_413 : ((List (List Int)) × (List Bool)))) rfl)) (by simp only [M.bind_ok])) (And.intro rfl (And.intro rfl (And.intro rfl True.intro)))
      · exact s_ret (k := .deep) (EvP.cv (m' := (members letters_412 machine_413)) (e_call2 (f := members) (v_dat (i := 0) (a := (letters_412 : Txt)) rfl) (v_dat (i := 1) (a := (machine_413 : ((List (List Int)) × (List Bool)))) rfl)) (by simp only [M.bind_ok])) (fun a => (Sum.inl a : ((List (List Int)) ⊕ Txt))) (And.intro rfl (And.intro rfl (And.intro rfl True.intro)))
  case hh =>
    intro n m hn C hC d σ F H Dn S w
    by_cases e_TooMany : n = "TooMany"
    · subst e_TooMany
      obtain rfl : C = C_TooMany := by
        have q := hC.symm.trans gx_TooMany
        injection q with q
        injection q
      cases hn
      refine many_yes (XC.e_TooMany_TooMany _ _ gx_TooMany gx_TooMany) ?_
      refine (show StX _ _ _ [some (.dat (enc (letters_412 : Txt))), some (.dat (enc (machine_413 : ((List (List Int)) × (List Bool))))), some (.dat (enc (which_414 : Int)))] _ _ _ _ from ?_) σ F H Dn S w
      exact s_ret (k := .deep) (EvP.cv (m' := (.ok (Txt.mk [109, 97, 110, 121]))) (EvP.deepS (c_txt (cs := [109, 97, 110, 121]) (by decide +kernel))) (by simp only [M.bind_ok])) (fun a => (Sum.inr a : ((List (List Int)) ⊕ Txt))) (le_none rfl)
    rw [if_neg e_TooMany] at hn
    cases hn

abbrev s__law_members : Stmt := top 28
abbrev N__law_members : List Str := ["letters", "table", "found", "there", "at", "k", "row", "state"]
theorem sc__law_members : FnScope N__law_members ["letters", "table"] (defScope s__law_members) := ⟨rfl, rfl, rfl, by decide +kernel, rfl, by decide +kernel, by decide +kernel⟩
theorem ok__law_members {K : Kx} {mg : Str → Option Value} {base : Heap} {f : Addr} {fd : FuncData} (F : Fun K.fr "_law_members" "_law_members" s__law_members f fd) (BT : Bt mg) (GL : Glo mg) (XC : Xcs K.fr mg)  :
    FnOk K.P K.w K.fr mg base (L2.CX K.P K.w) 1 f fd ["letters", "table"] (spM K mg .dat (Rm2 _law_members)) := by
  obtain ⟨t_MOST_THINGS, gm_MOST_THINGS⟩ := GL.g_MOST_THINGS
  refine fn_ok (N := N__law_members) (R := (Option (List (List Int)))) none (fun r h => nomatch h) F sc__law_members (by rintro ds m ⟨letters_423, table_424, rfl, _⟩; rfl) (by decide) (fun cdv A outer s H E c ds m hr hm hK hg hW => ?_)
  obtain ⟨letters_423, table_424, rfl, rfl⟩ := hm
  obtain ⟨cK, cmg, cF, cH, cG, cW⟩ := c
  cases (show K = cK from hK.symm); cases (show mg = cmg from hg.symm); cases hW
  have hu := hu_of hr
  have hu64 := hr.units
  have hu9 := Nat.lt_of_le_of_lt (Nat.add_le_add_left (by decide : 9 ≤ 64) _) hu64
  have hu16 := Nat.lt_of_le_of_lt (Nat.add_le_add_left (by decide : 16 ≤ 64) _) hu64
  have tk : Takes (cxOf (L2.CX K.P K.w) K.P K.w K.fr mg base N__law_members "_law_members" (defScope s__law_members) f cdv A outer s H E) (fun cls d _ H => E cls d H) := takes_of rfl rfl rfl rfl
  refine ⟨_, _law_members_b letters_423 table_424, (pss_cons (ps_par (i := 2) (j := 3) rfl sc__law_members.nd rfl rfl (by decide) rfl rfl (pa_cons (pe_lst (pa_cons (pe_listRg rfl rfl BT.b_list (prg_1 rfl BT.b_range (pe_callB (call_lenK K.fr) rfl BT.b_len PySem.boot_len (pa_cons (pv 1) pa_nil)))) pa_nil)) (pa_cons (pe_dispN hu9 (pe_tupRg rfl rfl BT.b_tuple (prg_1 rfl BT.b_range (pe_callB (call_lenK K.fr) rfl BT.b_len PySem.boot_len (pa_cons (pv 1) pa_nil)))) pe_bl) pa_nil)) (by rfl)) (pss_cons (ps_for (passes_of rfl) rfl (pi_range1 rfl BT.b_range (pa_cons pe_int pa_nil)) (pg_name (i := 4) sc__law_members.nd rfl (by first | exact Or.inl rfl | exact Or.inr rfl)) (pss_cons (ps_if (pt_cmpR op_eq (pv 4) (pe_callB (call_lenK K.fr) rfl BT.b_len PySem.boot_len (pa_cons (pv 2) pa_nil)) (nomark _)) (pss_cons (ps_ret (pv 2)) pss_nil) pss_nil) (pss_cons (ps_for (passes_of rfl) rfl (pi_range1 rfl BT.b_range (pa_cons (pe_callB call_lenSK rfl BT.b_len PySem.boot_len (pa_cons (pv 0) pa_nil)) pa_nil)) (pg_name (i := 5) sc__law_members.nd rfl (by first | exact Or.inl rfl | exact Or.inr rfl)) (pss_cons (ps_setLc (i := 6) (own := [("state", 7)]) rfl sc__law_members.nd rfl rfl (sw_true rfl rfl rfl (by decide +kernel)) (pi_listK K.fr (pe_ix (ix_listK K.fr) (pv 2) (pv 4) (fun _ _ => rfl))) (blkOk_by (own := [("state", 7)]) (N := N__law_members) (sc := defScope s__law_members) (by decide +kernel)) (fun _ _ _ _ _ => (pg_name (i := 7) sc__law_members.nd rfl (by first | exact Or.inl rfl | exact Or.inr rfl))) (fun _ _ _ _ _ => pts_nil) (fun _ _ _ _ _ => (pe_ix (ix_listK K.fr) (pe_ix (ix_listK K.fr) (pv 1) (pv 7) (fun _ _ => rfl)) (pv 5) (fun _ _ => rfl)))) (pss_cons (ps_if (pt_cmp (pc_nnotin hu9 (pe_callTy (call_tupleK K.fr) rfl BT.b_tuple (by decide +kernel) (pa_cons (pv 6) pa_nil)) (pv 3))) (pss_cons (ps_nput hu9 (pv 3) (pe_callTy (call_tupleK K.fr) rfl BT.b_tuple (by decide +kernel) (pa_cons (pv 6) pa_nil)) pe_bl rfl) (pss_cons (ps_expr (pe_bmK K.fr PySem.F.plainAttrs_list PySem.F.slot_list_append PySem.F.type_list_append mt_append (pv 2) (pa_cons (pv 6) pa_nil))) pss_nil)) pss_nil) pss_nil))) (pss_cons (ps_if (pt_cmpR op_gt (pe_callB (call_lenK K.fr) rfl BT.b_len PySem.boot_len (pa_cons (pv 2) pa_nil)) pe_int (nomark _)) (pss_cons (ps_ret pe_non) pss_nil) pss_nil) pss_nil)))) (pss_cons (ps_ret pe_non) pss_nil))), rfl, (show StX _ _ _ [some (.dat (enc (letters_423 : Txt))), some (.dat (enc (table_424 : (List (List Int))))), none, none, none, none, none, none] _ _ _ _ from ?_)⟩
  unfold _law_members_b
  refine s_parOO (i := 2) (j := 3) (EvP.cv (m' := (M.bind (M.bind (chk (rngB 0 ((table_424).length : Int)) (.ok (rng 0 ((table_424).length : Int)))) fun z425 => (.ok (z425 :: ([] : (List (List Int)))))) fun z426 => (chk (decide ((z426).length < LIM)) (.ok z426)))) (e_lst (al_cons (EvP.froz (e_listRg (e_cb1 (EvP.lookL (v_dat (i := 1) (a := (table_424 : (List (List Int)))) rfl)) (o_len rfl)))) (al_nil (α := (List Int))))) (by simp only [M.bind_ok])) (EvP.cv (m' := (M.bind (chk (rngB 0 ((table_424).length : Int)) (.ok (Tp.mk (rng 0 ((table_424).length : Int))))) fun z427 => (.ok (DicN.mk [(z427, true)])))) (e_disp1N (e_tupRg (e_cb1 (EvP.lookL (v_dat (i := 1) (a := (table_424 : (List (List Int)))) rfl)) (o_len rfl))) c_bl) (by simp only [M.bind_ok])) (le_none rfl) (by decide) fun found_428 there_429 => (show StX _ _ _ [some (.dat (enc (letters_423 : Txt))), some (.dat (enc (table_424 : (List (List Int))))), some (.own true (enc (found_428 : (List (List Int))))), some (.own true (enc (there_429 : (DicN (Tp Int) Bool)))), none, none, none, none] _ _ _ _ from ?_)
  refine s_for (vs := [4]) (ps := (fun s430 => [some (.dat (enc (letters_423 : Txt))), some (.dat (enc (table_424 : (List (List Int))))), some (.own true (enc (s430.1 : (List (List Int))))), some (.own true (enc (s430.2 : (DicN (Tp Int) Bool)))), none, none, none, none])) (EvIt.cv (m' := (chk (rngB 0 (2001 : Int)) (.ok (rng 0 (2001 : Int))))) (it_rng1 (c_int (i := 2001))) (by simp only [M.bind_ok])) (tg_name (i := 4) (vs := [4]) (by simp)) (le_none rfl) (And.intro rfl (And.intro rfl (And.intro rfl (And.intro rfl True.intro)))) (fun F0' s430 x431 => (show StX _ _ _ [some (.dat (enc (letters_423 : Txt))), some (.dat (enc (table_424 : (List (List Int))))), some (.own true (enc (s430.1 : (List (List Int))))), some (.own true (enc (s430.2 : (DicN (Tp Int) Bool)))), some (.dat (enc (x431 : Int))), none, none, none] _ _ _ _ from ?_)) (fun s430 => (show StX _ _ _ [some (.dat (enc (letters_423 : Txt))), some (.dat (enc (table_424 : (List (List Int))))), some (.own true (enc (s430.1 : (List (List Int))))), some (.own true (enc (s430.2 : (DicN (Tp Int) Bool)))), none, none, none, none] _ _ _ _ from ?_))
  · refine s_ifD (EvT.cv (m' := (.ok (eqD x431 ((s430.1).length : Int)))) (t_val (e_op (v_dat (i := 4) (a := (x431 : Int)) rfl) (e_cb1 (v_see (i := 2) (a := (s430.1 : (List (List Int)))) rfl) (o_len rfl)) o_eq)) (by simp only [M.bind_ok])) (le_none rfl) (show StX _ _ _ [some (.dat (enc (letters_423 : Txt))), some (.dat (enc (table_424 : (List (List Int))))), some (.own true (enc (s430.1 : (List (List Int))))), some (.own true (enc (s430.2 : (DicN (Tp Int) Bool)))), some (.dat (enc (x431 : Int))), none, none, none] _ _ _ _ from ?_) (show StX _ _ _ [some (.dat (enc (letters_423 : Txt))), some (.dat (enc (table_424 : (List (List Int))))), some (.own true (enc (s430.1 : (List (List Int))))), some (.own true (enc (s430.2 : (DicN (Tp Int) Bool)))), some (.dat (enc (x431 : Int))), none, none, none] _ _ _ _ from ?_)
    · refine s_froz (i := 2) (a := (s430.1 : (List (List Int)))) rfl (show StX _ _ _ [some (.dat (enc (letters_423 : Txt))), some (.dat (enc (table_424 : (List (List Int))))), some (.dat (enc (s430.1 : (List (List Int))))), some (.own true (enc (s430.2 : (DicN (Tp Int) Bool)))), some (.dat (enc (x431 : Int))), none, none, none] _ _ _ _ from ?_)
      exact s_ret (k := .dat) (EvP.cv (m' := (.ok s430.1)) (v_dat (i := 2) (a := (s430.1 : (List (List Int)))) rfl) (by simp only [M.bind_ok])) (fun a => (some a : (Option (List (List Int))))) (le_none rfl)
    · refine s_for (vs := [5]) (ps := (fun s435 => [some (.dat (enc (letters_423 : Txt))), some (.dat (enc (table_424 : (List (List Int))))), some (.own true (enc (s435.1 : (List (List Int))))), some (.own true (enc (s435.2 : (DicN (Tp Int) Bool)))), some (.dat (enc (x431 : Int))), none, none, none])) (EvIt.cv (m' := (M.bind (chk (decide ((letters_423).cs.length < LIM)) (.ok ((letters_423).cs.length : Int))) fun z434 => (chk (rngB 0 z434) (.ok (rng 0 z434))))) (it_rng1 (e_cb1 (v_dat (i := 0) (a := (letters_423 : Txt)) rfl) o_lenS)) (by simp only [M.bind_ok])) (tg_name (i := 5) (vs := [5]) (by simp)) (le_none rfl) (And.intro rfl (And.intro rfl (And.intro rfl (And.intro rfl (And.intro rfl True.intro))))) (fun F0' s435 x436 => (show StX _ _ _ [some (.dat (enc (letters_423 : Txt))), some (.dat (enc (table_424 : (List (List Int))))), some (.own true (enc (s435.1 : (List (List Int))))), some (.own true (enc (s435.2 : (DicN (Tp Int) Bool)))), some (.dat (enc (x431 : Int))), some (.dat (enc (x436 : Int))), none, none] _ _ _ _ from ?_)) (fun s435 => (show StX _ _ _ [some (.dat (enc (letters_423 : Txt))), some (.dat (enc (table_424 : (List (List Int))))), some (.own true (enc (s435.1 : (List (List Int))))), some (.own true (enc (s435.2 : (DicN (Tp Int) Bool)))), some (.dat (enc (x431 : Int))), none, none, none] _ _ _ _ from ?_))
      · refine s_set (i := 6) (EvP.cv (m' := (M.bind (getL s435.1 x431) fun z439 => (lcM (fun x437 => (M.bind (getL table_424 x437) fun z438 => (getL z438 x436))) z439))) (EvP.froz (e_lc (it_list (e_op (v_see (i := 2) (a := (s435.1 : (List (List Int)))) rfl) (v_dat (i := 4) (a := (x431 : Int)) rfl) o_ixL)) (tg_name (i := 7) (vs := [7]) (by simp)) (fun x437 => (EvP.cv (m' := (M.bind (getL table_424 x437) fun z438 => (getL z438 x436))) (e_op (EvP.lookL (e_op (EvP.lookL (v_dat (i := 1) (a := (table_424 : (List (List Int)))) rfl)) (v_dat (i := 7) (a := (x437 : Int)) rfl) o_ixL)) (v_dat (i := 5) (a := (x436 : Int)) rfl) o_ixL) (by simp only [M.bind_ok]))))) (by simp only [M.bind_ok])) (le_none rfl) fun row_440 => (show StX _ _ _ [some (.dat (enc (letters_423 : Txt))), some (.dat (enc (table_424 : (List (List Int))))), some (.own true (enc (s435.1 : (List (List Int))))), some (.own true (enc (s435.2 : (DicN (Tp Int) Bool)))), some (.dat (enc (x431 : Int))), some (.dat (enc (x436 : Int))), some (.dat (enc (row_440 : (List Int)))), none] _ _ _ _ from ?_)
        refine s_ifM (N' := ((List (List Int)) × (DicN (Tp Int) Bool))) (pn' := (fun j445 => [some (.dat (enc (letters_423 : Txt))), some (.dat (enc (table_424 : (List (List Int))))), some (.own true (enc (j445.1 : (List (List Int))))), some (.own true (enc (j445.2 : (DicN (Tp Int) Bool)))), some (.dat (enc (x431 : Int))), some (.dat (enc (x436 : Int))), some (.dat (enc (row_440 : (List Int)))), none])) (EvT.cv (m' := (.ok (!hasN s435.2 (Tp.mk row_440)))) (t_B (e_dninN (e_cb1 (EvP.lookL (v_dat (i := 6) (a := (row_440 : (List Int))) rfl)) o_tuple) (v_see (i := 3) (a := (s435.2 : (DicN (Tp Int) Bool))) rfl))) (by simp only [M.bind_ok])) (le_none rfl) (show StX _ _ _ [some (.dat (enc (letters_423 : Txt))), some (.dat (enc (table_424 : (List (List Int))))), some (.own true (enc (s435.1 : (List (List Int))))), some (.own true (enc (s435.2 : (DicN (Tp Int) Bool)))), some (.dat (enc (x431 : Int))), some (.dat (enc (x436 : Int))), some (.dat (enc (row_440 : (List Int)))), none] _ _ _ _ from ?_) (show StX _ _ _ [some (.dat (enc (letters_423 : Txt))), some (.dat (enc (table_424 : (List (List Int))))), some (.own true (enc (s435.1 : (List (List Int))))), some (.own true (enc (s435.2 : (DicN (Tp Int) Bool)))), some (.dat (enc (x431 : Int))), some (.dat (enc (x436 : Int))), some (.dat (enc (row_440 : (List Int)))), none] _ _ _ _ from ?_) (fun j445 => (show StX _ _ _ [some (.dat (enc (letters_423 : Txt))), some (.dat (enc (table_424 : (List (List Int))))), some (.own true (enc (j445.1 : (List (List Int))))), some (.own true (enc (j445.2 : (DicN (Tp Int) Bool)))), some (.dat (enc (x431 : Int))), some (.dat (enc (x436 : Int))), some (.dat (enc (row_440 : (List Int)))), none] _ _ _ _ from ?_))
        · refine s_dputN (i := 3) (d := (s435.2 : (DicN (Tp Int) Bool))) rfl (EvP.cv (m' := (.ok true)) c_bl (by simp only [M.bind_ok])) (EvP.cv (m' := (.ok (Tp.mk row_440))) (e_cb1 (EvP.lookL (v_dat (i := 6) (a := (row_440 : (List Int))) rfl)) o_tuple) (by simp only [M.bind_ok])) (le_none rfl) fun a446 k447 => (show StX _ _ _ [some (.dat (enc (letters_423 : Txt))), some (.dat (enc (table_424 : (List (List Int))))), some (.own true (enc (s435.1 : (List (List Int))))), some (.own true (enc ((DicN.mk (pt (s435.2).kvs k447 a446)) : (DicN (Tp Int) Bool)))), some (.dat (enc (x431 : Int))), some (.dat (enc (x436 : Int))), some (.dat (enc (row_440 : (List Int)))), none] _ _ _ _ from ?_)
          refine s_app (i := 2) (xs := (s435.1 : (List (List Int)))) rfl (EvP.cv (m' := (.ok row_440)) (v_dat (i := 6) (a := (row_440 : (List Int))) rfl) (by simp only [M.bind_ok])) (le_none rfl) fun a448 => (show StX _ _ _ [some (.dat (enc (letters_423 : Txt))), some (.dat (enc (table_424 : (List (List Int))))), some (.own true (enc ((s435.1 ++ [a448]) : (List (List Int))))), some (.own true (enc ((DicN.mk (pt (s435.2).kvs k447 a446)) : (DicN (Tp Int) Bool)))), some (.dat (enc (x431 : Int))), some (.dat (enc (x436 : Int))), some (.dat (enc (row_440 : (List Int)))), none] _ _ _ _ from ?_)
          exact s_nil (And.intro rfl (And.intro rfl (And.intro rfl (And.intro rfl (And.intro rfl (And.intro rfl (And.intro rfl True.intro)))))))
        · exact s_nil (And.intro rfl (And.intro rfl (And.intro rfl (And.intro rfl (And.intro rfl (And.intro rfl (And.intro rfl True.intro)))))))
        · exact s_nil (And.intro rfl (And.intro rfl (And.intro rfl (And.intro rfl (And.intro rfl True.intro)))))
      · refine s_ifD (EvT.cv (m' := (.ok (decide ((2000 : Int) < ((s435.1).length : Int))))) (t_val (e_op (e_cb1 (v_see (i := 2) (a := (s435.1 : (List (List Int)))) rfl) (o_len rfl)) (c_int (i := 2000)) o_gt)) (by simp only [M.bind_ok])) (le_none rfl) (show StX _ _ _ [some (.dat (enc (letters_423 : Txt))), some (.dat (enc (table_424 : (List (List Int))))), some (.own true (enc (s435.1 : (List (List Int))))), some (.own true (enc (s435.2 : (DicN (Tp Int) Bool)))), some (.dat (enc (x431 : Int))), none, none, none] _ _ _ _ from ?_) (show StX _ _ _ [some (.dat (enc (letters_423 : Txt))), some (.dat (enc (table_424 : (List (List Int))))), some (.own true (enc (s435.1 : (List (List Int))))), some (.own true (enc (s435.2 : (DicN (Tp Int) Bool)))), some (.dat (enc (x431 : Int))), none, none, none] _ _ _ _ from ?_)
        · exact s_ret (k := .dat) (EvP.cv (m' := (.ok (none : (Option (List (List Int)))))) (c_nonO (α := (List (List Int)))) (by simp only [M.bind_ok])) (fun a => a) (le_none rfl)
        · exact s_nil (And.intro rfl (And.intro rfl (And.intro rfl (And.intro rfl True.intro))))
  · exact s_ret (k := .dat) (EvP.cv (m' := (.ok (none : (Option (List (List Int)))))) (c_nonO (α := (List (List Int)))) (by simp only [M.bind_ok])) (fun a => a) (le_none rfl)

abbrev s__law_lively : Stmt := top 29
abbrev N__law_lively : List Str := ["pool", "letters", "many", "rows", "state", "row", "k"]
theorem sc__law_lively : FnScope N__law_lively ["pool", "letters"] (defScope s__law_lively) := ⟨rfl, rfl, rfl, by decide +kernel, rfl, by decide +kernel, by decide +kernel⟩
theorem ok__law_lively {K : Kx} {mg : Str → Option Value} {base : Heap} {f : Addr} {fd : FuncData} (F : Fun K.fr "_law_lively" "_law_lively" s__law_lively f fd) (BT : Bt mg) (GL : Glo mg) (XC : Xcs K.fr mg) (h__law_pick : Fk K mg base "_law_pick" 1 ["pool", "many"] (spIO K (RmIO1 _law_pick))) :
    FnOk K.P K.w K.fr mg base (L2.CX K.P K.w) 2 f fd ["pool", "letters"] (spIO K (RmIO1 _law_lively)) := by
  obtain ⟨f__law_pick, fd__law_pick, G__law_pick, b__law_pick, m__law_pick, k__law_pick⟩ := h__law_pick.ex
  obtain ⟨t_MOST_THINGS, gm_MOST_THINGS⟩ := GL.g_MOST_THINGS
  refine fn_okIO (N := N__law_lively) (T := (List Int)) (R := ((List (List Int)) × (List Bool))) F sc__law_lively (by rintro d ds m ⟨pool_455, letters_456, _, rfl, _⟩; rfl) (by decide) (fun cdv A outer s H E c l d0 ds m hr hm hK hg hW hl => ?_)
  obtain ⟨pool_455, letters_456, rfl, rfl, rfl⟩ := hm
  obtain ⟨cK, cmg, cF, cH, cG, cW⟩ := c
  cases (show K = cK from hK.symm); cases (show mg = cmg from hg.symm); cases hW
  have hu := hu_of hr
  have hu64 := hr.units
  have hu9 := Nat.lt_of_le_of_lt (Nat.add_le_add_left (by decide : 9 ≤ 64) _) hu64
  have hu16 := Nat.lt_of_le_of_lt (Nat.add_le_add_left (by decide : 16 ≤ 64) _) hu64
  have tk : Takes (cxOf (L2.CX K.P K.w) K.P K.w K.fr mg base N__law_lively "_law_lively" (defScope s__law_lively) f cdv A outer s H E) (fun cls d _ H => E cls d H) := takes_of rfl rfl rfl rfl
  refine ⟨_, _law_lively_b pool_455 letters_456, (pss_cons (ps_set (i := 2) sc__law_lively.nd rfl (by first | exact Or.inl rfl | exact Or.inr rfl) (pe_op op_add pe_int (pe_callS G__law_pick (hr.mono (by decide)) rfl m__law_pick k__law_pick b__law_pick (fun σ => passAt tk σ) (pa_cons (pv 0) (pa_cons pe_int pa_nil))))) (pss_cons (ps_set (i := 3) sc__law_lively.nd rfl (by first | exact Or.inl rfl | exact Or.inr rfl) (pe_lst pa_nil)) (pss_cons (ps_for (passes_of rfl) rfl (pi_range1 rfl BT.b_range (pa_cons (pv 2) pa_nil)) (pg_name (i := 4) sc__law_lively.nd rfl (by first | exact Or.inl rfl | exact Or.inr rfl)) (pss_cons (ps_set (i := 5) sc__law_lively.nd rfl (by first | exact Or.inl rfl | exact Or.inr rfl) (pe_lst (pa_cons (pe_op op_mod (pe_callTy call_intK rfl BT.b_int (by decide +kernel) (pa_cons (pe_op op_add (pv 4) pe_int) pa_nil)) (pv 2)) pa_nil))) (pss_cons (ps_for (passes_of rfl) rfl (pi_range2 rfl BT.b_range (pa_cons pe_int (pa_cons (pe_callB call_lenSK rfl BT.b_len PySem.boot_len (pa_cons (pv 1) pa_nil)) pa_nil))) (pg_name (i := 6) sc__law_lively.nd rfl (by first | exact Or.inl rfl | exact Or.inr rfl)) (pss_cons (ps_expr (pe_bmK K.fr PySem.F.plainAttrs_list PySem.F.slot_list_append PySem.F.type_list_append mt_append (pv 5) (pa_cons (pe_ix (ix_listK K.fr) (pe_lst (pa_cons (pv 4) (pa_cons (pe_ifExp (pt_cmpR op_lt (pv 4) pe_int (nomark _)) (pe_ix (ix_listK K.fr) (pe_lst (pa_cons pe_int (pa_cons pe_int pa_nil))) (pv 4) (fun _ _ => rfl)) (pv 4)) (pa_cons (pe_ifExp (pt_cmpR op_eq (pv 4) pe_int (nomark _)) pe_int (pv 4)) pa_nil)))) (pe_callB (call_min2K rfl) rfl BT.b_min (by decide +kernel) (pa_cons pe_int (pa_cons (pv 6) pa_nil))) (fun _ _ => rfl)) pa_nil))) pss_nil)) (pss_cons (ps_expr (pe_bmK K.fr PySem.F.plainAttrs_list PySem.F.slot_list_append PySem.F.type_list_append mt_append (pv 3) (pa_cons (pv 5) pa_nil))) pss_nil)))) (pss_cons (ps_ret (pe_tup (pa_cons (pv 3) (pa_cons (pe_lc (own := [("state", 4)]) rfl sc__law_lively.nd (pi_range1 rfl BT.b_range (pa_cons (pv 2) pa_nil)) (blkOk_by (own := [("state", 4)]) (N := N__law_lively) (sc := defScope s__law_lively) (by decide +kernel)) (fun _ _ _ _ _ => (pg_name (i := 4) sc__law_lively.nd rfl (by first | exact Or.inl rfl | exact Or.inr rfl))) (fun _ _ _ _ _ => pts_nil) (fun _ _ _ _ _ => (pe_cmpR op_eq (pv 4) pe_int (nomark _)))) pa_nil)))) pss_nil)))), rfl, (show StX _ _ _ [some (.own false (enc (pool_455 : (List Int)))), some (.dat (enc (letters_456 : Txt))), none, none, none, none, none] _ _ _ _ from ?_)⟩
  unfold _law_lively_b
  refine sx_set (i := 2) (x_cv (m' := (M.bind (noX (_law_pick pool_455 (5 : Int))) fun s457 => (.ok (s457.1, ((3 : Int) + s457.2))))) (x_op (x_pure (post := (fun s => [some (.own false (enc (s : (List Int)))), some (.dat (enc (letters_456 : Txt))), none, none, none, none, none])) pool_455 (c_int (i := 3)) rfl (le_none rfl)) (fun q => (x_call1 (s := (q : (List Int))) (i := 0) (post := (fun s => [some (.own false (enc (s : (List Int)))), some (.dat (enc (letters_456 : Txt))), none, none, none, none, none])) (f := _law_pick) rfl (c_int (i := 5)) (le_none rfl) (fun _ => rfl))) o_add (fun _ => (le_none rfl))) (by simp only [M.bind_ok])) fun many_458 => (show StX _ _ _ [some (.own false (enc (many_458.1 : (List Int)))), some (.dat (enc (letters_456 : Txt))), some (.dat (enc (many_458.2 : Int))), none, none, none, none] _ _ _ _ from ?_)
  refine s_own (i := 3) (EvP.cv (m' := (.ok ([] : (List (List Int))))) (e_lst0 (α := (List Int))) (by simp only [M.bind_ok])) (le_none rfl) fun rows_459 => (show StX _ _ _ [some (.own false (enc (many_458.1 : (List Int)))), some (.dat (enc (letters_456 : Txt))), some (.dat (enc (many_458.2 : Int))), some (.own true (enc (rows_459 : (List (List Int))))), none, none, none] _ _ _ _ from ?_)
  refine s_for (vs := [4]) (ps := (fun s460 => [some (.own false (enc (many_458.1 : (List Int)))), some (.dat (enc (letters_456 : Txt))), some (.dat (enc (many_458.2 : Int))), some (.own true (enc (s460 : (List (List Int))))), none, none, none])) (EvIt.cv (m' := (chk (rngB 0 many_458.2) (.ok (rng 0 many_458.2)))) (it_rng1 (v_dat (i := 2) (a := (many_458.2 : Int)) rfl)) (by simp only [M.bind_ok])) (tg_name (i := 4) (vs := [4]) (by simp)) (le_none rfl) (And.intro rfl (And.intro rfl (And.intro rfl (And.intro rfl True.intro)))) (fun F0' s460 x461 => (show StX _ _ _ [some (.own false (enc (many_458.1 : (List Int)))), some (.dat (enc (letters_456 : Txt))), some (.dat (enc (many_458.2 : Int))), some (.own true (enc (s460 : (List (List Int))))), some (.dat (enc (x461 : Int))), none, none] _ _ _ _ from ?_)) (fun s460 => (show StX _ _ _ [some (.own false (enc (many_458.1 : (List Int)))), some (.dat (enc (letters_456 : Txt))), some (.dat (enc (many_458.2 : Int))), some (.own true (enc (s460 : (List (List Int))))), none, none, none] _ _ _ _ from ?_))
  · refine s_own (i := 5) (EvP.cv (m' := (M.bind (M.bind (chk (posB (x461 + (1 : Int)) many_458.2) (.ok ((x461 + (1 : Int)) % many_458.2))) fun z462 => (.ok (z462 :: ([] : (List Int))))) fun z463 => (chk (decide ((z463).length < LIM)) (.ok z463)))) (e_lst (al_cons (e_op (e_cb1 (e_op (v_dat (i := 4) (a := (x461 : Int)) rfl) (c_int (i := 1)) o_add) o_int) (v_dat (i := 2) (a := (many_458.2 : Int)) rfl) o_mod) (al_nil (α := Int)))) (by simp only [M.bind_ok])) (le_none rfl) fun row_464 => (show StX _ _ _ [some (.own false (enc (many_458.1 : (List Int)))), some (.dat (enc (letters_456 : Txt))), some (.dat (enc (many_458.2 : Int))), some (.own true (enc (s460 : (List (List Int))))), some (.dat (enc (x461 : Int))), some (.own true (enc (row_464 : (List Int)))), none] _ _ _ _ from ?_)
    refine s_for (vs := [6]) (ps := (fun s466 => [some (.own false (enc (many_458.1 : (List Int)))), some (.dat (enc (letters_456 : Txt))), some (.dat (enc (many_458.2 : Int))), some (.own true (enc (s460 : (List (List Int))))), some (.dat (enc (x461 : Int))), some (.own true (enc (s466 : (List Int)))), none])) (EvIt.cv (m' := (M.bind (chk (decide ((letters_456).cs.length < LIM)) (.ok ((letters_456).cs.length : Int))) fun z465 => (chk (rngB (1 : Int) z465) (.ok (rng (1 : Int) z465))))) (it_rng2 (c_int (i := 1)) (e_cb1 (v_dat (i := 1) (a := (letters_456 : Txt)) rfl) o_lenS)) (by simp only [M.bind_ok])) (tg_name (i := 6) (vs := [6]) (by simp)) (le_none rfl) (And.intro rfl (And.intro rfl (And.intro rfl (And.intro rfl (And.intro rfl (And.intro rfl True.intro)))))) (fun F0' s466 x467 => (show StX _ _ _ [some (.own false (enc (many_458.1 : (List Int)))), some (.dat (enc (letters_456 : Txt))), some (.dat (enc (many_458.2 : Int))), some (.own true (enc (s460 : (List (List Int))))), some (.dat (enc (x461 : Int))), some (.own true (enc (s466 : (List Int)))), some (.dat (enc (x467 : Int)))] _ _ _ _ from ?_)) (fun s466 => (show StX _ _ _ [some (.own false (enc (many_458.1 : (List Int)))), some (.dat (enc (letters_456 : Txt))), some (.dat (enc (many_458.2 : Int))), some (.own true (enc (s460 : (List (List Int))))), some (.dat (enc (x461 : Int))), some (.own true (enc (s466 : (List Int)))), none] _ _ _ _ from ?_))
    · refine s_app (i := 5) (xs := (s466 : (List Int))) rfl (EvP.cv (m' := (M.bind (M.bind (M.bind (M.bind (if (decide (x461 < (2 : Int))) = true then (M.bind (chk (decide ((((1 : Int) :: ((0 : Int) :: ([] : (List Int))))).length < LIM)) (.ok ((1 : Int) :: ((0 : Int) :: ([] : (List Int)))))) fun z474 => (getL z474 x461)) else (.ok x461)) fun z475 => (M.bind (M.bind (if (eqD x461 (1 : Int)) = true then (.ok (0 : Int)) else (.ok x461)) fun z476 => (.ok (z476 :: ([] : (List Int))))) fun z477 => (.ok (z475 :: z477)))) fun z478 => (.ok (x461 :: z478))) fun z479 => (chk (decide ((z479).length < LIM)) (.ok z479))) fun z480 => (getL z480 (if x467 < (2 : Int) then x467 else (2 : Int))))) (e_op (EvP.look (e_lst (al_cons (v_dat (i := 4) (a := (x461 : Int)) rfl) (al_cons (e_if (t_val (e_op (v_dat (i := 4) (a := (x461 : Int)) rfl) (c_int (i := 2)) o_lt)) (e_op (EvP.look (e_lst (al_cons (c_int (i := 1)) (al_cons (c_int (i := 0)) (al_nil (α := Int)))))) (v_dat (i := 4) (a := (x461 : Int)) rfl) o_ixL) (v_dat (i := 4) (a := (x461 : Int)) rfl)) (al_cons (e_if (t_val (e_op (v_dat (i := 4) (a := (x461 : Int)) rfl) (c_int (i := 1)) o_eq)) (c_int (i := 0)) (v_dat (i := 4) (a := (x461 : Int)) rfl)) (al_nil (α := Int))))))) (e_cb2 (c_int (i := 2)) (v_dat (i := 6) (a := (x467 : Int)) rfl) o_min2) o_ixL) (by simp only [M.bind_ok])) (le_none rfl) fun a481 => (show StX _ _ _ [some (.own false (enc (many_458.1 : (List Int)))), some (.dat (enc (letters_456 : Txt))), some (.dat (enc (many_458.2 : Int))), some (.own true (enc (s460 : (List (List Int))))), some (.dat (enc (x461 : Int))), some (.own true (enc ((s466 ++ [a481]) : (List Int)))), some (.dat (enc (x467 : Int)))] _ _ _ _ from ?_)
      exact s_nil (And.intro rfl (And.intro rfl (And.intro rfl (And.intro rfl (And.intro rfl (And.intro rfl True.intro))))))
    · refine s_froz (i := 5) (a := (s466 : (List Int))) rfl (show StX _ _ _ [some (.own false (enc (many_458.1 : (List Int)))), some (.dat (enc (letters_456 : Txt))), some (.dat (enc (many_458.2 : Int))), some (.own true (enc (s460 : (List (List Int))))), some (.dat (enc (x461 : Int))), some (.dat (enc (s466 : (List Int)))), none] _ _ _ _ from ?_)
      refine s_app (i := 3) (xs := (s460 : (List (List Int)))) rfl (EvP.cv (m' := (.ok s466)) (v_dat (i := 5) (a := (s466 : (List Int))) rfl) (by simp only [M.bind_ok])) (le_none rfl) fun a482 => (show StX _ _ _ [some (.own false (enc (many_458.1 : (List Int)))), some (.dat (enc (letters_456 : Txt))), some (.dat (enc (many_458.2 : Int))), some (.own true (enc ((s460 ++ [a482]) : (List (List Int))))), some (.dat (enc (x461 : Int))), some (.dat (enc (s466 : (List Int)))), none] _ _ _ _ from ?_)
      exact s_nil (And.intro rfl (And.intro rfl (And.intro rfl (And.intro rfl True.intro))))
  · refine s_froz (i := 3) (a := (s460 : (List (List Int)))) rfl (show StX _ _ _ [some (.own false (enc (many_458.1 : (List Int)))), some (.dat (enc (letters_456 : Txt))), some (.dat (enc (many_458.2 : Int))), some (.dat (enc (s460 : (List (List Int))))), none, none, none] _ _ _ _ from ?_)
    exact s_retIO hl (p := (many_458.1 : (List Int))) (EvP.cv (m' := (M.bind (M.bind (chk (rngB 0 many_458.2) (.ok (rng 0 many_458.2))) fun z487 => (lcM (fun x486 => (.ok (eqD x486 (0 : Int)))) z487)) fun z488 => (.ok (s460, z488)))) (e_tup2 (v_dat (i := 3) (a := (s460 : (List (List Int)))) rfl) (EvP.froz (e_lc (it_rng1 (v_dat (i := 2) (a := (many_458.2 : Int)) rfl)) (tg_name (i := 4) (vs := [4]) (by simp)) (fun x486 => (EvP.cv (m' := (.ok (eqD x486 (0 : Int)))) (e_op (v_dat (i := 4) (a := (x486 : Int)) rfl) (c_int (i := 0)) o_eq) (by simp only [M.bind_ok])))))) (by simp only [M.bind_ok])) rfl (le_none rfl)

abbrev s_law : Stmt := top 30
abbrev N_law : List Str := ["script", "pool", "letters", "machine", "kept", "small", "turn", "word", "row", "sign", "told", "due", "k", "state", "which"]
theorem sc_law : FnScope N_law ["script"] (defScope s_law) := ⟨rfl, rfl, rfl, by decide +kernel, rfl, by decide +kernel, by decide +kernel⟩
theorem ok_law {K : Kx} {mg : Str → Option Value} {base : Heap} {f : Addr} {fd : FuncData} (F : Fun K.fr "law" "law" s_law f fd) (BT : Bt mg) (GL : Glo mg) (XC : Xcs K.fr mg) (h__law_stream : Fk K mg base "_law_stream" 2 ["script"] (spM K mg .new (Rm1 _law_stream))) (h__law_letters : Fk K mg base "_law_letters" 2 ["pool", "most"] (spIO K (RmIO1 _law_letters))) (h__law_machine : Fk K mg base "_law_machine" 2 ["pool", "letters", "most"] (spIO K (RmIO2 _law_machine))) (h__law_pick : Fk K mg base "_law_pick" 1 ["pool", "many"] (spIO K (RmIO1 _law_pick))) (h__law_lively : Fk K mg base "_law_lively" 2 ["pool", "letters"] (spIO K (RmIO1 _law_lively))) (h__law_least : Fk K mg base "_law_least" 1 ["letters", "machine"] (spM K mg .dat (Rm2 _law_least))) (h_turning_of : Fk K mg base "turning_of" 3 ["letters", "machine", "word"] (spM K mg .new (Rm3 turning_of))) (h__law_members : Fk K mg base "_law_members" 1 ["letters", "table"] (spM K mg .dat (Rm2 _law_members))) (h__law_told : Fk K mg base "_law_told" 5 ["letters", "machine", "which"] (spM K mg .deep (Rm3 _law_told))) :
    LawOk K.P K.w K.fr mg base (L2.CX K.P K.w) f fd ["script"] (spM K mg .dat (Rm1 law)) := by
  obtain ⟨f__law_stream, fd__law_stream, G__law_stream, b__law_stream, m__law_stream, k__law_stream⟩ := h__law_stream.ex
  obtain ⟨f__law_letters, fd__law_letters, G__law_letters, b__law_letters, m__law_letters, k__law_letters⟩ := h__law_letters.ex
  obtain ⟨f__law_machine, fd__law_machine, G__law_machine, b__law_machine, m__law_machine, k__law_machine⟩ := h__law_machine.ex
  obtain ⟨f__law_pick, fd__law_pick, G__law_pick, b__law_pick, m__law_pick, k__law_pick⟩ := h__law_pick.ex
  obtain ⟨f__law_lively, fd__law_lively, G__law_lively, b__law_lively, m__law_lively, k__law_lively⟩ := h__law_lively.ex
  obtain ⟨f__law_least, fd__law_least, G__law_least, b__law_least, m__law_least, k__law_least⟩ := h__law_least.ex
  obtain ⟨f_turning_of, fd_turning_of, G_turning_of, b_turning_of, m_turning_of, k_turning_of⟩ := h_turning_of.ex
  obtain ⟨f__law_members, fd__law_members, G__law_members, b__law_members, m__law_members, k__law_members⟩ := h__law_members.ex
  obtain ⟨f__law_told, fd__law_told, G__law_told, b__law_told, m__law_told, k__law_told⟩ := h__law_told.ex
  obtain ⟨t_MOST_THINGS, gm_MOST_THINGS⟩ := GL.g_MOST_THINGS
  refine fn_law (N := N_law) (R := Bool) none (fun r h => nomatch h) F sc_law (by rintro ds m ⟨script_491, rfl, _⟩; rfl) (by decide) (fun cdv s H E c ds m hm hK hg hW => ?_)
  obtain ⟨script_491, rfl, rfl⟩ := hm
  have hr := Room.deeper (k := 59) room60 (envOfC "law" (defScope s_law) s.heap.objs.size f cdv)
  have hgu : (callerA.deeper (envOfC "law" (defScope s_law) s.heap.objs.size f cdv)).guards = some [] := rfl
  obtain ⟨cK, cmg, cF, cH, cG, cW⟩ := c
  cases (show K = cK from hK.symm); cases (show mg = cmg from hg.symm); cases hW
  have hu := hu_of hr
  have hu64 := hr.units
  have hu9 := Nat.lt_of_le_of_lt (Nat.add_le_add_left (by decide : 9 ≤ 64) _) hu64
  have hu16 := Nat.lt_of_le_of_lt (Nat.add_le_add_left (by decide : 16 ≤ 64) _) hu64
  have tk : Takes (cxOf (L2.CX K.P K.w) K.P K.w K.fr mg base N_law "law" (defScope s_law) f cdv callerA [] s H E) (fun cls d _ H => E cls d H) := takes_of rfl rfl rfl rfl
  refine ⟨_, law_b script_491, (pss_cons (ps_set (i := 1) sc_law.nd rfl (by first | exact Or.inl rfl | exact Or.inr rfl) (pe_callS G__law_stream (hr.mono (by decide)) rfl m__law_stream k__law_stream b__law_stream (fun σ => passAt tk σ) (pa_cons (pv 0) pa_nil))) (pss_cons (ps_set (i := 2) sc_law.nd rfl (by first | exact Or.inl rfl | exact Or.inr rfl) (pe_callS G__law_letters (hr.mono (by decide)) rfl m__law_letters k__law_letters b__law_letters (fun σ => passAt tk σ) (pa_cons (pv 1) (pa_cons pe_int pa_nil)))) (pss_cons (ps_set (i := 3) sc_law.nd rfl (by first | exact Or.inl rfl | exact Or.inr rfl) (pe_callS G__law_machine (hr.mono (by decide)) rfl m__law_machine k__law_machine b__law_machine (fun σ => passAt tk σ) (pa_cons (pv 1) (pa_cons (pv 2) (pa_cons pe_int pa_nil))))) (pss_cons (ps_if (pt_cmpR op_eq (pe_callS G__law_pick (hr.mono (by decide)) rfl m__law_pick k__law_pick b__law_pick (fun σ => passAt tk σ) (pa_cons (pv 1) (pa_cons pe_int pa_nil))) pe_int (nomark _)) (pss_cons (ps_set (i := 3) sc_law.nd rfl (by first | exact Or.inl rfl | exact Or.inr rfl) (pe_callS G__law_lively (hr.mono (by decide)) rfl m__law_lively k__law_lively b__law_lively (fun σ => passAt tk σ) (pa_cons (pv 1) (pa_cons (pv 2) pa_nil)))) pss_nil) pss_nil) (pss_cons (ps_set (i := 4) sc_law.nd rfl (by first | exact Or.inl rfl | exact Or.inr rfl) (pe_callB (call_repr hgu hu64) rfl BT.b_repr (by decide +kernel) (pa_cons (pv 3) pa_nil))) (pss_cons (ps_set (i := 5) sc_law.nd rfl (by first | exact Or.inl rfl | exact Or.inr rfl) (pe_callS G__law_least (hr.mono (by decide)) rfl m__law_least k__law_least b__law_least (fun σ => passAt tk σ) (pa_cons (pv 2) (pa_cons (pv 3) pa_nil)))) (pss_cons (ps_for (passes_of rfl) rfl (pi_range1 rfl BT.b_range (pa_cons pe_int pa_nil)) (pg_name (i := 6) sc_law.nd rfl (by first | exact Or.inl rfl | exact Or.inr rfl)) (pss_cons (ps_set (i := 7) sc_law.nd rfl (by first | exact Or.inl rfl | exact Or.inr rfl) (pe_join pe_str (pe_lc (own := [("k", 12)]) rfl sc_law.nd (pi_range1 rfl BT.b_range (pa_cons (pe_callS G__law_pick (hr.mono (by decide)) rfl m__law_pick k__law_pick b__law_pick (fun σ => passAt tk σ) (pa_cons (pv 1) (pa_cons (pe_ix (ix_listK K.fr) (pe_lst (pa_cons pe_int (pa_cons pe_int (pa_cons pe_int pa_nil)))) (pv 6) (fun _ _ => rfl)) pa_nil))) pa_nil)) (blkOk_by (own := [("k", 12)]) (N := N_law) (sc := defScope s_law) (by decide +kernel)) (fun _ _ _ _ _ => (pg_name (i := 12) sc_law.nd rfl (by first | exact Or.inl rfl | exact Or.inr rfl))) (fun _ _ _ _ _ => pts_nil) (fun _ _ _ _ _ => (pe_ix ix_str (pv 2) (pe_callS G__law_pick (hr.mono (by decide)) rfl m__law_pick k__law_pick b__law_pick (fun σ => passAt takes_none5 σ) (pa_cons (pv 1) (pa_cons (pe_callB call_lenSK rfl BT.b_len PySem.boot_len (pa_cons (pv 2) pa_nil)) pa_nil))) (fun _ _ => rfl)))))) (pss_cons (ps_set (i := 8) sc_law.nd rfl (by first | exact Or.inl rfl | exact Or.inr rfl) (pe_listRg rfl rfl BT.b_list (prg_1 rfl BT.b_range (pe_callB (call_lenK K.fr) rfl BT.b_len PySem.boot_len (pa_cons (pe_ix (ix_tupK K.fr) (pv 5) pe_int (fun _ _ => rfl)) pa_nil))))) (pss_cons (ps_for (passes_of rfl) rfl (pi_str (pv 7)) (pg_name (i := 9) sc_law.nd rfl (by first | exact Or.inl rfl | exact Or.inr rfl)) (pss_cons (ps_setLc (i := 8) (own := [("state", 13)]) rfl sc_law.nd rfl rfl (sw_true rfl rfl rfl (by decide +kernel)) (pi_listK K.fr (pv 8)) (blkOk_by (own := [("state", 13)]) (N := N_law) (sc := defScope s_law) (by decide +kernel)) (fun _ _ _ _ _ => (pg_name (i := 13) sc_law.nd rfl (by first | exact Or.inl rfl | exact Or.inr rfl))) (fun _ _ _ _ _ => pts_nil) (fun _ _ _ _ _ => (pe_ix (ix_listK K.fr) (pe_ix (ix_listK K.fr) (pe_ix (ix_tupK K.fr) (pv 5) pe_int (fun _ _ => rfl)) (pv 13) (fun _ _ => rfl)) (pe_bmK K.fr PySem.F.plainAttrs_str PySem.F.slot_str_index PySem.F.type_str_index mt_sindexK (pv 2) (pa_cons (pv 9) pa_nil)) (fun _ _ => rfl)))) pss_nil)) (pss_cons (ps_set (i := 10) sc_law.nd rfl (by first | exact Or.inl rfl | exact Or.inr rfl) (pe_callS G_turning_of (hr.mono (by decide)) rfl m_turning_of k_turning_of b_turning_of (fun σ => passAt tk σ) (pa_cons (pv 2) (pa_cons (pv 3) (pa_cons (pv 7) pa_nil))))) (pss_cons (ps_if (PW.pt (pw_or (pt_not (pt_val (pe_callB RZ.call_isTy rfl BT.b_isinstance (by decide +kernel) (pa_cons (pv 10) (pa_cons (pe_bltn (v := .ty "list") (u := .type "list") rfl BT.b_list (by decide +kernel) rfl) pa_nil))))) (pw_or1 (pt_cmpR op_ne (pe_callB (call_repr hgu hu64) rfl BT.b_repr (by decide +kernel) (pa_cons (pv 10) pa_nil)) (pe_callB (call_repr hgu hu64) rfl BT.b_repr (by decide +kernel) (pa_cons (pv 8) pa_nil)) (nomark _))))) (pss_cons (ps_ret pe_bl) pss_nil) pss_nil) pss_nil)))))) (pss_cons (ps_set (i := 11) sc_law.nd rfl (by first | exact Or.inl rfl | exact Or.inr rfl) (pe_callS G__law_members (hr.mono (by decide)) rfl m__law_members k__law_members b__law_members (fun σ => passAt tk σ) (pa_cons (pv 2) (pa_cons (pe_ix (ix_tupK K.fr) (pv 5) pe_int (fun _ _ => rfl)) pa_nil)))) (pss_cons (ps_if (pt_cmpR op_isN (pv 11) pe_non (nomark _)) (pss_cons (ps_ret (pe_and (pe_cmpR (op_eqD hr.units) (pe_lc (own := [("which", 14)]) rfl sc_law.nd (pi_range1 rfl BT.b_range (pa_cons pe_int pa_nil)) (blkOk_by (own := [("which", 14)]) (N := N_law) (sc := defScope s_law) (by decide +kernel)) (fun _ _ _ _ _ => (pg_name (i := 14) sc_law.nd rfl (by first | exact Or.inl rfl | exact Or.inr rfl))) (fun _ _ _ _ _ => pts_nil) (fun _ _ _ _ _ => (pe_callS G__law_told (hr.mono (by decide)) rfl m__law_told k__law_told b__law_told (fun σ => passAt takes_none5 σ) (pa_cons (pv 2) (pa_cons (pv 3) (pa_cons (pv 14) pa_nil)))))) (pe_op op_rep (pe_lst (pa_cons pe_str pa_nil)) pe_int) (nomark _)) (pe_one (pe_cmpR op_eq (pe_callB (call_repr hgu hu64) rfl BT.b_repr (by decide +kernel) (pa_cons (pv 3) pa_nil)) (pv 4) (nomark _))))) pss_nil) pss_nil) (pss_cons (ps_for (passes_of rfl) rfl (pi_range1 rfl BT.b_range (pa_cons pe_int pa_nil)) (pg_name (i := 6) sc_law.nd rfl (by first | exact Or.inl rfl | exact Or.inr rfl)) (pss_cons (ps_set (i := 10) sc_law.nd rfl (by first | exact Or.inl rfl | exact Or.inr rfl) (pe_callS G__law_told (hr.mono (by decide)) rfl m__law_told k__law_told b__law_told (fun σ => passAt tk σ) (pa_cons (pv 2) (pa_cons (pv 3) (pa_cons pe_int pa_nil))))) (pss_cons (ps_if (PW.pt (pw_or (pt_not (pt_val (pe_callB RZ.call_isTy rfl BT.b_isinstance (by decide +kernel) (pa_cons (pv 10) (pa_cons (pe_bltn (v := .ty "list") (u := .type "list") rfl BT.b_list (by decide +kernel) rfl) pa_nil))))) (pw_or1 (pt_cmpR op_ne (pe_callB (call_repr hgu hu64) rfl BT.b_repr (by decide +kernel) (pa_cons (pv 10) pa_nil)) (pe_callB (call_repr hgu hu64) rfl BT.b_repr (by decide +kernel) (pa_cons (pv 11) pa_nil)) (nomark _))))) (pss_cons (ps_ret pe_bl) pss_nil) pss_nil) (pss_cons (ps_expr (pe_bmK K.fr PySem.F.plainAttrs_list PySem.F.slot_list_append PySem.F.type_list_append mt_append (pe_ix (ix_listK K.fr) (pv 10) pe_int (fun _ _ => rfl)) (pa_cons pe_int pa_nil))) (pss_cons (ps_expr (pe_bm0 PySem.F.plainAttrs_list PySem.F.slot_list_clear PySem.F.type_list_clear mt_clear (pv 10))) pss_nil))))) (pss_cons (ps_ret (pe_cmpR op_eq (pe_callB (call_repr hgu hu64) rfl BT.b_repr (by decide +kernel) (pa_cons (pv 3) pa_nil)) (pv 4) (nomark _))) pss_nil))))))))))), rfl, (show StX _ _ _ [some (.dat (enc (script_491 : Scr))), none, none, none, none, none, none, none, none, none, none, none, none, none, none] _ _ _ _ from ?_)⟩
  unfold law_b
  refine s_own (i := 1) (EvP.cv (m' := (_law_stream script_491)) (e_call1 (f := _law_stream) (v_dat (i := 0) (a := (script_491 : Scr)) rfl)) (by simp only [M.bind_ok])) (le_none rfl) fun pool_492 => (show StX _ _ _ [some (.dat (enc (script_491 : Scr))), some (.own true (enc (pool_492 : (List Int)))), none, none, none, none, none, none, none, none, none, none, none, none, none] _ _ _ _ from ?_)
  refine sx_set (i := 2) (x_cv (m' := (noX (_law_letters pool_492 (3 : Int)))) (x_call1 (s := (pool_492 : (List Int))) (i := 1) (post := (fun s => [some (.dat (enc (script_491 : Scr))), some (.own true (enc (s : (List Int)))), none, none, none, none, none, none, none, none, none, none, none, none, none])) (f := _law_letters) rfl (c_int (i := 3)) (le_none rfl) (fun _ => rfl)) (by simp only [M.bind_ok])) fun letters_493 => (show StX _ _ _ [some (.dat (enc (script_491 : Scr))), some (.own true (enc (letters_493.1 : (List Int)))), some (.dat (enc (letters_493.2 : Txt))), none, none, none, none, none, none, none, none, none, none, none, none] _ _ _ _ from ?_)
  refine sx_set (i := 3) (x_cv (m' := (noX (_law_machine letters_493.1 letters_493.2 (5 : Int)))) (x_call2 (s := (letters_493.1 : (List Int))) (i := 1) (post := (fun s => [some (.dat (enc (script_491 : Scr))), some (.own true (enc (s : (List Int)))), some (.dat (enc (letters_493.2 : Txt))), none, none, none, none, none, none, none, none, none, none, none, none])) (f := _law_machine) rfl (v_dat (i := 2) (a := (letters_493.2 : Txt)) rfl) (c_int (i := 5)) (le_none rfl) (fun _ => rfl)) (by simp only [M.bind_ok])) fun machine_494 => (show StX _ _ _ [some (.dat (enc (script_491 : Scr))), some (.own true (enc (machine_494.1 : (List Int)))), some (.dat (enc (letters_493.2 : Txt))), some (.dat (enc (machine_494.2 : ((List (List Int)) × (List Bool))))), none, none, none, none, none, none, none, none, none, none, none] _ _ _ _ from ?_)
  refine sx_ifM (N' := ((List Int) × ((List (List Int)) × (List Bool)))) (pn' := (fun j499 => [some (.dat (enc (script_491 : Scr))), some (.own true (enc (j499.1 : (List Int)))), some (.dat (enc (letters_493.2 : Txt))), some (.dat (enc (j499.2 : ((List (List Int)) × (List Bool))))), none, none, none, none, none, none, none, none, none, none, none])) (xt_cv (m' := (M.bind (noX (_law_pick machine_494.1 (12 : Int))) fun s496 => (.ok (s496.1, (eqD s496.2 (11 : Int)))))) (xt_val (x_op (x_call1 (s := (machine_494.1 : (List Int))) (i := 1) (post := (fun s => [some (.dat (enc (script_491 : Scr))), some (.own true (enc (s : (List Int)))), some (.dat (enc (letters_493.2 : Txt))), some (.dat (enc (machine_494.2 : ((List (List Int)) × (List Bool))))), none, none, none, none, none, none, none, none, none, none, none])) (f := _law_pick) rfl (c_int (i := 12)) (le_none rfl) (fun _ => rfl)) (fun q495 => (x_pure (post := (fun s => [some (.dat (enc (script_491 : Scr))), some (.own true (enc (s : (List Int)))), some (.dat (enc (letters_493.2 : Txt))), some (.dat (enc (machine_494.2 : ((List (List Int)) × (List Bool))))), none, none, none, none, none, none, none, none, none, none, none])) q495 (c_int (i := 11)) rfl (le_none rfl))) o_eq (fun _ => (le_none rfl)))) (by simp only [M.bind_ok])) (fun t497 => (show StX _ _ _ [some (.dat (enc (script_491 : Scr))), some (.own true (enc (t497.1 : (List Int)))), some (.dat (enc (letters_493.2 : Txt))), some (.dat (enc (machine_494.2 : ((List (List Int)) × (List Bool))))), none, none, none, none, none, none, none, none, none, none, none] _ _ _ _ from ?_)) (fun t497 => (show StX _ _ _ [some (.dat (enc (script_491 : Scr))), some (.own true (enc (t497.1 : (List Int)))), some (.dat (enc (letters_493.2 : Txt))), some (.dat (enc (machine_494.2 : ((List (List Int)) × (List Bool))))), none, none, none, none, none, none, none, none, none, none, none] _ _ _ _ from ?_)) (fun j499 => (show StX _ _ _ [some (.dat (enc (script_491 : Scr))), some (.own true (enc (j499.1 : (List Int)))), some (.dat (enc (letters_493.2 : Txt))), some (.dat (enc (j499.2 : ((List (List Int)) × (List Bool))))), none, none, none, none, none, none, none, none, none, none, none] _ _ _ _ from ?_))
  · refine sx_set (i := 3) (x_cv (m' := (noX (_law_lively t497.1 letters_493.2))) (x_call1 (s := (t497.1 : (List Int))) (i := 1) (post := (fun s => [some (.dat (enc (script_491 : Scr))), some (.own true (enc (s : (List Int)))), some (.dat (enc (letters_493.2 : Txt))), some (.dat (enc (machine_494.2 : ((List (List Int)) × (List Bool))))), none, none, none, none, none, none, none, none, none, none, none])) (f := _law_lively) rfl (v_dat (i := 2) (a := (letters_493.2 : Txt)) rfl) (le_none rfl) (fun _ => rfl)) (by simp only [M.bind_ok])) fun machine_500 => (show StX _ _ _ [some (.dat (enc (script_491 : Scr))), some (.own true (enc (machine_500.1 : (List Int)))), some (.dat (enc (letters_493.2 : Txt))), some (.dat (enc (machine_500.2 : ((List (List Int)) × (List Bool))))), none, none, none, none, none, none, none, none, none, none, none] _ _ _ _ from ?_)
    exact s_nil (And.intro rfl (And.intro rfl (And.intro rfl (And.intro rfl True.intro))))
  · exact s_nil (And.intro rfl (And.intro rfl (And.intro rfl (And.intro rfl True.intro))))
  · refine s_set (i := 4) (EvP.cv (m' := (reprM j499.2)) (e_cb1 (v_dat (i := 3) (a := (j499.2 : ((List (List Int)) × (List Bool)))) rfl) o_repr) (by simp only [M.bind_ok])) (le_none rfl) fun kept_501 => (show StX _ _ _ [some (.dat (enc (script_491 : Scr))), some (.own true (enc (j499.1 : (List Int)))), some (.dat (enc (letters_493.2 : Txt))), some (.dat (enc (j499.2 : ((List (List Int)) × (List Bool))))), some (.dat (enc (kept_501 : Txt))), none, none, none, none, none, none, none, none, none, none] _ _ _ _ from ?_)
    refine s_set (i := 5) (EvP.cv (m' := (_law_least letters_493.2 j499.2)) (e_call2 (f := _law_least) (v_dat (i := 2) (a := (letters_493.2 : Txt)) rfl) (v_dat (i := 3) (a := (j499.2 : ((List (List Int)) × (List Bool)))) rfl)) (by simp only [M.bind_ok])) (le_none rfl) fun small_502 => (show StX _ _ _ [some (.dat (enc (script_491 : Scr))), some (.own true (enc (j499.1 : (List Int)))), some (.dat (enc (letters_493.2 : Txt))), some (.dat (enc (j499.2 : ((List (List Int)) × (List Bool))))), some (.dat (enc (kept_501 : Txt))), some (.dat (enc (small_502 : ((List (List Int)) × (List Bool))))), none, none, none, none, none, none, none, none, none] _ _ _ _ from ?_)
    refine s_for (vs := [6]) (ps := (fun s503 => [some (.dat (enc (script_491 : Scr))), some (.own true (enc (s503 : (List Int)))), some (.dat (enc (letters_493.2 : Txt))), some (.dat (enc (j499.2 : ((List (List Int)) × (List Bool))))), some (.dat (enc (kept_501 : Txt))), some (.dat (enc (small_502 : ((List (List Int)) × (List Bool))))), none, none, none, none, none, none, none, none, none])) (EvIt.cv (m' := (chk (rngB 0 (3 : Int)) (.ok (rng 0 (3 : Int))))) (it_rng1 (c_int (i := 3))) (by simp only [M.bind_ok])) (tg_name (i := 6) (vs := [6]) (by simp)) (le_none rfl) (And.intro rfl (And.intro rfl (And.intro rfl (And.intro rfl (And.intro rfl (And.intro rfl True.intro)))))) (fun F0' s503 x504 => (show StX _ _ _ [some (.dat (enc (script_491 : Scr))), some (.own true (enc (s503 : (List Int)))), some (.dat (enc (letters_493.2 : Txt))), some (.dat (enc (j499.2 : ((List (List Int)) × (List Bool))))), some (.dat (enc (kept_501 : Txt))), some (.dat (enc (small_502 : ((List (List Int)) × (List Bool))))), some (.dat (enc (x504 : Int))), none, none, none, none, none, none, none, none] _ _ _ _ from ?_)) (fun s503 => (show StX _ _ _ [some (.dat (enc (script_491 : Scr))), some (.own true (enc (s503 : (List Int)))), some (.dat (enc (letters_493.2 : Txt))), some (.dat (enc (j499.2 : ((List (List Int)) × (List Bool))))), some (.dat (enc (kept_501 : Txt))), some (.dat (enc (small_502 : ((List (List Int)) × (List Bool))))), none, none, none, none, none, none, none, none, none] _ _ _ _ from ?_))
    · refine sx_set (i := 7) (x_cv (m' := (M.bind (M.bind (M.bind (M.bind (M.bind (chk (decide ((((3 : Int) :: ((8 : Int) :: ((41 : Int) :: ([] : (List Int)))))).length < LIM)) (.ok ((3 : Int) :: ((8 : Int) :: ((41 : Int) :: ([] : (List Int))))))) fun z538 => (getL z538 x504)) fun z539 => (noX (_law_pick s503 z539))) fun s540 => (chk (rngB 0 s540.2) (.ok (s540.1, rng 0 s540.2)))) fun s553 => (lcX (fun s547 x541 => (M.bind (M.bind (chk (decide ((letters_493.2).cs.length < LIM)) (.ok ((letters_493.2).cs.length : Int))) fun z550 => (noX (_law_pick s547 z550))) fun s551 => (M.bind (getT letters_493.2 s551.2) fun a552 => .ok (s551.1, a552)))) s553.2 s553.1)) fun s554 => (M.bind (joinM (Txt.mk []) s554.2) fun a555 => .ok (s554.1, a555)))) (x_join (x_pure (post := (fun s => [some (.dat (enc (script_491 : Scr))), some (.own true (enc (s : (List Int)))), some (.dat (enc (letters_493.2 : Txt))), some (.dat (enc (j499.2 : ((List (List Int)) × (List Bool))))), some (.dat (enc (kept_501 : Txt))), some (.dat (enc (small_502 : ((List (List Int)) × (List Bool))))), some (.dat (enc (x504 : Int))), none, none, none, none, none, none, none, none])) s503 (c_txt (cs := []) (by decide +kernel)) rfl (le_none rfl)) (fun q521 => (x_lc (vs := [12]) (ps := (fun s => [some (.dat (enc (script_491 : Scr))), some (.own true (enc (s : (List Int)))), some (.dat (enc (letters_493.2 : Txt))), some (.dat (enc (j499.2 : ((List (List Int)) × (List Bool))))), some (.dat (enc (kept_501 : Txt))), some (.dat (enc (small_502 : ((List (List Int)) × (List Bool))))), some (.dat (enc (x504 : Int))), none, none, none, none, none, none, none, none])) (xi := noneC 15) (xi_rng1 (x_call1 (s := (q521 : (List Int))) (i := 1) (post := (fun s => [some (.dat (enc (script_491 : Scr))), some (.own true (enc (s : (List Int)))), some (.dat (enc (letters_493.2 : Txt))), some (.dat (enc (j499.2 : ((List (List Int)) × (List Bool))))), some (.dat (enc (kept_501 : Txt))), some (.dat (enc (small_502 : ((List (List Int)) × (List Bool))))), some (.dat (enc (x504 : Int))), none, none, none, none, none, none, none, none])) (f := _law_pick) rfl (e_op (EvP.look (e_lst (al_cons (c_int (i := 3)) (al_cons (c_int (i := 8)) (al_cons (c_int (i := 41)) (al_nil (α := Int))))))) (v_dat (i := 6) (a := (x504 : Int)) rfl) o_ixL) (le_none rfl) (fun _ => rfl))) (fun c' hK => (tg_name (i := 12) (vs := [12]) (by simp))) (fun F0 G s531 x525 => x_cv (m' := (M.bind (M.bind (chk (decide ((letters_493.2).cs.length < LIM)) (.ok ((letters_493.2).cs.length : Int))) fun z534 => (noX (_law_pick s531 z534))) fun s535 => (M.bind (getT letters_493.2 s535.2) fun a536 => .ok (s535.1, a536)))) (x_op (x_pure (post := (fun s => [some (.dat (enc (script_491 : Scr))), some (.own true (enc (s : (List Int)))), some (.dat (enc (letters_493.2 : Txt))), some (.dat (enc (j499.2 : ((List (List Int)) × (List Bool))))), some (.dat (enc (kept_501 : Txt))), some (.dat (enc (small_502 : ((List (List Int)) × (List Bool))))), some (.dat (enc (x504 : Int))), none, none, none, none, none, some (.dat (enc (x525 : Int))), none, none])) s531 (v_dat (i := 2) (a := (letters_493.2 : Txt)) rfl) rfl (le_none rfl)) (fun q => (x_call1 (s := (q : (List Int))) (i := 1) (post := (fun s => [some (.dat (enc (script_491 : Scr))), some (.own true (enc (s : (List Int)))), some (.dat (enc (letters_493.2 : Txt))), some (.dat (enc (j499.2 : ((List (List Int)) × (List Bool))))), some (.dat (enc (kept_501 : Txt))), some (.dat (enc (small_502 : ((List (List Int)) × (List Bool))))), some (.dat (enc (x504 : Int))), none, none, none, none, none, some (.dat (enc (x525 : Int))), none, none])) (f := _law_pick) rfl (e_cb1 (v_dat (i := 2) (a := (letters_493.2 : Txt)) rfl) o_lenS) (le_none rfl) (fun _ => rfl))) o_ixS (fun _ => (le_none rfl))) (by simp only [M.bind_ok])) (fun s => rfl) (fun s x => (And.intro rfl (And.intro rfl (And.intro rfl (And.intro rfl (And.intro rfl (And.intro rfl (And.intro rfl True.intro)))))))))) (fun _ => (le_none rfl))) (by simp only [M.bind_ok])) fun word_556 => (show StX _ _ _ [some (.dat (enc (script_491 : Scr))), some (.own true (enc (word_556.1 : (List Int)))), some (.dat (enc (letters_493.2 : Txt))), some (.dat (enc (j499.2 : ((List (List Int)) × (List Bool))))), some (.dat (enc (kept_501 : Txt))), some (.dat (enc (small_502 : ((List (List Int)) × (List Bool))))), some (.dat (enc (x504 : Int))), some (.dat (enc (word_556.2 : Txt))), none, none, none, none, none, none, none] _ _ _ _ from ?_)
      refine s_set (i := 8) (EvP.cv (m' := (chk (rngB 0 (((small_502).1).length : Int)) (.ok (rng 0 (((small_502).1).length : Int))))) (EvP.froz (e_listRg (e_cb1 (EvP.lookL (e_fst (v_dat (i := 5) (a := (small_502 : ((List (List Int)) × (List Bool)))) rfl))) (o_len rfl)))) (by simp only [M.bind_ok])) (le_none rfl) fun row_557 => (show StX _ _ _ [some (.dat (enc (script_491 : Scr))), some (.own true (enc (word_556.1 : (List Int)))), some (.dat (enc (letters_493.2 : Txt))), some (.dat (enc (j499.2 : ((List (List Int)) × (List Bool))))), some (.dat (enc (kept_501 : Txt))), some (.dat (enc (small_502 : ((List (List Int)) × (List Bool))))), some (.dat (enc (x504 : Int))), some (.dat (enc (word_556.2 : Txt))), some (.dat (enc (row_557 : (List Int)))), none, none, none, none, none, none] _ _ _ _ from ?_)
      refine s_for (vs := [9]) (ps := (fun s558 => [some (.dat (enc (script_491 : Scr))), some (.own true (enc (word_556.1 : (List Int)))), some (.dat (enc (letters_493.2 : Txt))), some (.dat (enc (j499.2 : ((List (List Int)) × (List Bool))))), some (.dat (enc (kept_501 : Txt))), some (.dat (enc (small_502 : ((List (List Int)) × (List Bool))))), some (.dat (enc (x504 : Int))), some (.dat (enc (word_556.2 : Txt))), some (.dat (enc (s558 : (List Int)))), none, none, none, none, none, none])) (EvIt.cv (m' := (chk (decide ((word_556.2).cs.length < LIM)) (.ok (signs word_556.2)))) (it_str (v_dat (i := 7) (a := (word_556.2 : Txt)) rfl)) (by simp only [M.bind_ok])) (tg_name (i := 9) (vs := [9]) (by simp)) (le_none rfl) (And.intro rfl (And.intro rfl (And.intro rfl (And.intro rfl (And.intro rfl (And.intro rfl (And.intro rfl (And.intro rfl (And.intro rfl True.intro))))))))) (fun F0' s558 x559 => (show StX _ _ _ [some (.dat (enc (script_491 : Scr))), some (.own true (enc (word_556.1 : (List Int)))), some (.dat (enc (letters_493.2 : Txt))), some (.dat (enc (j499.2 : ((List (List Int)) × (List Bool))))), some (.dat (enc (kept_501 : Txt))), some (.dat (enc (small_502 : ((List (List Int)) × (List Bool))))), some (.dat (enc (x504 : Int))), some (.dat (enc (word_556.2 : Txt))), some (.dat (enc (s558 : (List Int)))), some (.dat (enc (x559 : Txt))), none, none, none, none, none] _ _ _ _ from ?_)) (fun s558 => (show StX _ _ _ [some (.dat (enc (script_491 : Scr))), some (.own true (enc (word_556.1 : (List Int)))), some (.dat (enc (letters_493.2 : Txt))), some (.dat (enc (j499.2 : ((List (List Int)) × (List Bool))))), some (.dat (enc (kept_501 : Txt))), some (.dat (enc (small_502 : ((List (List Int)) × (List Bool))))), some (.dat (enc (x504 : Int))), some (.dat (enc (word_556.2 : Txt))), some (.dat (enc (s558 : (List Int)))), none, none, none, none, none, none] _ _ _ _ from ?_))
      · refine s_set (i := 8) (EvP.cv (m' := (lcM (fun x560 => (M.bind (getL (small_502).1 x560) fun z561 => (M.bind (idxT letters_493.2 x559) fun z562 => (getL z561 z562)))) s558)) (EvP.froz (e_lc (it_list (v_dat (i := 8) (a := (s558 : (List Int))) rfl)) (tg_name (i := 13) (vs := [13]) (by simp)) (fun x560 => (EvP.cv (m' := (M.bind (getL (small_502).1 x560) fun z561 => (M.bind (idxT letters_493.2 x559) fun z562 => (getL z561 z562)))) (e_op (EvP.lookL (e_op (EvP.lookL (e_fst (v_dat (i := 5) (a := (small_502 : ((List (List Int)) × (List Bool)))) rfl))) (v_dat (i := 13) (a := (x560 : Int)) rfl) o_ixL)) (e_bm (v_dat (i := 2) (a := (letters_493.2 : Txt)) rfl) (v_dat (i := 9) (a := (x559 : Txt)) rfl) ty_str o_sindex) o_ixL) (by simp only [M.bind_ok]))))) (by simp only [M.bind_ok])) (le_none rfl) fun row_563 => (show StX _ _ _ [some (.dat (enc (script_491 : Scr))), some (.own true (enc (word_556.1 : (List Int)))), some (.dat (enc (letters_493.2 : Txt))), some (.dat (enc (j499.2 : ((List (List Int)) × (List Bool))))), some (.dat (enc (kept_501 : Txt))), some (.dat (enc (small_502 : ((List (List Int)) × (List Bool))))), some (.dat (enc (x504 : Int))), some (.dat (enc (word_556.2 : Txt))), some (.dat (enc (row_563 : (List Int)))), some (.dat (enc (x559 : Txt))), none, none, none, none, none] _ _ _ _ from ?_)
        exact s_nil (And.intro rfl (And.intro rfl (And.intro rfl (And.intro rfl (And.intro rfl (And.intro rfl (And.intro rfl (And.intro rfl (And.intro rfl True.intro)))))))))
      · refine s_own (i := 10) (EvP.cv (m' := (turning_of letters_493.2 j499.2 word_556.2)) (e_call3 (f := turning_of) (v_dat (i := 2) (a := (letters_493.2 : Txt)) rfl) (v_dat (i := 3) (a := (j499.2 : ((List (List Int)) × (List Bool)))) rfl) (v_dat (i := 7) (a := (word_556.2 : Txt)) rfl)) (by simp only [M.bind_ok])) (le_none rfl) fun told_564 => (show StX _ _ _ [some (.dat (enc (script_491 : Scr))), some (.own true (enc (word_556.1 : (List Int)))), some (.dat (enc (letters_493.2 : Txt))), some (.dat (enc (j499.2 : ((List (List Int)) × (List Bool))))), some (.dat (enc (kept_501 : Txt))), some (.dat (enc (small_502 : ((List (List Int)) × (List Bool))))), some (.dat (enc (x504 : Int))), some (.dat (enc (word_556.2 : Txt))), some (.dat (enc (s558 : (List Int)))), none, some (.own true (enc (told_564 : (List Int)))), none, none, none, none] _ _ _ _ from ?_)
        refine s_froz (i := 10) (a := (told_564 : (List Int))) rfl (show StX _ _ _ [some (.dat (enc (script_491 : Scr))), some (.own true (enc (word_556.1 : (List Int)))), some (.dat (enc (letters_493.2 : Txt))), some (.dat (enc (j499.2 : ((List (List Int)) × (List Bool))))), some (.dat (enc (kept_501 : Txt))), some (.dat (enc (small_502 : ((List (List Int)) × (List Bool))))), some (.dat (enc (x504 : Int))), some (.dat (enc (word_556.2 : Txt))), some (.dat (enc (s558 : (List Int)))), none, some (.dat (enc (told_564 : (List Int)))), none, none, none, none] _ _ _ _ from ?_)
        refine s_ifD (EvT.cv (m' := (M.bind (M.bind (M.bind (.ok told_564) fun _ => .ok true) fun z565 => (.ok (!z565))) fun z568 => (if z568 = true then .ok true else (M.bind (reprM told_564) fun z566 => (M.bind (reprM s558) fun z567 => (.ok (!eqD z566 z567))))))) (t_or (t_not (t_B (e_isL (v_dat (i := 10) (a := (told_564 : (List Int))) rfl)))) (t_val (e_op (e_cb1 (v_dat (i := 10) (a := (told_564 : (List Int))) rfl) o_repr) (e_cb1 (v_dat (i := 8) (a := (s558 : (List Int))) rfl) o_repr) o_ne))) (by simp only [M.bind_ok])) (le_none rfl) (show StX _ _ _ [some (.dat (enc (script_491 : Scr))), some (.own true (enc (word_556.1 : (List Int)))), some (.dat (enc (letters_493.2 : Txt))), some (.dat (enc (j499.2 : ((List (List Int)) × (List Bool))))), some (.dat (enc (kept_501 : Txt))), some (.dat (enc (small_502 : ((List (List Int)) × (List Bool))))), some (.dat (enc (x504 : Int))), some (.dat (enc (word_556.2 : Txt))), some (.dat (enc (s558 : (List Int)))), none, some (.dat (enc (told_564 : (List Int)))), none, none, none, none] _ _ _ _ from ?_) (show StX _ _ _ [some (.dat (enc (script_491 : Scr))), some (.own true (enc (word_556.1 : (List Int)))), some (.dat (enc (letters_493.2 : Txt))), some (.dat (enc (j499.2 : ((List (List Int)) × (List Bool))))), some (.dat (enc (kept_501 : Txt))), some (.dat (enc (small_502 : ((List (List Int)) × (List Bool))))), some (.dat (enc (x504 : Int))), some (.dat (enc (word_556.2 : Txt))), some (.dat (enc (s558 : (List Int)))), none, some (.dat (enc (told_564 : (List Int)))), none, none, none, none] _ _ _ _ from ?_)
        · exact s_ret (k := .dat) (EvP.cv (m' := (.ok false)) c_bl (by simp only [M.bind_ok])) (fun a => a) (le_none rfl)
        · exact s_nil (And.intro rfl (And.intro rfl (And.intro rfl (And.intro rfl (And.intro rfl (And.intro rfl True.intro))))))
    · refine s_set (i := 11) (EvP.cv (m' := (_law_members letters_493.2 (small_502).1)) (e_call2 (f := _law_members) (v_dat (i := 2) (a := (letters_493.2 : Txt)) rfl) (e_fst (v_dat (i := 5) (a := (small_502 : ((List (List Int)) × (List Bool)))) rfl))) (by simp only [M.bind_ok])) (le_none rfl) fun due_572 => (show StX _ _ _ [some (.dat (enc (script_491 : Scr))), some (.own true (enc (s503 : (List Int)))), some (.dat (enc (letters_493.2 : Txt))), some (.dat (enc (j499.2 : ((List (List Int)) × (List Bool))))), some (.dat (enc (kept_501 : Txt))), some (.dat (enc (small_502 : ((List (List Int)) × (List Bool))))), none, none, none, none, none, some (.dat (enc (due_572 : (Option (List (List Int)))))), none, none, none] _ _ _ _ from ?_)
      refine s_ifD (EvT.cv (m' := (.ok (due_572).isNone)) (t_val (e_op (v_dat (i := 11) (a := (due_572 : (Option (List (List Int))))) rfl) c_non o_isN)) (by simp only [M.bind_ok])) (le_none rfl) (show StX _ _ _ [some (.dat (enc (script_491 : Scr))), some (.own true (enc (s503 : (List Int)))), some (.dat (enc (letters_493.2 : Txt))), some (.dat (enc (j499.2 : ((List (List Int)) × (List Bool))))), some (.dat (enc (kept_501 : Txt))), some (.dat (enc (small_502 : ((List (List Int)) × (List Bool))))), none, none, none, none, none, some (.dat (enc (due_572 : (Option (List (List Int)))))), none, none, none] _ _ _ _ from ?_) (show StX _ _ _ [some (.dat (enc (script_491 : Scr))), some (.own true (enc (s503 : (List Int)))), some (.dat (enc (letters_493.2 : Txt))), some (.dat (enc (j499.2 : ((List (List Int)) × (List Bool))))), some (.dat (enc (kept_501 : Txt))), some (.dat (enc (small_502 : ((List (List Int)) × (List Bool))))), none, none, none, none, none, some (.dat (enc (due_572 : (Option (List (List Int)))))), none, none, none] _ _ _ _ from ?_)
      · exact s_ret (k := .dat) (EvP.cv (m' := (M.bind (M.bind (M.bind (chk (rngB 0 (3 : Int)) (.ok (rng 0 (3 : Int)))) fun z575 => (lcM (fun x574 => (_law_told letters_493.2 j499.2 x574)) z575)) fun z577 => (M.bind (M.bind (chk (decide ((((Txt.mk [109, 97, 110, 121]) :: ([] : (List Txt)))).length < LIM)) (.ok ((Txt.mk [109, 97, 110, 121]) :: ([] : (List Txt))))) fun z576 => (chk (decide ((3 : Int) < 1000000 ∧ -1000000 < (3 : Int) ∧ (z576).length * ((3 : Int)).toNat < LIM)) (.ok (List.replicate ((3 : Int)).toNat z576).flatten))) fun z578 => (eqE z577 z578))) fun z580 => (if z580 = true then (M.bind (reprM j499.2) fun z579 => (.ok (eqD z579 kept_501))) else .ok false))) (e_andV (e_op (EvP.froz (e_lc (it_rng1 (c_int (i := 3))) (tg_name (i := 14) (vs := [14]) (by simp)) (fun x574 => (EvP.cv (m' := (_law_told letters_493.2 j499.2 x574)) (EvP.shallow (e_call3 (f := _law_told) (v_dat (i := 2) (a := (letters_493.2 : Txt)) rfl) (v_dat (i := 3) (a := (j499.2 : ((List (List Int)) × (List Bool)))) rfl) (v_dat (i := 14) (a := (x574 : Int)) rfl))) (by simp only [M.bind_ok]))))) (EvP.froz (e_op (EvP.look (e_lst (al_cons (c_txt (cs := [109, 97, 110, 121]) (by decide +kernel)) (al_nil (α := Txt))))) (c_int (i := 3)) o_rep)) o_eqD) (e_op (e_cb1 (v_dat (i := 3) (a := (j499.2 : ((List (List Int)) × (List Bool)))) rfl) o_repr) (v_dat (i := 4) (a := (kept_501 : Txt)) rfl) o_eq)) (by simp only [M.bind_ok])) (fun a => a) (le_none rfl)
      · refine s_for (vs := [6]) (ps := (fun s582 => [some (.dat (enc (script_491 : Scr))), some (.own true (enc (s503 : (List Int)))), some (.dat (enc (letters_493.2 : Txt))), some (.dat (enc (j499.2 : ((List (List Int)) × (List Bool))))), some (.dat (enc (kept_501 : Txt))), some (.dat (enc (small_502 : ((List (List Int)) × (List Bool))))), none, none, none, none, none, some (.dat (enc (due_572 : (Option (List (List Int)))))), none, none, none])) (EvIt.cv (m' := (chk (rngB 0 (2 : Int)) (.ok (rng 0 (2 : Int))))) (it_rng1 (c_int (i := 2))) (by simp only [M.bind_ok])) (tg_name (i := 6) (vs := [6]) (by simp)) (le_none rfl) (And.intro rfl (And.intro rfl (And.intro rfl (And.intro rfl (And.intro rfl (And.intro rfl (And.intro rfl True.intro))))))) (fun F0' s582 x583 => (show StX _ _ _ [some (.dat (enc (script_491 : Scr))), some (.own true (enc (s503 : (List Int)))), some (.dat (enc (letters_493.2 : Txt))), some (.dat (enc (j499.2 : ((List (List Int)) × (List Bool))))), some (.dat (enc (kept_501 : Txt))), some (.dat (enc (small_502 : ((List (List Int)) × (List Bool))))), some (.dat (enc (x583 : Int))), none, none, none, none, some (.dat (enc (due_572 : (Option (List (List Int)))))), none, none, none] _ _ _ _ from ?_)) (fun s582 => (show StX _ _ _ [some (.dat (enc (script_491 : Scr))), some (.own true (enc (s503 : (List Int)))), some (.dat (enc (letters_493.2 : Txt))), some (.dat (enc (j499.2 : ((List (List Int)) × (List Bool))))), some (.dat (enc (kept_501 : Txt))), some (.dat (enc (small_502 : ((List (List Int)) × (List Bool))))), none, none, none, none, none, some (.dat (enc (due_572 : (Option (List (List Int)))))), none, none, none] _ _ _ _ from ?_))
        · refine s_spoil (i := 10) (f := leftO) leftO_enc (EvP.cv (m' := (_law_told letters_493.2 j499.2 (0 : Int))) (e_call3 (f := _law_told) (v_dat (i := 2) (a := (letters_493.2 : Txt)) rfl) (v_dat (i := 3) (a := (j499.2 : ((List (List Int)) × (List Bool)))) rfl) (c_int (i := 0))) (by simp only [M.bind_ok])) (fun told_584 => (EvT.cv (m' := (M.bind (M.bind (M.bind (unsum told_584) fun _ => .ok true) fun z587 => (.ok (!z587))) fun z593 => (if z593 = true then .ok true else (M.bind (M.bind (unsum told_584) fun z589 => (reprM z589)) fun z591 => (M.bind (M.bind (unopt due_572) fun z590 => (reprM z590)) fun z592 => (.ok (!eqD z591 z592))))))) (t_or (t_not (t_B (e_isL (e_unsum (v_dat (i := 10) (a := (told_584 : ((List (List Int)) ⊕ Txt))) rfl))))) (t_val (e_op (e_cb1 (e_unsum (v_dat (i := 10) (a := (told_584 : ((List (List Int)) ⊕ Txt))) rfl)) o_repr) (e_cb1 (e_unopt (v_dat (i := 11) (a := (due_572 : (Option (List (List Int))))) rfl)) o_repr) o_ne))) (by simp only [M.bind_ok]))) (fun told_584 _ => (show StX _ _ _ [some (.dat (enc (script_491 : Scr))), some (.own true (enc (s503 : (List Int)))), some (.dat (enc (letters_493.2 : Txt))), some (.dat (enc (j499.2 : ((List (List Int)) × (List Bool))))), some (.dat (enc (kept_501 : Txt))), some (.dat (enc (small_502 : ((List (List Int)) × (List Bool))))), some (.dat (enc (x583 : Int))), none, none, none, some (.dat (enc (told_584 : ((List (List Int)) ⊕ Txt)))), some (.dat (enc (due_572 : (Option (List (List Int)))))), none, none, none] _ _ _ _ from ?_)) (le_none rfl) (fun _ => (le_none rfl)) (show 10 < 15 from by decide) (show StX _ _ _ [some (.dat (enc (script_491 : Scr))), some (.own true (enc (s503 : (List Int)))), some (.dat (enc (letters_493.2 : Txt))), some (.dat (enc (j499.2 : ((List (List Int)) × (List Bool))))), some (.dat (enc (kept_501 : Txt))), some (.dat (enc (small_502 : ((List (List Int)) × (List Bool))))), some (.dat (enc (x583 : Int))), none, none, none, none, some (.dat (enc (due_572 : (Option (List (List Int)))))), none, none, none] _ _ _ _ from ?_)
          · exact s_ret (k := .dat) (EvP.cv (m' := (.ok false)) c_bl (by simp only [M.bind_ok])) (fun a => a) (le_none rfl)
          · exact s_nil (And.intro rfl (And.intro rfl (And.intro rfl (And.intro rfl (And.intro rfl (And.intro rfl (And.intro rfl True.intro)))))))
        · exact s_ret (k := .dat) (EvP.cv (m' := (M.bind (reprM j499.2) fun z595 => (.ok (eqD z595 kept_501)))) (e_op (e_cb1 (v_dat (i := 3) (a := (j499.2 : ((List (List Int)) × (List Bool)))) rfl) o_repr) (v_dat (i := 4) (a := (kept_501 : Txt)) rfl) o_eq) (by simp only [M.bind_ok])) (fun a => a) (le_none rfl)
end HW

set_option Elab.async false
set_option linter.all false
set_option maxRecDepth 100000
set_option maxHeartbeats 4000000
set_option autoImplicit false
namespace HW
open PySem L2 PyProof.Rows
theorem law_end {P : Program} {w : World} {K : PySem.W.Frag} {mg : Str → Option Value} {H : Hp} {a : Addr} {ns : List Int} (hl : ns.length ≤ 63) (hS : SqL K H a (ns.map V.int)) : spM ⟨K, P, w⟩ mg .dat (Rm1 law) [.ref a] H (fun v _ => v = .bl true) fun _ _ _ => False := law_end0 (law_true ns hl) hS
/-- what law promises -/
def spLaw (P : Program) (w : World) (K : PySem.W.Frag) : Sp := fun vs H Q E => ∀ mg, spM ⟨K, P, w⟩ mg .dat (Rm1 law) vs H Q E
theorem LawOk.imp {P : Program} {w : World} {K : PySem.W.Frag} {mg : Str → Option Value} {base : Heap} {CX : CXT} {f : Addr} {fd : FuncData} {ps : List Str} {sp sp' : Sp} (F : LawOk P w K mg base CX f fd ps sp) (h : ∀ vs H Q E, sp' vs H Q E → sp vs H Q E) : LawOk P w K mg base CX f fd ps sp' :=
  ⟨fun s H args us vs Q E e0 hb r hs => F.run s H args us vs Q E e0 hb r (h _ _ _ _ hs)⟩
theorem all_mk {P : Program} {w : World} {K : PySem.W.Frag} {h : Heap} {mg : Str → Option Value} {fa f1 f2 f3 f4 f5 f6 f7 f8 f9 f10 f11 f12 f13 f14 f15 f16 f17 f18 f19 f20 f21 C_HallError C_TooMany : Addr} {t_MOST_THINGS : Tok} (X : K.In h) (G : h.Ns mainGlobals mg) (hfa : mg "law" = some (.ref fa))
    {od1 an1 : Option Addr} {sl1 : Array (Option Value)} {oc1 kV1 dc1 pm1 cd1 ct1 : Value}
    {od2 an2 : Option Addr} {sl2 : Array (Option Value)} {oc2 kV2 dc2 pm2 cd2 ct2 : Value}
    {od3 an3 : Option Addr} {sl3 : Array (Option Value)} {oc3 kV3 dc3 pm3 cd3 ct3 : Value}
    {od4 an4 : Option Addr} {sl4 : Array (Option Value)} {oc4 kV4 dc4 pm4 cd4 ct4 : Value}
    {od5 an5 : Option Addr} {sl5 : Array (Option Value)} {oc5 kV5 dc5 pm5 cd5 ct5 : Value}
    {od6 an6 : Option Addr} {sl6 : Array (Option Value)} {oc6 kV6 dc6 pm6 cd6 ct6 : Value}
    {od7 an7 : Option Addr} {sl7 : Array (Option Value)} {oc7 kV7 dc7 pm7 cd7 ct7 : Value}
    {od8 an8 : Option Addr} {sl8 : Array (Option Value)} {oc8 kV8 dc8 pm8 cd8 ct8 : Value}
    {od9 an9 : Option Addr} {sl9 : Array (Option Value)} {oc9 kV9 dc9 pm9 cd9 ct9 : Value}
    {od10 an10 : Option Addr} {sl10 : Array (Option Value)} {oc10 kV10 dc10 pm10 cd10 ct10 : Value}
    {od11 an11 : Option Addr} {sl11 : Array (Option Value)} {oc11 kV11 dc11 pm11 cd11 ct11 : Value}
    {od12 an12 : Option Addr} {sl12 : Array (Option Value)} {oc12 kV12 dc12 pm12 cd12 ct12 : Value}
    {od13 an13 : Option Addr} {sl13 : Array (Option Value)} {oc13 kV13 dc13 pm13 cd13 ct13 : Value}
    {od14 an14 : Option Addr} {sl14 : Array (Option Value)} {oc14 kV14 dc14 pm14 cd14 ct14 : Value}
    {od15 an15 : Option Addr} {sl15 : Array (Option Value)} {oc15 kV15 dc15 pm15 cd15 ct15 : Value}
    {od16 an16 : Option Addr} {sl16 : Array (Option Value)} {oc16 kV16 dc16 pm16 cd16 ct16 : Value}
    {od17 an17 : Option Addr} {sl17 : Array (Option Value)} {oc17 kV17 dc17 pm17 cd17 ct17 : Value}
    {od18 an18 : Option Addr} {sl18 : Array (Option Value)} {oc18 kV18 dc18 pm18 cd18 ct18 : Value}
    {od19 an19 : Option Addr} {sl19 : Array (Option Value)} {oc19 kV19 dc19 pm19 cd19 ct19 : Value}
    {od20 an20 : Option Addr} {sl20 : Array (Option Value)} {oc20 kV20 dc20 pm20 cd20 ct20 : Value}
    {od21 an21 : Option Addr} {sl21 : Array (Option Value)} {oc21 kV21 dc21 pm21 cd21 ct21 : Value}
    (a1 : PySem.W.nsIn K mainGlobals "places_of" = some (some (.ref f1)))
    (l1 : K.lookup f1 = some ⟨oc1, od1, .func (PySem.W.fnOf "places_of" "places_of" (defArgs s_places_of) (defBody s_places_of) (defScope s_places_of) .none kV1 dc1 pm1 an1 cd1 ct1), sl1⟩)
    (c1 : PySem.W.codeIn K cd1 "places_of" = true)
    (k1 : PySem.W.keepIn K (.ref f1) = true)
    (a2 : PySem.W.nsIn K mainGlobals "run_from" = some (some (.ref f2)))
    (l2 : K.lookup f2 = some ⟨oc2, od2, .func (PySem.W.fnOf "run_from" "run_from" (defArgs s_run_from) (defBody s_run_from) (defScope s_run_from) .none kV2 dc2 pm2 an2 cd2 ct2), sl2⟩)
    (c2 : PySem.W.codeIn K cd2 "run_from" = true)
    (k2 : PySem.W.keepIn K (.ref f2) = true)
    (a3 : PySem.W.nsIn K mainGlobals "reached" = some (some (.ref f3)))
    (l3 : K.lookup f3 = some ⟨oc3, od3, .func (PySem.W.fnOf "reached" "reached" (defArgs s_reached) (defBody s_reached) (defScope s_reached) .none kV3 dc3 pm3 an3 cd3 ct3), sl3⟩)
    (c3 : PySem.W.codeIn K cd3 "reached" = true)
    (k3 : PySem.W.keepIn K (.ref f3) = true)
    (a4 : PySem.W.nsIn K mainGlobals "classes_of" = some (some (.ref f4)))
    (l4 : K.lookup f4 = some ⟨oc4, od4, .func (PySem.W.fnOf "classes_of" "classes_of" (defArgs s_classes_of) (defBody s_classes_of) (defScope s_classes_of) .none kV4 dc4 pm4 an4 cd4 ct4), sl4⟩)
    (c4 : PySem.W.codeIn K cd4 "classes_of" = true)
    (k4 : PySem.W.keepIn K (.ref f4) = true)
    (a5 : PySem.W.nsIn K mainGlobals "merged" = some (some (.ref f5)))
    (l5 : K.lookup f5 = some ⟨oc5, od5, .func (PySem.W.fnOf "merged" "merged" (defArgs s_merged) (defBody s_merged) (defScope s_merged) .none kV5 dc5 pm5 an5 cd5 ct5), sl5⟩)
    (c5 : PySem.W.codeIn K cd5 "merged" = true)
    (k5 : PySem.W.keepIn K (.ref f5) = true)
    (a6 : PySem.W.nsIn K mainGlobals "least" = some (some (.ref f6)))
    (l6 : K.lookup f6 = some ⟨oc6, od6, .func (PySem.W.fnOf "least" "least" (defArgs s_least) (defBody s_least) (defScope s_least) .none kV6 dc6 pm6 an6 cd6 ct6), sl6⟩)
    (c6 : PySem.W.codeIn K cd6 "least" = true)
    (k6 : PySem.W.keepIn K (.ref f6) = true)
    (a7 : PySem.W.nsIn K mainGlobals "turning_of" = some (some (.ref f7)))
    (l7 : K.lookup f7 = some ⟨oc7, od7, .func (PySem.W.fnOf "turning_of" "turning_of" (defArgs s_turning_of) (defBody s_turning_of) (defScope s_turning_of) .none kV7 dc7 pm7 an7 cd7 ct7), sl7⟩)
    (c7 : PySem.W.codeIn K cd7 "turning_of" = true)
    (k7 : PySem.W.keepIn K (.ref f7) = true)
    (a8 : PySem.W.nsIn K mainGlobals "rows_met" = some (some (.ref f8)))
    (l8 : K.lookup f8 = some ⟨oc8, od8, .func (PySem.W.fnOf "rows_met" "rows_met" (defArgs s_rows_met) (defBody s_rows_met) (defScope s_rows_met) .none kV8 dc8 pm8 an8 cd8 ct8), sl8⟩)
    (c8 : PySem.W.codeIn K cd8 "rows_met" = true)
    (k8 : PySem.W.keepIn K (.ref f8) = true)
    (a9 : PySem.W.nsIn K mainGlobals "members" = some (some (.ref f9)))
    (l9 : K.lookup f9 = some ⟨oc9, od9, .func (PySem.W.fnOf "members" "members" (defArgs s_members) (defBody s_members) (defScope s_members) .none kV9 dc9 pm9 an9 cd9 ct9), sl9⟩)
    (c9 : PySem.W.codeIn K cd9 "members" = true)
    (k9 : PySem.W.keepIn K (.ref f9) = true)
    (a10 : PySem.W.nsIn K mainGlobals "ring_of" = some (some (.ref f10)))
    (l10 : K.lookup f10 = some ⟨oc10, od10, .func (PySem.W.fnOf "ring_of" "ring_of" (defArgs s_ring_of) (defBody s_ring_of) (defScope s_ring_of) .none kV10 dc10 pm10 an10 cd10 ct10), sl10⟩)
    (c10 : PySem.W.codeIn K cd10 "ring_of" = true)
    (k10 : PySem.W.keepIn K (.ref f10) = true)
    (a11 : PySem.W.nsIn K mainGlobals "rest_paper" = some (some (.ref f11)))
    (l11 : K.lookup f11 = some ⟨oc11, od11, .func (PySem.W.fnOf "rest_paper" "rest_paper" (defArgs s_rest_paper) (defBody s_rest_paper) (defScope s_rest_paper) .none kV11 dc11 pm11 an11 cd11 ct11), sl11⟩)
    (c11 : PySem.W.codeIn K cd11 "rest_paper" = true)
    (k11 : PySem.W.keepIn K (.ref f11) = true)
    (a12 : PySem.W.nsIn K mainGlobals "_law_pool" = some (some (.ref f12)))
    (l12 : K.lookup f12 = some ⟨oc12, od12, .func (PySem.W.fnOf "_law_pool" "_law_pool" (defArgs s__law_pool) (defBody s__law_pool) (defScope s__law_pool) .none kV12 dc12 pm12 an12 cd12 ct12), sl12⟩)
    (c12 : PySem.W.codeIn K cd12 "_law_pool" = true)
    (k12 : PySem.W.keepIn K (.ref f12) = true)
    (a13 : PySem.W.nsIn K mainGlobals "_law_stream" = some (some (.ref f13)))
    (l13 : K.lookup f13 = some ⟨oc13, od13, .func (PySem.W.fnOf "_law_stream" "_law_stream" (defArgs s__law_stream) (defBody s__law_stream) (defScope s__law_stream) .none kV13 dc13 pm13 an13 cd13 ct13), sl13⟩)
    (c13 : PySem.W.codeIn K cd13 "_law_stream" = true)
    (k13 : PySem.W.keepIn K (.ref f13) = true)
    (a14 : PySem.W.nsIn K mainGlobals "_law_pick" = some (some (.ref f14)))
    (l14 : K.lookup f14 = some ⟨oc14, od14, .func (PySem.W.fnOf "_law_pick" "_law_pick" (defArgs s__law_pick) (defBody s__law_pick) (defScope s__law_pick) .none kV14 dc14 pm14 an14 cd14 ct14), sl14⟩)
    (c14 : PySem.W.codeIn K cd14 "_law_pick" = true)
    (k14 : PySem.W.keepIn K (.ref f14) = true)
    (a15 : PySem.W.nsIn K mainGlobals "_law_letters" = some (some (.ref f15)))
    (l15 : K.lookup f15 = some ⟨oc15, od15, .func (PySem.W.fnOf "_law_letters" "_law_letters" (defArgs s__law_letters) (defBody s__law_letters) (defScope s__law_letters) .none kV15 dc15 pm15 an15 cd15 ct15), sl15⟩)
    (c15 : PySem.W.codeIn K cd15 "_law_letters" = true)
    (k15 : PySem.W.keepIn K (.ref f15) = true)
    (a16 : PySem.W.nsIn K mainGlobals "_law_machine" = some (some (.ref f16)))
    (l16 : K.lookup f16 = some ⟨oc16, od16, .func (PySem.W.fnOf "_law_machine" "_law_machine" (defArgs s__law_machine) (defBody s__law_machine) (defScope s__law_machine) .none kV16 dc16 pm16 an16 cd16 ct16), sl16⟩)
    (c16 : PySem.W.codeIn K cd16 "_law_machine" = true)
    (k16 : PySem.W.keepIn K (.ref f16) = true)
    (a17 : PySem.W.nsIn K mainGlobals "_law_least" = some (some (.ref f17)))
    (l17 : K.lookup f17 = some ⟨oc17, od17, .func (PySem.W.fnOf "_law_least" "_law_least" (defArgs s__law_least) (defBody s__law_least) (defScope s__law_least) .none kV17 dc17 pm17 an17 cd17 ct17), sl17⟩)
    (c17 : PySem.W.codeIn K cd17 "_law_least" = true)
    (k17 : PySem.W.keepIn K (.ref f17) = true)
    (a18 : PySem.W.nsIn K mainGlobals "_law_told" = some (some (.ref f18)))
    (l18 : K.lookup f18 = some ⟨oc18, od18, .func (PySem.W.fnOf "_law_told" "_law_told" (defArgs s__law_told) (defBody s__law_told) (defScope s__law_told) .none kV18 dc18 pm18 an18 cd18 ct18), sl18⟩)
    (c18 : PySem.W.codeIn K cd18 "_law_told" = true)
    (k18 : PySem.W.keepIn K (.ref f18) = true)
    (a19 : PySem.W.nsIn K mainGlobals "_law_members" = some (some (.ref f19)))
    (l19 : K.lookup f19 = some ⟨oc19, od19, .func (PySem.W.fnOf "_law_members" "_law_members" (defArgs s__law_members) (defBody s__law_members) (defScope s__law_members) .none kV19 dc19 pm19 an19 cd19 ct19), sl19⟩)
    (c19 : PySem.W.codeIn K cd19 "_law_members" = true)
    (k19 : PySem.W.keepIn K (.ref f19) = true)
    (a20 : PySem.W.nsIn K mainGlobals "_law_lively" = some (some (.ref f20)))
    (l20 : K.lookup f20 = some ⟨oc20, od20, .func (PySem.W.fnOf "_law_lively" "_law_lively" (defArgs s__law_lively) (defBody s__law_lively) (defScope s__law_lively) .none kV20 dc20 pm20 an20 cd20 ct20), sl20⟩)
    (c20 : PySem.W.codeIn K cd20 "_law_lively" = true)
    (k20 : PySem.W.keepIn K (.ref f20) = true)
    (a21 : PySem.W.nsIn K mainGlobals "law" = some (some (.ref f21)))
    (l21 : K.lookup f21 = some ⟨oc21, od21, .func (PySem.W.fnOf "law" "law" (defArgs s_law) (defBody s_law) (defScope s_law) .none kV21 dc21 pm21 an21 cd21 ct21), sl21⟩)
    (c21 : PySem.W.codeIn K cd21 "law" = true)
    (k21 : PySem.W.keepIn K (.ref f21) = true)
    (z_any : PySem.W.nsIn K mainGlobals "any" = some none)
    (z_enumerate : PySem.W.nsIn K mainGlobals "enumerate" = some none)
    (z_int : PySem.W.nsIn K mainGlobals "int" = some none)
    (z_isinstance : PySem.W.nsIn K mainGlobals "isinstance" = some none)
    (z_len : PySem.W.nsIn K mainGlobals "len" = some none)
    (z_list : PySem.W.nsIn K mainGlobals "list" = some none)
    (z_min : PySem.W.nsIn K mainGlobals "min" = some none)
    (z_range : PySem.W.nsIn K mainGlobals "range" = some none)
    (z_repr : PySem.W.nsIn K mainGlobals "repr" = some none)
    (z_set : PySem.W.nsIn K mainGlobals "set" = some none)
    (z_tuple : PySem.W.nsIn K mainGlobals "tuple" = some none)
    (g_MOST_THINGS : PySem.W.nsIn K mainGlobals "MOST_THINGS" = some (some (.int 2000 t_MOST_THINGS)))
    (x_HallError : PySem.W.nsIn K mainGlobals "HallError" = some (some (.ref C_HallError)))
    (xe_HallError : PySem.W.excIn K C_HallError [.type "ValueError", .type "Exception", .type "BaseException", .type "object"] "ValueError.__new__" = true)
    (xk_HallError : PySem.W.keepIn K (.ref C_HallError) = true)
    (xs_HallError : PySem.W.subIn K (.ref C_HallError) (.type "BaseException") = some true)
    (xt_HallError : PySem.W.typeIn K (.ref C_HallError) = some (.type "type"))
    (x_TooMany : PySem.W.nsIn K mainGlobals "TooMany" = some (some (.ref C_TooMany)))
    (xe_TooMany : PySem.W.excIn K C_TooMany [.type "ValueError", .type "Exception", .type "BaseException", .type "object"] "ValueError.__new__" = true)
    (xk_TooMany : PySem.W.keepIn K (.ref C_TooMany) = true)
    (xs_TooMany : PySem.W.subIn K (.ref C_TooMany) (.type "BaseException") = some true)
    (xt_TooMany : PySem.W.typeIn K (.ref C_TooMany) = some (.type "type"))
    (e_TooMany_HallError : PySem.W.exmOne K (.ref C_TooMany) (.ref C_HallError) = some true)
    (e_TooMany_TooMany : PySem.W.exmOne K (.ref C_TooMany) (.ref C_TooMany) = some true)
    : ∃ fd : FuncData, (∀ (s : Shared) (v : Value), BindsTo s fd ⟨[v], []⟩ [("script", v)]) ∧ ∀ base : Heap, K.In base → base.Ns mainGlobals mg → LawOk P w K mg base (L2.CX P w) fa fd ["script"] (spLaw P w K) := by
  have e := hfa.symm.trans (PySem.W.mg_of X G a21)
  cases e
  have BT : Bt mg := ⟨PySem.W.mg_none_of X G z_any, PySem.W.mg_none_of X G z_enumerate, PySem.W.mg_none_of X G z_int, PySem.W.mg_none_of X G z_isinstance, PySem.W.mg_none_of X G z_len, PySem.W.mg_none_of X G z_list, PySem.W.mg_none_of X G z_min, PySem.W.mg_none_of X G z_range, PySem.W.mg_none_of X G z_repr, PySem.W.mg_none_of X G z_set, PySem.W.mg_none_of X G z_tuple⟩
  have GL : Glo mg := ⟨⟨_, PySem.W.mg_of X G g_MOST_THINGS⟩⟩
  have XC : Xcs K mg := ⟨⟨C_HallError, PySem.W.mg_of X G x_HallError, xe_HallError, xk_HallError, xs_HallError, xt_HallError⟩, ⟨C_TooMany, PySem.W.mg_of X G x_TooMany, xe_TooMany, xk_TooMany, xs_TooMany, xt_TooMany⟩, (fun C D hC hD => by have q1 := hC.symm.trans (PySem.W.mg_of X G x_TooMany); have q2 := hD.symm.trans (PySem.W.mg_of X G x_HallError); cases q1; cases q2; exact e_TooMany_HallError), (fun C D hC hD => by have q1 := hC.symm.trans (PySem.W.mg_of X G x_TooMany); have q2 := hD.symm.trans (PySem.W.mg_of X G x_TooMany); cases q1; cases q2; exact e_TooMany_TooMany)⟩
  have F1 := fun_mk (st := s_places_of) l1 c1 k1
  have b1 := F1.binds (ps := ["letters", "word"]) fun _ _ _ _ _ _ us hl => match us, hl with | [_, _], _ => rfl
  have F2 := fun_mk (st := s_run_from) l2 c2 k2
  have b2 := F2.binds (ps := ["letters", "machine", "state", "word"]) fun _ _ _ _ _ _ us hl => match us, hl with | [_, _, _, _], _ => rfl
  have F3 := fun_mk (st := s_reached) l3 c3 k3
  have b3 := F3.binds (ps := ["table", "first"]) fun _ _ _ _ _ _ us hl => match us, hl with | [_, _], _ => rfl
  have F4 := fun_mk (st := s_classes_of) l4 c4 k4
  have b4 := F4.binds (ps := ["table", "ends", "states", "most"]) fun _ _ _ _ _ _ us hl => match us, hl with | [_, _, _, _], _ => rfl
  have F5 := fun_mk (st := s_merged) l5 c5 k5
  have b5 := F5.binds (ps := ["table", "ends", "states", "classes"]) fun _ _ _ _ _ _ us hl => match us, hl with | [_, _, _, _], _ => rfl
  have F6 := fun_mk (st := s_least) l6 c6 k6
  have b6 := F6.binds (ps := ["letters", "machine"]) fun _ _ _ _ _ _ us hl => match us, hl with | [_, _], _ => rfl
  have F7 := fun_mk (st := s_turning_of) l7 c7 k7
  have b7 := F7.binds (ps := ["letters", "machine", "word"]) fun _ _ _ _ _ _ us hl => match us, hl with | [_, _, _], _ => rfl
  have F8 := fun_mk (st := s_rows_met) l8 c8 k8
  have b8 := F8.binds (ps := ["letters", "table"]) fun _ _ _ _ _ _ us hl => match us, hl with | [_, _], _ => rfl
  have F9 := fun_mk (st := s_members) l9 c9 k9
  have b9 := F9.binds (ps := ["letters", "machine"]) fun _ _ _ _ _ _ us hl => match us, hl with | [_, _], _ => rfl
  have F10 := fun_mk (st := s_ring_of) l10 c10 k10
  have b10 := F10.binds (ps := ["letters", "machine"]) fun _ _ _ _ _ _ us hl => match us, hl with | [_, _], _ => rfl
  have F11 := fun_mk (st := s_rest_paper) l11 c11 k11
  have b11 := F11.binds (ps := ["letters", "machine"]) fun _ _ _ _ _ _ us hl => match us, hl with | [_, _], _ => rfl
  have F12 := fun_mk (st := s__law_pool) l12 c12 k12
  have b12 := F12.binds (ps := ["script"]) fun _ _ _ _ _ _ us hl => match us, hl with | [_], _ => rfl
  have F13 := fun_mk (st := s__law_stream) l13 c13 k13
  have b13 := F13.binds (ps := ["script"]) fun _ _ _ _ _ _ us hl => match us, hl with | [_], _ => rfl
  have F14 := fun_mk (st := s__law_pick) l14 c14 k14
  have b14 := F14.binds (ps := ["pool", "many"]) fun _ _ _ _ _ _ us hl => match us, hl with | [_, _], _ => rfl
  have F15 := fun_mk (st := s__law_letters) l15 c15 k15
  have b15 := F15.binds (ps := ["pool", "most"]) fun _ _ _ _ _ _ us hl => match us, hl with | [_, _], _ => rfl
  have F16 := fun_mk (st := s__law_machine) l16 c16 k16
  have b16 := F16.binds (ps := ["pool", "letters", "most"]) fun _ _ _ _ _ _ us hl => match us, hl with | [_, _, _], _ => rfl
  have F17 := fun_mk (st := s__law_least) l17 c17 k17
  have b17 := F17.binds (ps := ["letters", "machine"]) fun _ _ _ _ _ _ us hl => match us, hl with | [_, _], _ => rfl
  have F18 := fun_mk (st := s__law_told) l18 c18 k18
  have b18 := F18.binds (ps := ["letters", "machine", "which"]) fun _ _ _ _ _ _ us hl => match us, hl with | [_, _, _], _ => rfl
  have F19 := fun_mk (st := s__law_members) l19 c19 k19
  have b19 := F19.binds (ps := ["letters", "table"]) fun _ _ _ _ _ _ us hl => match us, hl with | [_, _], _ => rfl
  have F20 := fun_mk (st := s__law_lively) l20 c20 k20
  have b20 := F20.binds (ps := ["pool", "letters"]) fun _ _ _ _ _ _ us hl => match us, hl with | [_, _], _ => rfl
  have F21 := fun_mk (st := s_law) l21 c21 k21
  refine ⟨PySem.W.fnOf "law" "law" (defArgs s_law) (defBody s_law) (defScope s_law) .none kV21 dc21 pm21 an21 cd21 ct21, fun s v => .of_eq rfl, fun base _ _ => ?_⟩
  have h1 : Fk ⟨K, P, w⟩ mg base "places_of" 1 ["letters", "word"] (spM ⟨K, P, w⟩ mg .new (Rm2 places_of)) := ⟨_, _, ok_places_of (K := ⟨K, P, w⟩) F1 BT GL XC , b1, PySem.W.mg_of X G a1, k1⟩
  have h2 : Fk ⟨K, P, w⟩ mg base "run_from" 2 ["letters", "machine", "state", "word"] (spM ⟨K, P, w⟩ mg .dat (Rm4 run_from)) := ⟨_, _, ok_run_from (K := ⟨K, P, w⟩) F2 BT GL XC h1, b2, PySem.W.mg_of X G a2, k2⟩
  have h3 : Fk ⟨K, P, w⟩ mg base "reached" 1 ["table", "first"] (spM ⟨K, P, w⟩ mg .new (Rm2 reached)) := ⟨_, _, ok_reached (K := ⟨K, P, w⟩) F3 BT GL XC , b3, PySem.W.mg_of X G a3, k3⟩
  have h4 : Fk ⟨K, P, w⟩ mg base "classes_of" 1 ["table", "ends", "states", "most"] (spM ⟨K, P, w⟩ mg .dat (Rm4 classes_of)) := ⟨_, _, ok_classes_of (K := ⟨K, P, w⟩) F4 BT GL XC , b4, PySem.W.mg_of X G a4, k4⟩
  have h5 : Fk ⟨K, P, w⟩ mg base "merged" 1 ["table", "ends", "states", "classes"] (spM ⟨K, P, w⟩ mg .dat (Rm4 merged)) := ⟨_, _, ok_merged (K := ⟨K, P, w⟩) F5 BT GL XC , b5, PySem.W.mg_of X G a5, k5⟩
  have h6 : Fk ⟨K, P, w⟩ mg base "least" 2 ["letters", "machine"] (spM ⟨K, P, w⟩ mg .dat (Rm2 least)) := ⟨_, _, ok_least (K := ⟨K, P, w⟩) F6 BT GL XC h3 h5 h4, b6, PySem.W.mg_of X G a6, k6⟩
  have h7 : Fk ⟨K, P, w⟩ mg base "turning_of" 3 ["letters", "machine", "word"] (spM ⟨K, P, w⟩ mg .new (Rm3 turning_of)) := ⟨_, _, ok_turning_of (K := ⟨K, P, w⟩) F7 BT GL XC h6 h2, b7, PySem.W.mg_of X G a7, k7⟩
  have h8 : Fk ⟨K, P, w⟩ mg base "rows_met" 1 ["letters", "table"] (spM ⟨K, P, w⟩ mg .new (Rm2 rows_met)) := ⟨_, _, ok_rows_met (K := ⟨K, P, w⟩) F8 BT GL XC , b8, PySem.W.mg_of X G a8, k8⟩
  have h9 : Fk ⟨K, P, w⟩ mg base "members" 3 ["letters", "machine"] (spM ⟨K, P, w⟩ mg .deep (Rm2 members)) := ⟨_, _, ok_members (K := ⟨K, P, w⟩) F9 BT GL XC h8 h6, b9, PySem.W.mg_of X G a9, k9⟩
  have h10 : Fk ⟨K, P, w⟩ mg base "ring_of" 3 ["letters", "machine"] (spM ⟨K, P, w⟩ mg .dat (Rm2 ring_of)) := ⟨_, _, ok_ring_of (K := ⟨K, P, w⟩) F10 BT GL XC h8 h6, b10, PySem.W.mg_of X G a10, k10⟩
  have h11 : Fk ⟨K, P, w⟩ mg base "rest_paper" 4 ["letters", "machine"] (spM ⟨K, P, w⟩ mg .dat (Rm2 rest_paper)) := ⟨_, _, ok_rest_paper (K := ⟨K, P, w⟩) F11 BT GL XC h9, b11, PySem.W.mg_of X G a11, k11⟩
  have h12 : Fk ⟨K, P, w⟩ mg base "_law_pool" 1 ["script"] (spM ⟨K, P, w⟩ mg .new (Rm1 _law_pool)) := ⟨_, _, ok__law_pool (K := ⟨K, P, w⟩) F12 BT GL XC , b12, PySem.W.mg_of X G a12, k12⟩
  have h13 : Fk ⟨K, P, w⟩ mg base "_law_stream" 2 ["script"] (spM ⟨K, P, w⟩ mg .new (Rm1 _law_stream)) := ⟨_, _, ok__law_stream (K := ⟨K, P, w⟩) F13 BT GL XC h12, b13, PySem.W.mg_of X G a13, k13⟩
  have h14 : Fk ⟨K, P, w⟩ mg base "_law_pick" 1 ["pool", "many"] (spIO ⟨K, P, w⟩ (RmIO1 _law_pick)) := ⟨_, _, ok__law_pick (K := ⟨K, P, w⟩) F14 BT GL XC , b14, PySem.W.mg_of X G a14, k14⟩
  have h15 : Fk ⟨K, P, w⟩ mg base "_law_letters" 2 ["pool", "most"] (spIO ⟨K, P, w⟩ (RmIO1 _law_letters)) := ⟨_, _, ok__law_letters (K := ⟨K, P, w⟩) F15 BT GL XC h14, b15, PySem.W.mg_of X G a15, k15⟩
  have h16 : Fk ⟨K, P, w⟩ mg base "_law_machine" 2 ["pool", "letters", "most"] (spIO ⟨K, P, w⟩ (RmIO2 _law_machine)) := ⟨_, _, ok__law_machine (K := ⟨K, P, w⟩) F16 BT GL XC h14, b16, PySem.W.mg_of X G a16, k16⟩
  have h17 : Fk ⟨K, P, w⟩ mg base "_law_least" 1 ["letters", "machine"] (spM ⟨K, P, w⟩ mg .dat (Rm2 _law_least)) := ⟨_, _, ok__law_least (K := ⟨K, P, w⟩) F17 BT GL XC , b17, PySem.W.mg_of X G a17, k17⟩
  have h18 : Fk ⟨K, P, w⟩ mg base "_law_told" 5 ["letters", "machine", "which"] (spM ⟨K, P, w⟩ mg .deep (Rm3 _law_told)) := ⟨_, _, ok__law_told (K := ⟨K, P, w⟩) F18 BT GL XC h10 h11 h9, b18, PySem.W.mg_of X G a18, k18⟩
  have h19 : Fk ⟨K, P, w⟩ mg base "_law_members" 1 ["letters", "table"] (spM ⟨K, P, w⟩ mg .dat (Rm2 _law_members)) := ⟨_, _, ok__law_members (K := ⟨K, P, w⟩) F19 BT GL XC , b19, PySem.W.mg_of X G a19, k19⟩
  have h20 : Fk ⟨K, P, w⟩ mg base "_law_lively" 2 ["pool", "letters"] (spIO ⟨K, P, w⟩ (RmIO1 _law_lively)) := ⟨_, _, ok__law_lively (K := ⟨K, P, w⟩) F20 BT GL XC h14, b20, PySem.W.mg_of X G a20, k20⟩
  exact (ok_law (K := ⟨K, P, w⟩) F21 BT GL XC h13 h15 h16 h14 h20 h17 h7 h19 h18).imp fun vs H Q E q => q mg
theorem walk {l : PySem.W.OpenLaw} {q : Program} {loose : List Str} {XP : (Str → Option Value) → Heap → Prop} {YP : World → Heap → Prop} {d : DefRec} {K : Params → PySem.W.Frag} (hn : l.most = some 63) (hdf : d.params.defaults = []) (hY : ∀ (w : World) (h : Heap), YP w h → (K w.params).In h)
    (F : ∀ (w : World) (mg : Str → Option Value) (fa : Addr) (h : Heap), (K w.params).In h → h.Ns mainGlobals mg → mg d.name = some (.ref fa) →
      ∃ fd : FuncData, (∀ (s : Shared) (u : Value), BindsTo s fd ⟨[u], []⟩ [("script", u)]) ∧ ∀ base : Heap, (K w.params).In base → base.Ns mainGlobals mg → LawOk l.prog w (K w.params) mg base (L2.CX l.prog w) fa fd ["script"] (spLaw l.prog w (K w.params))) :
    PySem.W.WalkO q loose XP YP l.row.toRowW d [] (fun f vs => PySem.call f vs) :=
  walk_G (n := 63) (x := "script") (CX := fun w => L2.CX l.prog w) (sp := fun w => spLaw l.prog w (K w.params)) hn (by decide) hdf hY F (fun _ _ a ns hl _ hS mg => law_end hl hS) fun _ _ _ _ _ z => cx_false z
end HW
open PySem PySem.W PyProof.Rows
set_option maxRecDepth 100000 in
set_option maxHeartbeats 0 in
theorem PySem.Challenge.cw_hallofwords_k77_turnings_and_members_holds : PySem.Challenge.rw_hallofwords_k77_turnings_and_members.Holds := by
  w_on; o_law; k_head; (case hw => w_witness2)
  k_fill
  refine HW.walk (l := PySem.Challenge.rw_hallofwords_k77_turnings_and_members) rfl rfl (fun w h Y => PySem.W.kIn_of Y) ?F
  case F =>
    intro w mg fa h KX G hmg
    refine' HW.all_mk KX G hmg ?a1 ?l1 ?c1 ?k1 ?a2 ?l2 ?c2 ?k2 ?a3 ?l3 ?c3 ?k3 ?a4 ?l4 ?c4 ?k4 ?a5 ?l5 ?c5 ?k5 ?a6 ?l6 ?c6 ?k6 ?a7 ?l7 ?c7 ?k7 ?a8 ?l8 ?c8 ?k8 ?a9 ?l9 ?c9 ?k9 ?a10 ?l10 ?c10 ?k10 ?a11 ?l11 ?c11 ?k11 ?a12 ?l12 ?c12 ?k12 ?a13 ?l13 ?c13 ?k13 ?a14 ?l14 ?c14 ?k14 ?a15 ?l15 ?c15 ?k15 ?a16 ?l16 ?c16 ?k16 ?a17 ?l17 ?c17 ?k17 ?a18 ?l18 ?c18 ?k18 ?a19 ?l19 ?c19 ?k19 ?a20 ?l20 ?c20 ?k20 ?a21 ?l21 ?c21 ?k21 ?z_any ?z_enumerate ?z_int ?z_isinstance ?z_len ?z_list ?z_min ?z_range ?z_repr ?z_set ?z_tuple ?g_MOST_THINGS ?x_HallError ?xe_HallError ?xk_HallError ?xs_HallError ?xt_HallError ?x_TooMany ?xe_TooMany ?xk_TooMany ?xs_TooMany ?xt_TooMany ?e_TooMany_HallError ?e_TooMany_TooMany
    (case a1 => k_is)
    (case l1 => k_is)
    (case c1 => k_is)
    (case k1 => k_is)
    (case a2 => k_is)
    (case l2 => k_is)
    (case c2 => k_is)
    (case k2 => k_is)
    (case a3 => k_is)
    (case l3 => k_is)
    (case c3 => k_is)
    (case k3 => k_is)
    (case a4 => k_is)
    (case l4 => k_is)
    (case c4 => k_is)
    (case k4 => k_is)
    (case a5 => k_is)
    (case l5 => k_is)
    (case c5 => k_is)
    (case k5 => k_is)
    (case a6 => k_is)
    (case l6 => k_is)
    (case c6 => k_is)
    (case k6 => k_is)
    (case a7 => k_is)
    (case l7 => k_is)
    (case c7 => k_is)
    (case k7 => k_is)
    (case a8 => k_is)
    (case l8 => k_is)
    (case c8 => k_is)
    (case k8 => k_is)
    (case a9 => k_is)
    (case l9 => k_is)
    (case c9 => k_is)
    (case k9 => k_is)
    (case a10 => k_is)
    (case l10 => k_is)
    (case c10 => k_is)
    (case k10 => k_is)
    (case a11 => k_is)
    (case l11 => k_is)
    (case c11 => k_is)
    (case k11 => k_is)
    (case a12 => k_is)
    (case l12 => k_is)
    (case c12 => k_is)
    (case k12 => k_is)
    (case a13 => k_is)
    (case l13 => k_is)
    (case c13 => k_is)
    (case k13 => k_is)
    (case a14 => k_is)
    (case l14 => k_is)
    (case c14 => k_is)
    (case k14 => k_is)
    (case a15 => k_is)
    (case l15 => k_is)
    (case c15 => k_is)
    (case k15 => k_is)
    (case a16 => k_is)
    (case l16 => k_is)
    (case c16 => k_is)
    (case k16 => k_is)
    (case a17 => k_is)
    (case l17 => k_is)
    (case c17 => k_is)
    (case k17 => k_is)
    (case a18 => k_is)
    (case l18 => k_is)
    (case c18 => k_is)
    (case k18 => k_is)
    (case a19 => k_is)
    (case l19 => k_is)
    (case c19 => k_is)
    (case k19 => k_is)
    (case a20 => k_is)
    (case l20 => k_is)
    (case c20 => k_is)
    (case k20 => k_is)
    (case a21 => k_is)
    (case l21 => k_is)
    (case c21 => k_is)
    (case k21 => k_is)
    (case z_any => k_is)
    (case z_enumerate => k_is)
    (case z_int => k_is)
    (case z_isinstance => k_is)
    (case z_len => k_is)
    (case z_list => k_is)
    (case z_min => k_is)
    (case z_range => k_is)
    (case z_repr => k_is)
    (case z_set => k_is)
    (case z_tuple => k_is)
    (case g_MOST_THINGS => k_is)
    (case x_HallError => k_is)
    (case xe_HallError => k_exc)
    (case xk_HallError => k_is)
    (case xs_HallError => k_is)
    (case xt_HallError => k_is)
    (case x_TooMany => k_is)
    (case xe_TooMany => k_exc)
    (case xk_TooMany => k_is)
    (case xs_TooMany => k_is)
    (case xt_TooMany => k_is)
    (case e_TooMany_HallError => kts_exm)
    (case e_TooMany_TooMany => kts_exm)

