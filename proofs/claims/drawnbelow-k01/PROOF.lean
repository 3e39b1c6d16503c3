import PyProof.Rows.All
import Wide.All
import OpenK.AllK
import Wide.FinOn
import PySem.Challenge.RW_drawnbelow_k01_errors_and_limits
import HandS.ForMost
import HandS.ForExc
import HandS.CallSlots
import HandS.Property
import HandS.Deep
import HandS.ExcInit
import HandS.Lambda
import HandS.ExcOwn
import HandS.ClsMeth
import HandS.Defaults
import HandS.NoneIn
import HandS.TupAny
import HandS.TupLe
import HandS.TupMul
import HandS.Flow
import HandS.Text
import HandS.IsInst
import HandS.Wide
import HandS.WideBits
import HandS.RaiseMore
import PyProof.Rows.ReprR
import HandS.Small
import HandS.Style
import HandS.Ends
import HandS.HeadEnd
import HandS.Head4
import HandS.HeadHook3
import KE.GoesEnum
import HandS.Iter
import HandS.New
import HandS.Star
import HandS.MakeKwOnly
import KE.KDictDisplayH
import KE.KDictCopyH
import HandS.HeadHook4
import PyProof.FitsInt
import PyProof.ReprLoop
import PyProof.StrLawsRepr
import PyProof.Fits
import KE.KFmtOwn
import PyProof.InstNe
import PyProof.InstEq
import HandS.OwnEq
import PyProof.Conv_bool
import HandS.FStr
import KE.KExcSuper
import HandS.Nested
import HandS.ExcValue
import HandS.ExcIs
import HandS.ExcField
import HandS.SetFor
import KE.KStateDown
import Lean
import HandS.Base
import HandS.Call
import HandS.More
import HandS.Words
import HandS.WordsExc
import HandS.Head0
import HandS.Head1
import HandS.Head2
import HandS.HeadHook1
import HandS.HeadHook2
set_option Elab.async false
set_option linter.all false
set_option maxRecDepth 100000
namespace DV
open PySem PySem.Spec PyProof.Rows L2

/-! ### values by value -/
inductive D where
  | non | bl (b : Bool) | int (i : Int) | str (s : Str)
  | tup (xs : List D) | lst (xs : List D) | dct (t : Bool) (kvs : List (D × D))
  | obj (c : Str) (fs : List (Str × D)) | ref (n : Nat) | fn (x : Str) | scr (ns : List Int)
  deriving Inhabited

abbrev Sto := List (Option (Bool × D))
abbrev Ob := List (Str × List (Str × D))
inductive Kd where
  | frz | tmp | slot (i : Nat)
structure Ex where
  k : Kd
  d : D

inductive Res (α : Type) where
  | ok (x : α) (τ : Sto) (O : Ob)
  | ex (c : Str) (fs : List (Str × D)) (τ : Sto) (O : Ob)
  | bad
def Mm (α : Type) := Sto → Ob → Res α
@[inline] def Mm.pure {α} (x : α) : Mm α := fun τ O => .ok x τ O
@[inline] def Mm.bind {α β} (m : Mm α) (f : α → Mm β) : Mm β := fun τ O =>
  match m τ O with
  | .ok x τ' O' => f x τ' O'
  | .ex c fs τ' O' => .ex c fs τ' O'
  | .bad => .bad
instance : Monad Mm where
  pure := Mm.pure
  bind := Mm.bind
def bad {α} : Mm α := fun _ _ => .bad
@[simp] theorem pure_app {α} (x : α) (τ : Sto) (O : Ob) : (pure x : Mm α) τ O = .ok x τ O := rfl
theorem bind_app {α β} (m : Mm α) (f : α → Mm β) (τ : Sto) (O : Ob) : (m >>= f) τ O =
  (match m τ O with
  | .ok x τ' O' => f x τ' O'
  | .ex c fs τ' O' => .ex c fs τ' O'
  | .bad => .bad) := rfl
@[simp] theorem bad_app {α} (τ : Sto) (O : Ob) : (bad : Mm α) τ O = .bad := rfl

/-! ### what a value says in a heap -/
section
variable (K : PySem.W.Frag) (mg : Str → Option Value)
def keyR : Key → D → Prop
  | .inl i, d => d = .int i
  | .inr s, d => d = .str s
def keysR : List Key → List D → Prop
  | [], [] => True
  | k :: ks, d :: ds => keyR k d ∧ keysR ks ds
  | _, _ => False
/-- at a: an exception of the own class at C, with these fields -/
def ExcAt (F : Hp) (a C : Addr) (fvs : List (Str × V)) : Prop := (fvs = [] ∧ F a = some (exo a C none)) ∨ ∃ d, F a = some (exo a C (some d)) ∧ F d = some (exd d fvs)
mutual
inductive Dat (F : Hp) (μ : List Addr) : V → D → Prop
  | non : Dat F μ .non .non
  | bl (b : Bool) : Dat F μ (.bl b) (.bl b)
  | int (i : Int) : Dat F μ (.int i) (.int i)
  | str (x : Str) : Dat F μ (.str x) (.str x)
  | lst {a : Addr} {vs : List V} {ds : List D} : F a = some (.lst vs) → DatL F μ vs ds → Dat F μ (.ref a) (.lst ds)
  | tup {a : Addr} {vs : List V} {ds : List D} : F a = some (.tup vs) → DatL F μ vs ds → Dat F μ (.ref a) (.tup ds)
  | dctK {a : Addr} {l : List (Key × V)} {kvs : List (D × D)} : Rd F a (.dK l) → DatK F μ l kvs → Dat F μ (.ref a) (.dct false kvs)
  | dctT {a : Addr} {l : List (List Key × V)} {kvs : List (D × D)} : Rd F a (.dT l) → DatT F μ l kvs → Dat F μ (.ref a) (.dct true kvs)
  | obj {a C : Addr} {c : Str} {fvs : List (Str × V)} {fs : List (Str × D)} : ExcAt F a C fvs → mg c = some (.ref C) → DatF F μ fvs fs → Dat F μ (.ref a) (.obj c fs)
  | hot {a : Addr} : Dat F μ (.ref a) (.obj "" [("", .int (a : Nat))])
  | ref {a : Addr} {n : Nat} : μ[n]? = some a → Dat F μ (.ref a) (.ref n)
  | fn {a : Addr} {x : Str} : mg x = some (.ref a) → Dat F μ (.ref a) (.fn x)
  | scr {a : Addr} {ns : List Int} : SqL K F a (ns.map V.int) → Dat F μ (.ref a) (.scr ns)
inductive DatL (F : Hp) (μ : List Addr) : List V → List D → Prop
  | nil : DatL F μ [] []
  | cons {v : V} {vs : List V} {d : D} {ds : List D} : Dat F μ v d → DatL F μ vs ds → DatL F μ (v :: vs) (d :: ds)
inductive DatF (F : Hp) (μ : List Addr) : List (Str × V) → List (Str × D) → Prop
  | nil : DatF F μ [] []
  | cons {n : Str} {v : V} {vs : List (Str × V)} {d : D} {ds : List (Str × D)} : Dat F μ v d → DatF F μ vs ds → DatF F μ ((n, v) :: vs) ((n, d) :: ds)
inductive DatK (F : Hp) (μ : List Addr) : List (Key × V) → List (D × D) → Prop
  | nil : DatK F μ [] []
  | cons {k : Key} {kd : D} {v : V} {vs : List (Key × V)} {d : D} {ds : List (D × D)} : keyR k kd → Dat F μ v d → DatK F μ vs ds → DatK F μ ((k, v) :: vs) ((kd, d) :: ds)
inductive DatT (F : Hp) (μ : List Addr) : List (List Key × V) → List (D × D) → Prop
  | nil : DatT F μ [] []
  | cons {k : List Key} {kd : List D} {v : V} {vs : List (List Key × V)} {d : D} {ds : List (D × D)} : keysR k kd → Dat F μ v d → DatT F μ vs ds → DatT F μ ((k, v) :: vs) ((.tup kd, d) :: ds)
end
end

def Sub (F H : Hp) : Prop := ∀ a o, F a = some o → H a = some o
theorem Sub.refl (F : Hp) : Sub F F := fun _ _ h => h
theorem Sub.trans {F G H : Hp} (a : Sub F G) (b : Sub G H) : Sub F H := fun c o h => b c o (a c o h)
theorem Sub.seqL {K : PySem.W.Frag} {F H : Hp} {a : Addr} {vs : List V} (s : Sub F H) (h : SqL K F a vs) : SqL K H a vs := by
  rcases h with (h | ⟨o, h⟩) | h
  · exact .inl (.inl (s _ _ h))
  · exact .inl (.inr ⟨o, s _ _ h⟩)
  · exact .inr h
theorem Sub.seqT {K : PySem.W.Frag} {F H : Hp} {a : Addr} {vs : List V} (s : Sub F H) (h : SqT K F a vs) : SqT K H a vs := by
  rcases h with (h | ⟨o, h⟩) | h
  · exact .inl (.inl (s _ _ h))
  · exact .inl (.inr ⟨o, s _ _ h⟩)
  · exact .inr h
theorem Sub.rd {F H : Hp} {a : Addr} {u : HO} (s : Sub F H) (h : Rd F a u) : Rd H a u := by
  rcases h with h | ⟨o, h⟩
  · exact .inl (s _ _ h)
  · exact .inr ⟨o, s _ _ h⟩
theorem Sub.exc {F H : Hp} {a C : Addr} {fvs : List (Str × V)} (s : Sub F H) (h : ExcAt F a C fvs) : ExcAt H a C fvs := by
  rcases h with ⟨h1, h2⟩ | ⟨d, h1, h2⟩
  · exact .inl ⟨h1, s _ _ h2⟩
  · exact .inr ⟨d, s _ _ h1, s _ _ h2⟩
def Pfx (μ μ' : List Addr) : Prop := ∀ (n : Nat) (a : Addr), μ[n]? = some a → μ'[n]? = some a
theorem Pfx.refl (μ : List Addr) : Pfx μ μ := fun _ _ h => h
theorem Pfx.trans {a b c : List Addr} (x : Pfx a b) (y : Pfx b c) : Pfx a c := fun n p h => y n p (x n p h)
theorem Pfx.snoc (μ : List Addr) (a : Addr) : Pfx μ (μ ++ [a]) := fun n p h => by
  rw [List.getElem?_append_left (List.getElem?_eq_some_iff.mp h).1]
  exact h
theorem Pfx.mem {a b : List Addr} (x : Pfx a b) {p : Addr} (h : p ∈ a) : p ∈ b := by
  obtain ⟨n, hn⟩ := List.getElem?_of_mem h
  exact List.mem_of_getElem? (x n p hn)
section
variable {K : PySem.W.Frag} {mg : Str → Option Value} {F F' : Hp} {μ μ' : List Addr}
mutual
theorem Dat.mono (s : Sub F F') (m : Pfx μ μ') : ∀ (v : V) (d : D), Dat K mg F μ v d → Dat K mg F' μ' v d
  | _, .non, h => by cases h; exact .non
  | _, .bl b, h => by cases h; exact .bl b
  | _, .int i, h => by cases h; exact .int i
  | _, .str x, h => by cases h; exact .str x
  | _, .lst ds, h => by
    cases h with
    | lst h1 h2 => exact .lst (s _ _ h1) (DatL.mono s m _ ds h2)
  | _, .tup ds, h => by
    cases h with
    | tup h1 h2 => exact .tup (s _ _ h1) (DatL.mono s m _ ds h2)
  | _, .dct _ kvs, h => by
    cases h with
    | dctK h1 h2 => exact .dctK (s.rd h1) (DatK.mono s m _ kvs h2)
    | dctT h1 h2 => exact .dctT (s.rd h1) (DatT.mono s m _ kvs h2)
  | _, .obj c fs, h => by
    cases h with
    | obj h1 h2 h3 => exact .obj (s.exc h1) h2 (DatF.mono s m _ fs h3)
    | hot => exact .hot
  | _, .ref n, h => by
    cases h with
    | ref h1 => exact .ref (m _ _ h1)
  | _, .fn x, h => by
    cases h with
    | fn h1 => exact .fn h1
  | _, .scr x, h => by
    cases h with
    | scr h1 => exact .scr (s.seqL h1)
theorem DatL.mono (s : Sub F F') (m : Pfx μ μ') : ∀ (vs : List V) (ds : List D), DatL K mg F μ vs ds → DatL K mg F' μ' vs ds
  | _, [], h => by cases h; exact .nil
  | _, d :: ds, h => by
    cases h with
    | cons h1 h2 => exact .cons (Dat.mono s m _ d h1) (DatL.mono s m _ ds h2)
theorem DatF.mono (s : Sub F F') (m : Pfx μ μ') : ∀ (vs : List (Str × V)) (ds : List (Str × D)), DatF K mg F μ vs ds → DatF K mg F' μ' vs ds
  | _, [], h => by cases h; exact .nil
  | _, (_, d) :: ds, h => by
    cases h with
    | cons h1 h2 => exact .cons (Dat.mono s m _ d h1) (DatF.mono s m _ ds h2)
theorem DatK.mono (s : Sub F F') (m : Pfx μ μ') : ∀ (vs : List (Key × V)) (ds : List (D × D)), DatK K mg F μ vs ds → DatK K mg F' μ' vs ds
  | _, [], h => by cases h; exact .nil
  | _, (_, d) :: ds, h => by
    cases h with
    | cons h0 h1 h2 => exact .cons h0 (Dat.mono s m _ d h1) (DatK.mono s m _ ds h2)
theorem DatT.mono (s : Sub F F') (m : Pfx μ μ') : ∀ (vs : List (List Key × V)) (ds : List (D × D)), DatT K mg F μ vs ds → DatT K mg F' μ' vs ds
  | _, [], h => by cases h; exact .nil
  | _, (_, d) :: ds, h => by
    cases h with
    | cons h0 h1 h2 => exact .cons h0 (Dat.mono s m _ d h1) (DatT.mono s m _ ds h2)
end
end
section
variable {K : PySem.W.Frag} {mg : Str → Option Value} {F : Hp} {μ : List Addr}
theorem DatL.length : ∀ {vs : List V} {ds : List D}, DatL K mg F μ vs ds → vs.length = ds.length
  | _, [], h => by cases h; rfl
  | _, d :: ds, h => by
    cases h with
    | cons h1 h2 => exact congrArg (· + 1) (DatL.length h2)
theorem DatL.get : ∀ {vs : List V} {ds : List D} {i : Nat} {d : D}, DatL K mg F μ vs ds → ds[i]? = some d → ∃ v, vs[i]? = some v ∧ Dat K mg F μ v d
  | _, [], i, d, h, e => by simp at e
  | _, d0 :: ds, 0, d, h, e => by
    cases h with
    | cons h1 h2 =>
      have e' : d0 = d := Option.some.inj e
      subst e'
      exact ⟨_, rfl, h1⟩
  | _, d0 :: ds, i + 1, d, h, e => by
    cases h with
    | cons h1 h2 => exact DatL.get (i := i) h2 e
theorem DatL.getV : ∀ {vs : List V} {ds : List D} {i : Nat} {v : V}, DatL K mg F μ vs ds → vs[i]? = some v → ∃ d, ds[i]? = some d ∧ Dat K mg F μ v d
  | _, [], i, v, h, e => by cases h; simp at e
  | _, d0 :: ds, 0, v, h, e => by
    cases h with
    | cons h1 h2 =>
      have e' := Option.some.inj e
      subst e'
      exact ⟨_, rfl, h1⟩
  | _, d0 :: ds, i + 1, v, h, e => by
    cases h with
    | cons h1 h2 => exact DatL.getV (i := i) h2 e
theorem DatL.append : ∀ {vs ws : List V} {ds es : List D}, DatL K mg F μ vs ds → DatL K mg F μ ws es → DatL K mg F μ (vs ++ ws) (ds ++ es)
  | _, _, [], _, h, g => by cases h; exact g
  | _, _, d :: ds, _, h, g => by
    cases h with
    | cons h1 h2 => exact .cons h1 (DatL.append h2 g)
theorem DatL.take : ∀ {vs : List V} {ds : List D} (n : Nat), DatL K mg F μ vs ds → DatL K mg F μ (vs.take n) (ds.take n)
  | _, [], n, h => by cases h; simp; exact .nil
  | _, d :: ds, 0, h => .nil
  | _, d :: ds, n + 1, h => by
    cases h with
    | cons h1 h2 => exact .cons h1 (DatL.take n h2)
theorem DatL.drop : ∀ {vs : List V} {ds : List D} (n : Nat), DatL K mg F μ vs ds → DatL K mg F μ (vs.drop n) (ds.drop n)
  | _, [], n, h => by cases h; simp; exact .nil
  | _, d :: ds, 0, h => h
  | _, d :: ds, n + 1, h => by
    cases h with
    | cons h1 h2 => exact DatL.drop n h2
theorem DatL.set : ∀ {vs : List V} {ds : List D} (n : Nat) {v : V} {d : D}, DatL K mg F μ vs ds → Dat K mg F μ v d → DatL K mg F μ (vs.set n v) (ds.set n d)
  | _, [], n, v, d, h, g => by cases h; exact .nil
  | _, d0 :: ds, 0, v, d, h, g => by
    cases h with
    | cons h1 h2 => exact .cons g h2
  | _, d0 :: ds, n + 1, v, d, h, g => by
    cases h with
    | cons h1 h2 => exact .cons h1 (DatL.set n h2 g)
theorem DatL.dropLast : ∀ {vs : List V} {ds : List D}, DatL K mg F μ vs ds → DatL K mg F μ vs.dropLast ds.dropLast := fun {vs ds} h => by
  rw [List.dropLast_eq_take, List.dropLast_eq_take, h.length]
  exact h.take _
theorem DatL.one {v : V} {d : D} (h : Dat K mg F μ v d) : DatL K mg F μ [v] [d] := .cons h .nil
theorem DatL.ints : ∀ {vs : List V} {ns : List Int}, DatL K mg F μ vs (ns.map D.int) → vs = ns.map V.int
  | _, [], h => by cases h; rfl
  | _, n :: ns, h => by
    cases h with
    | cons h1 h2 =>
      cases h1
      rw [DatL.ints h2]
      rfl
theorem DatL.strs : ∀ {vs : List V} {ns : List Str}, DatL K mg F μ vs (ns.map D.str) → vs = ns.map V.str
  | _, [], h => by cases h; rfl
  | _, n :: ns, h => by
    cases h with
    | cons h1 h2 =>
      cases h1
      rw [DatL.strs h2]
      rfl
theorem DatL.bls : ∀ {vs : List V} {ns : List Bool}, DatL K mg F μ vs (ns.map D.bl) → vs = ns.map V.bl
  | _, [], h => by cases h; rfl
  | _, n :: ns, h => by
    cases h with
    | cons h1 h2 =>
      cases h1
      rw [DatL.bls h2]
      rfl
theorem DatL.of_ints : ∀ (ns : List Int), DatL K mg F μ (ns.map V.int) (ns.map D.int)
  | [] => .nil
  | n :: ns => .cons (.int n) (DatL.of_ints ns)
theorem DatL.of_strs : ∀ (ns : List Str), DatL K mg F μ (ns.map V.str) (ns.map D.str)
  | [] => .nil
  | n :: ns => .cons (.str n) (DatL.of_strs ns)
theorem DatF.lookup {f : Str} : ∀ {vs : List (Str × V)} {ds : List (Str × D)} {d : D}, DatF K mg F μ vs ds → ds.lookup f = some d → ∃ v, vs.lookup f = some v ∧ Dat K mg F μ v d
  | _, [], d, h, e => by simp at e
  | _, (n, d0) :: ds, d, h, e => by
    cases h with
    | cons h1 h2 =>
      rw [List.lookup_cons] at e
      rw [List.lookup_cons]
      cases q : f == n with
      | true =>
        rw [q] at e
        have e' : d0 = d := Option.some.inj e
        subst e'
        exact ⟨_, rfl, h1⟩
      | false =>
        rw [q] at e
        exact DatF.lookup h2 e
theorem DatF.lookup_none {f : Str} : ∀ {vs : List (Str × V)} {ds : List (Str × D)}, DatF K mg F μ vs ds → ds.lookup f = none → vs.lookup f = none
  | _, [], h, e => by cases h; rfl
  | _, (n, d0) :: ds, h, e => by
    cases h with
    | cons h1 h2 =>
      rw [List.lookup_cons] at e ⊢
      cases q : f == n with
      | true => rw [q] at e; cases e
      | false => rw [q] at e; exact DatF.lookup_none h2 e
theorem DatF.length : ∀ {vs : List (Str × V)} {ds : List (Str × D)}, DatF K mg F μ vs ds → vs.length = ds.length
  | _, [], h => by cases h; rfl
  | _, d :: ds, h => by
    cases h with
    | cons h1 h2 => exact congrArg (· + 1) (DatF.length h2)
end

/-! ### a configuration: the store, the objects, what is frozen, where the objects stand; the slots, the heap -/
structure Cf where
  τ : Sto
  O : Ob
  F : Hp
  μ : List Addr
  σ : L2.St
  H : Hp
section
variable (K : PySem.W.Frag) (mg : Str → Option Value)
/-- an owned list or dict at a -/
def OwnAt (c : Cf) (a : Addr) : D → Prop
  | .lst ds => ∃ vs, c.H a = some (.lst vs) ∧ DatL K mg c.F c.μ vs ds
  | .dct t kvs => (t = false ∧ ∃ l, c.H a = some (.dK l) ∧ DatK K mg c.F c.μ l kvs) ∨ (t = true ∧ ∃ l, c.H a = some (.dT l) ∧ DatT K mg c.F c.μ l kvs)
  | _ => False
def SlotV (c : Cf) (b : Bool) (v : V) (d : D) : Prop :=
  match b with
  | true => ∃ a, v = .ref a ∧ c.F a = none ∧ OwnAt K mg c a d
  | false => Dat K mg c.F c.μ v d
/-- an object of the store at a: an instance; or a table of code objects of the name q -/
def ObV (c : Cf) (a : Addr) (cl : Str) (fs : List (Str × D)) : Prop := (∃ C dx fvs, mg cl = some (.ref C) ∧ c.H a = some (.ins C dx fvs) ∧ DatF K mg c.F c.μ fvs fs) ∨
  (mg cl = none ∧ ∃ (q : Str) (ps : Array Value), fs = [(("" : Str), D.str q)] ∧ c.H a = some (.tbl ps) ∧ TriplesOk ps.toList ∧ ∀ (pos : Pos) (cv : Value), codeAmong pos ps.toList = some cv → ∃ c', cv = .ref c' ∧ c.F c' = some (LamX.CodeO c' q))
structure Rl (c : Cf) : Prop where
  sub : Sub c.F c.H
  len : c.τ.length = c.σ.length
  sl : ∀ (i : Nat) (b : Bool) (d : D), c.τ[i]? = some (some (b, d)) → ∃ v, c.σ[i]? = some (some v) ∧ SlotV K mg c b v d
  dj : ∀ (i j : Nat) (d e : D) (a : Addr), i ≠ j → c.τ[i]? = some (some (true, d)) → c.τ[j]? = some (some (true, e)) → c.σ[i]? = some (some (.ref a)) → c.σ[j]? ≠ some (some (.ref a))
  om : ∀ (i : Nat) (d : D) (a : Addr), c.τ[i]? = some (some (true, d)) → c.σ[i]? = some (some (.ref a)) → a ∉ c.μ
  ol : c.μ.length = c.O.length
  nd : c.μ.Nodup
  ob : ∀ (n : Nat) (a : Addr) (cl : Str) (fs : List (Str × D)), c.μ[n]? = some a → c.O[n]? = some (cl, fs) → c.F a = none ∧ ObV K mg c a cl fs
end
def Mine (c : Cf) (a : Addr) : Prop := (∃ (i : Nat) (d : D), c.τ[i]? = some (some (true, d)) ∧ c.σ[i]? = some (some (V.ref a))) ∨ a ∈ c.μ
structure Aft (K : PySem.W.Frag) (mg : Str → Option Value) (c c' : Cf) : Prop where
  rl : Rl K mg c'
  fr : ∀ a o, c.H a = some o → ¬ Mine c a → c'.H a = some o ∧ c'.F a = c.F a
  mi : ∀ a, Mine c' a → Mine c a ∨ c.H a = none
  mu : Pfx c.μ c'.μ
  tr : ∀ a o, c.H a = some o → ∃ o', c'.H a = some o'
section
variable {K : PySem.W.Frag} {mg : Str → Option Value} {c c1 c2 : Cf}
theorem ObV.some {a : Addr} {cl : Str} {fs : List (Str × D)} (h : ObV K mg c a cl fs) : ∃ o, c.H a = some o := by
  rcases h with ⟨C, dx, fvs, h1, h2, h3⟩ | ⟨h0, q, ps, h1, h2, h3, h4⟩
  · exact ⟨_, h2⟩
  · exact ⟨_, h2⟩
theorem ObV.keep {a : Addr} {cl : Str} {fs : List (Str × D)} (h : ObV K mg c a cl fs) (e : c1.H a = c.H a) (s : Sub c.F c1.F) (m : Pfx c.μ c1.μ) : ObV K mg c1 a cl fs := by
  rcases h with ⟨C, dx, fvs, h1, h2, h3⟩ | ⟨h0, q, ps, h1, h2, h3, h4⟩
  · exact .inl ⟨C, dx, fvs, h1, e.trans h2, h3.mono s m⟩
  · refine .inr ⟨h0, q, ps, h1, e.trans h2, h3, fun pos cv hc => ?_⟩
    obtain ⟨c', e1, e2⟩ := h4 pos cv hc
    exact ⟨c', e1, s _ _ e2⟩
theorem Aft.refl (r : Rl K mg c) : Aft K mg c c := ⟨r, fun a o h _ => ⟨h, rfl⟩, fun a h => .inl h, Pfx.refl _, fun a o h => ⟨o, h⟩⟩
theorem Aft.trans (x : Aft K mg c c1) (y : Aft K mg c1 c2) : Aft K mg c c2 where
  rl := y.rl
  fr := fun a o h n => by
    obtain ⟨h1, f1⟩ := x.fr a o h n
    have n1 : ¬ Mine c1 a := fun m => (x.mi a m).elim n fun z => by rw [h] at z; cases z
    obtain ⟨h2, f2⟩ := y.fr a o h1 n1
    exact ⟨h2, f2.trans f1⟩
  mi := fun a m => by
    rcases y.mi a m with z | z
    · exact x.mi a z
    · right
      cases e : c.H a with
      | none => rfl
      | some o =>
        obtain ⟨o', e'⟩ := x.tr a o e
        rw [e'] at z
        cases z
  mu := x.mu.trans y.mu
  tr := fun a o h => let ⟨o', h'⟩ := x.tr a o h; y.tr a o' h'
theorem Rl.mineF (r : Rl K mg c) {a : Addr} (m : Mine c a) : c.F a = none := by
  rcases m with ⟨i, d, h1, h2⟩ | m
  · obtain ⟨v, h3, h4⟩ := r.sl i true d h1
    rw [h2] at h3
    have e := Option.some.inj (Option.some.inj h3)
    subst e
    obtain ⟨a', e, hf, _⟩ := h4
    cases e
    exact hf
  · obtain ⟨n, hn⟩ := List.getElem?_of_mem m
    have hl : n < c.O.length := by rw [← r.ol]; exact (List.getElem?_eq_some_iff.mp hn).1
    exact (r.ob n a _ _ hn (List.getElem?_eq_getElem hl)).1
theorem Aft.subF (r : Rl K mg c) (x : Aft K mg c c1) : Sub c.F c1.F := fun a o h => by
  have n : ¬ Mine c a := fun m => by rw [r.mineF m] at h; cases h
  rw [(x.fr a o (r.sub a o h) n).2]
  exact h
theorem Rl.datH (r : Rl K mg c) {v : V} {d : D} (h : Dat K mg c.F c.μ v d) : Dat K mg c.H c.μ v d := h.mono r.sub (Pfx.refl _)
theorem Rl.slotH (r : Rl K mg c) {b : Bool} {v : V} {d : D} (h : SlotV K mg c b v d) : Dat K mg c.H c.μ v d := by
  cases b with
  | false => exact r.datH h
  | true =>
    obtain ⟨a, rfl, hf, ho⟩ := h
    cases d with
    | lst ds =>
      obtain ⟨vs, h1, h2⟩ := ho
      exact .lst h1 (h2.mono r.sub (Pfx.refl _))
    | dct t kvs =>
      rcases ho with ⟨rfl, l, h1, h2⟩ | ⟨rfl, l, h1, h2⟩
      · exact .dctK (.inl h1) (h2.mono r.sub (Pfx.refl _))
      · exact .dctT (.inl h1) (h2.mono r.sub (Pfx.refl _))
    | _ => exact ho.elim
end

/-! ### results of expressions -/
section
variable (K : PySem.W.Frag) (mg : Str → Option Value)
def ExV (c0 c : Cf) (x : Ex) (v : V) : Prop :=
  match x.k with
  | .frz => Dat K mg c.F c.μ v x.d
  | .tmp => ∃ a, v = .ref a ∧ c.F a = none ∧ OwnAt K mg c a x.d ∧ ¬ Mine c a ∧ c0.H a = none
  | .slot i => c.σ[i]? = some (some v)
end
section
variable {K : PySem.W.Frag} {mg : Str → Option Value} {c0 c c1 c2 : Cf}
theorem OwnAt.some {a : Addr} {d : D} (h : OwnAt K mg c a d) : ∃ o, c.H a = some o := by
  cases d with
  | lst ds => obtain ⟨vs, h1, _⟩ := h; exact ⟨_, h1⟩
  | dct t kvs =>
    rcases h with ⟨_, l, h1, _⟩ | ⟨_, l, h1, _⟩
    · exact ⟨_, h1⟩
    · exact ⟨_, h1⟩
  | _ => exact h.elim
theorem OwnAt.keep {a : Addr} {d : D} (h : OwnAt K mg c a d) (e : c1.H a = c.H a) (s : Sub c.F c1.F) (m : Pfx c.μ c1.μ) : OwnAt K mg c1 a d := by
  cases d with
  | lst ds => obtain ⟨vs, h1, h2⟩ := h; exact ⟨vs, e.trans h1, h2.mono s m⟩
  | dct t kvs =>
    rcases h with ⟨ht, l, h1, h2⟩ | ⟨ht, l, h1, h2⟩
    · exact .inl ⟨ht, l, e.trans h1, h2.mono s m⟩
    · exact .inr ⟨ht, l, e.trans h1, h2.mono s m⟩
  | _ => exact h.elim
/-- a result stands while the rest is evaluated -/
theorem ExV.aft {x : Ex} {v : V} (r : Rl K mg c) (h : ExV K mg c0 c x v) (a : Aft K mg c c1) (hσ : c1.σ = c.σ) : ExV K mg c0 c1 x v := by
  obtain ⟨k, d⟩ := x
  cases k with
  | frz => exact Dat.mono (a.subF r) a.mu _ _ h
  | tmp =>
    obtain ⟨p, rfl, hf, ho, hm, h0⟩ := h
    obtain ⟨o, he⟩ := ho.some
    obtain ⟨e1, e2⟩ := a.fr p o he hm
    refine ⟨p, rfl, e2.trans hf, ho.keep (e1.trans he.symm) (a.subF r) a.mu, fun m => ?_, h0⟩
    rcases a.mi p m with z | z
    · exact hm z
    · rw [he] at z; cases z
  | slot i =>
    show c1.σ[i]? = _
    rw [hσ]
    exact h
/-- from an earlier start -/
theorem ExV.from {x : Ex} {v : V} (h : ExV K mg c c1 x v) (a : Aft K mg c0 c) : ExV K mg c0 c1 x v := by
  obtain ⟨k, d⟩ := x
  cases k with
  | frz => exact h
  | tmp =>
    obtain ⟨p, rfl, hf, ho, hm, h0⟩ := h
    refine ⟨p, rfl, hf, ho, hm, ?_⟩
    cases e : c0.H p with
    | none => rfl
    | some o =>
      obtain ⟨o', e'⟩ := a.tr p o e
      rw [e'] at h0; cases h0
  | slot i => exact h
end
end DV
namespace DV
open PySem PySem.Spec PyProof.Rows L2

section
variable (K : PySem.W.Frag) (mg : Str → Option Value) (W : WX)
def Exd (c : Cf) (d : Option Addr) (fs : List (Str × D)) : Prop := (fs = [] ∧ d = none) ∨ ∃ a fvs, d = some a ∧ c.F a = some (.xd fvs) ∧ DatF K mg c.F c.μ fvs fs
def Post {α β : Type} (VR : Cf → Cf → α → β → Prop) (c : Cf) (r : Res α) (Q : β → Hp → Prop) : Prop :=
  match r with
  | .ok x τ' O' => ∀ y H' F' μ', Aft K mg c ⟨τ', O', F', μ', c.σ, H'⟩ → VR c ⟨τ', O', F', μ', c.σ, H'⟩ x y → Q y H'
  | .ex cl fs τ' O' => ∀ C d H' F' μ', Aft K mg c ⟨τ', O', F', μ', c.σ, H'⟩ → mg cl = some (.ref C) → Exd K mg ⟨τ', O', F', μ', c.σ, H'⟩ d fs → W (.ref C) d c.σ H'
  | .bad => False
def tM {α β : Type} (VR : Cf → Cf → α → β → Prop) (f : Mm α) : L2.St → Hp → (β → Hp → Prop) → Prop := fun σ H Q =>
  ∃ τ O F μ, Rl K mg ⟨τ, O, F, μ, σ, H⟩ ∧ Post K mg W VR ⟨τ, O, F, μ, σ, H⟩ (f τ O) Q
end
def BV : Cf → Cf → Bool → Bool → Prop := fun _ _ x y => x = y
def UV : Cf → Cf → Unit → Unit → Prop := fun _ _ _ _ => True
def DatV (K : PySem.W.Frag) (mg : Str → Option Value) : Cf → Cf → D → V → Prop := fun _ c d v => Dat K mg c.F c.μ v d
def DatVs (K : PySem.W.Frag) (mg : Str → Option Value) : Cf → Cf → List D → List V → Prop := fun _ c ds vs => DatL K mg c.F c.μ vs ds

section
variable {K : PySem.W.Frag} {mg : Str → Option Value} {W : WX}
theorem post_seq {α β γ δ : Type} {VRa : Cf → Cf → α → β → Prop} {VRc : Cf → Cf → γ → δ → Prop} {f : Mm α} {g : α → Mm γ} {Q : δ → Hp → Prop} {Q' : β → Hp → Prop} {c c1 : Cf}
    (a : Aft K mg c c1) (hσ : c1.σ = c.σ) (h : Post K mg W VRc c ((f >>= g) c1.τ c1.O) Q)
    (k : ∀ x c2 y, Aft K mg c1 c2 → c2.σ = c.σ → VRa c1 c2 x y → Post K mg W VRc c (g x c2.τ c2.O) Q → Q' y c2.H) : tM K mg W VRa f c.σ c1.H Q' := by
  obtain ⟨τ1, O1, F1, μ1, σ1, H1⟩ := c1
  have hσ' : σ1 = c.σ := hσ
  subst hσ'
  refine ⟨τ1, O1, F1, μ1, a.rl, ?_⟩
  rw [bind_app] at h
  cases e : f τ1 O1 with
  | ok x τ2 O2 =>
    rw [e] at h
    exact fun y H2 F2 μ2 a2 v => k x ⟨τ2, O2, F2, μ2, c.σ, H2⟩ y a2 rfl v h
  | ex cl fs τ2 O2 =>
    rw [e] at h
    exact fun C d H2 F2 μ2 a2 hc hd => h C d H2 F2 μ2 (a.trans a2) hc hd
  | bad =>
    rw [e] at h
    exact h.elim
/-- the first of a row -/
theorem post_fst {α β γ δ : Type} {VRa : Cf → Cf → α → β → Prop} {VRc : Cf → Cf → γ → δ → Prop} {f : Mm α} {g : α → Mm γ} {Q : δ → Hp → Prop} {Q' : β → Hp → Prop} {σ : L2.St} {H : Hp}
    (h : tM K mg W VRc (f >>= g) σ H Q)
    (k : ∀ c x c2 y, Rl K mg c → c.σ = σ → c.H = H → Aft K mg c c2 → c2.σ = c.σ → VRa c c2 x y → Post K mg W VRc c (g x c2.τ c2.O) Q → Q' y c2.H) : tM K mg W VRa f σ H Q' := by
  obtain ⟨τ, O, F, μ, r, hp⟩ := h
  exact post_seq (Aft.refl r) rfl hp fun x c2 y a2 hσ v hp2 => k ⟨τ, O, F, μ, σ, H⟩ x c2 y r rfl rfl a2 hσ v hp2
/-- a pure end -/
theorem post_ok {α β : Type} {VR : Cf → Cf → α → β → Prop} {c c1 : Cf} {x : α} {y : β} {Q : β → Hp → Prop} (a : Aft K mg c c1) (hσ : c1.σ = c.σ) (h : Post K mg W VR c ((pure x : Mm α) c1.τ c1.O) Q) (v : VR c c1 x y) : Q y c1.H := by
  obtain ⟨τ1, O1, F1, μ1, σ1, H1⟩ := c1
  have hσ' : σ1 = c.σ := hσ
  subst hσ'
  exact h y H1 F1 μ1 a v
theorem post_bind_pure {α γ δ : Type} {VRc : Cf → Cf → γ → δ → Prop} {x : α} {g : α → Mm γ} {Q : δ → Hp → Prop} {c : Cf} {τ : Sto} {O : Ob} (h : Post K mg W VRc c (((pure x : Mm α) >>= g) τ O) Q) : Post K mg W VRc c (g x τ O) Q := h
theorem PE.imp {X : Cx} {e : Expr} {t t' : TE} (h : PE X e t) (k : ∀ σ H Q, t' σ H Q → t σ H Q) : PE X e t' := ⟨fun pins s σ H Q I q => h.run pins s σ H Q I (k _ _ _ q)⟩
theorem PT.imp {X : Cx} {e : Expr} {t t' : TT} (h : PT X e t) (k : ∀ σ H Q, t' σ H Q → t σ H Q) : PT X e t' := ⟨fun pins s σ H Q I q => h.run pins s σ H Q I (k _ _ _ q)⟩
theorem PW.imp {X : Cx} {e : Expr} {t t' : TT} (h : PW X e t) (k : ∀ σ H Q, t' σ H Q → t σ H Q) : PW X e t' := ⟨fun wh pins s σ H Q I q => h.run wh pins s σ H Q I (k _ _ _ q)⟩
theorem PA.imp {X : Cx} {e : List Expr} {t t' : TA} (h : PA X e t) (k : ∀ σ H Q, t' σ H Q → t σ H Q) : PA X e t' := ⟨fun pos pins s σ H Q I q => h.run pos pins s σ H Q I (k _ _ _ q)⟩
theorem PS.imp {X : Cx} {e : Stmt} {t t' : TS} (h : PS X e t) (k : ∀ D σ H, t' D σ H → t D σ H) : PS X e t' := ⟨fun pins s σ H D I q => h.run pins s σ H D I (k _ _ _ q)⟩
theorem PSs.imp {X : Cx} {e : List Stmt} {t t' : TS} (h : PSs X e t) (k : ∀ D σ H, t' D σ H → t D σ H) : PSs X e t' := ⟨fun pins s σ H D I q => h.run pins s σ H D I (k _ _ _ q)⟩
end

/-! ### the judgements -/
abbrev DE (X : Cx) (W : WX) (e : Expr) (f : Mm Ex) : Prop := PE X e (tM X.K X.mg W (ExV X.K X.mg) f)
abbrev DF (X : Cx) (W : WX) (e : Expr) (f : Mm D) : Prop := PE X e (tM X.K X.mg W (DatV X.K X.mg) f)
abbrev DFs (X : Cx) (W : WX) (es : List Expr) (f : Mm (List D)) : Prop := PA X es (tM X.K X.mg W (DatVs X.K X.mg) f)
abbrev DT (X : Cx) (W : WX) (e : Expr) (f : Mm Bool) : Prop := PT X e (tM X.K X.mg W BV f)
abbrev DW (X : Cx) (W : WX) (e : Expr) (f : Mm Bool) : Prop := PW X e (tM X.K X.mg W BV f)

/-! ### reading, freezing -/
/-- the data of a result, as they are now -/
def rd (x : Ex) : Mm D := match x.k with
  | .slot i => fun τ O => match τ[i]? with
    | some (some (_, d)) => .ok d τ O
    | _ => .bad
  | _ => pure x.d
def frzX (x : Ex) : Mm D := match x.k with
  | .slot i => fun τ O => match τ[i]? with
    | some (some (_, d)) => .ok d (τ.set i (some (false, d))) O
    | _ => .bad
  | _ => pure x.d
section
variable {K : PySem.W.Frag} {mg : Str → Option Value} {W : WX} {c0 c : Cf}
theorem rd_ok {γ δ : Type} {VRc : Cf → Cf → γ → δ → Prop} {g : D → Mm γ} {Q : δ → Hp → Prop} {cc : Cf} {x : Ex} {v : V} (r : Rl K mg c) (hx : ExV K mg c0 c x v) (h : Post K mg W VRc cc ((rd x >>= g) c.τ c.O) Q) :
    ∃ d, Dat K mg c.H c.μ v d ∧ Post K mg W VRc cc (g d c.τ c.O) Q := by
  obtain ⟨k, d⟩ := x
  cases k with
  | frz => exact ⟨d, r.datH hx, h⟩
  | tmp =>
    obtain ⟨a, rfl, hf, ho, _, _⟩ := hx
    exact ⟨d, r.slotH (b := true) ⟨a, rfl, hf, ho⟩, h⟩
  | slot i =>
    have hs : c.σ[i]? = some (some v) := hx
    rw [bind_app] at h
    cases e : c.τ[i]? with
    | none =>
      simp only [rd, e] at h
      exact h.elim
    | some o =>
      cases o with
      | none =>
        simp only [rd, e] at h
        exact h.elim
      | some p =>
        obtain ⟨b, d'⟩ := p
        simp only [rd, e] at h
        obtain ⟨v', e1, e2⟩ := r.sl i b d' e
        rw [hs] at e1
        have e' := Option.some.inj (Option.some.inj e1)
        subst e'
        exact ⟨d', r.slotH e2, h⟩
/-- freezing the object at a -/
def fz (c : Cf) (a : Addr) : Hp := fun b => if b = a then c.H a else c.F b
theorem fz_same {a : Addr} : fz c a a = c.H a := if_pos rfl
theorem fz_ne {a b : Addr} (h : b ≠ a) : fz c a b = c.F b := if_neg h
theorem fz_sub {a : Addr} (h : c.F a = none) : Sub c.F (fz c a) := fun b o e => by
  have hb : b ≠ a := fun z => by rw [z, h] at e; cases e
  rw [fz_ne hb]
  exact e
theorem own_dat {a : Addr} {d : D} (h : c.F a = none) (ho : OwnAt K mg c a d) : Dat K mg (fz c a) c.μ (.ref a) d := by
  have s := fz_sub h
  cases d with
  | lst ds =>
    obtain ⟨vs, h1, h2⟩ := ho
    exact .lst (fz_same.trans h1) (h2.mono s (Pfx.refl _))
  | dct t kvs =>
    rcases ho with ⟨rfl, l, h1, h2⟩ | ⟨rfl, l, h1, h2⟩
    · exact .dctK (.inl (fz_same.trans h1)) (h2.mono s (Pfx.refl _))
    · exact .dctT (.inl (fz_same.trans h1)) (h2.mono s (Pfx.refl _))
  | _ => exact ho.elim
/-- an object that is nobody's is frozen -/
theorem Rl.fzNew (r : Rl K mg c) {a : Addr} (hf : c.F a = none) (hm : ¬ Mine c a) : Rl K mg { c with F := fz c a } where
  sub := fun b o e => by
    by_cases hb : b = a
    · rw [hb] at e ⊢
      have e' : fz c a a = some o := e
      rw [fz_same] at e'
      exact e'
    · have e' : fz c a b = some o := e
      rw [fz_ne hb] at e'
      exact r.sub b o e'
  len := r.len
  sl := fun i b d e => by
    obtain ⟨v, e1, e2⟩ := r.sl i b d e
    refine ⟨v, e1, ?_⟩
    cases b with
    | false => exact Dat.mono (fz_sub hf) (Pfx.refl _) _ _ e2
    | true =>
      obtain ⟨p, rfl, h1, h2⟩ := e2
      have hp : p ≠ a := fun z => hm (.inl ⟨i, d, e, by rw [← z]; exact e1⟩)
      exact ⟨p, rfl, (fz_ne hp).trans h1, h2.keep rfl (fz_sub hf) (Pfx.refl _)⟩
  dj := r.dj
  om := r.om
  ol := r.ol
  nd := r.nd
  ob := fun n p cl fs h1 h2 => by
    obtain ⟨h3, h4⟩ := r.ob n p cl fs h1 h2
    have hp : p ≠ a := fun z => hm (.inr (by rw [← z]; exact List.mem_of_getElem? h1))
    exact ⟨(fz_ne hp).trans h3, h4.keep rfl (fz_sub hf) (Pfx.refl _)⟩
/-- an owned slot becomes a frozen one -/
theorem Rl.fzSlot (r : Rl K mg c) {i : Nat} {d : D} {a : Addr} (ht : c.τ[i]? = some (some (true, d))) (hs : c.σ[i]? = some (some (.ref a))) :
    Rl K mg { c with F := DV.fz c a, τ := c.τ.set i (some (false, d)) } ∧ Dat K mg (DV.fz c a) c.μ (.ref a) d := by
  obtain ⟨v, e1, p, ev, hf, ho⟩ := r.sl i true d ht
  rw [hs] at e1
  have e' := Option.some.inj (Option.some.inj e1)
  rw [ev] at e'
  cases e'
  have hd := own_dat hf ho
  have hil : i < c.τ.length := (List.getElem?_eq_some_iff.mp ht).1
  have hne : ∀ j e, j ≠ i → c.τ[j]? = some (some (true, e)) → c.σ[j]? ≠ some (some (.ref a)) := fun j e hj h => r.dj i j d e a (Ne.symm hj) ht h hs
  have getj : ∀ j, j ≠ i → (c.τ.set i (some (false, d)))[j]? = c.τ[j]? := fun j hj => List.getElem?_set_ne (Ne.symm hj)
  have geti : (c.τ.set i (some (false, d)))[i]? = some (some (false, d)) := List.getElem?_set_self hil
  refine ⟨⟨fun b o e => ?_, by simpa using r.len, fun j b d' e => ?_, fun j k d' e' p' hjk h1 h2 h3 => ?_, fun j d' p' h1 h2 => ?_, r.ol, r.nd, fun n p' cl fs h1 h2 => ?_⟩, hd⟩
  · by_cases hb : b = a
    · rw [hb] at e ⊢
      have e' : DV.fz c a a = some o := e
      rw [fz_same] at e'
      exact e'
    · have e' : DV.fz c a b = some o := e
      rw [fz_ne hb] at e'
      exact r.sub b o e'
  · by_cases hj : j = i
    · subst hj
      have e2 := geti.symm.trans e
      cases e2
      exact ⟨_, hs, hd⟩
    · have e2 := (getj j hj).symm.trans e
      obtain ⟨v2, e3, e4⟩ := r.sl j b d' e2
      refine ⟨v2, e3, ?_⟩
      cases b with
      | false => exact Dat.mono (fz_sub hf) (Pfx.refl _) _ _ e4
      | true =>
        obtain ⟨p2, rfl, h1, h2⟩ := e4
        have hp : p2 ≠ a := fun z => hne j d' hj e2 (by rw [← z]; exact e3)
        exact ⟨p2, rfl, (fz_ne hp).trans h1, h2.keep rfl (fz_sub hf) (Pfx.refl _)⟩
  · by_cases hj : j = i
    · subst hj
      have e2 := geti.symm.trans h1
      cases e2
    · by_cases hk : k = i
      · subst hk
        have e2 := geti.symm.trans h2
        cases e2
      · exact r.dj j k d' e' p' hjk ((getj j hj).symm.trans h1) ((getj k hk).symm.trans h2) h3
  · by_cases hj : j = i
    · subst hj
      have e2 := geti.symm.trans h1
      cases e2
    · exact r.om j d' p' ((getj j hj).symm.trans h1) h2
  · obtain ⟨h3, h4⟩ := r.ob n p' cl fs h1 h2
    have hp : p' ≠ a := fun z => r.om i d a ht hs (by rw [← z]; exact List.mem_of_getElem? h1)
    exact ⟨(fz_ne hp).trans h3, h4.keep rfl (fz_sub hf) (Pfx.refl _)⟩
/-- a result is frozen -/
theorem frz_cf {x : Ex} {v : V} {d : D} {τ' : Sto} {O' : Ob} (a0 : Aft K mg c0 c) (hx : ExV K mg c0 c x v) (e : frzX x c.τ c.O = .ok d τ' O') :
    O' = c.O ∧ ∃ F', Aft K mg c0 ⟨τ', O', F', c.μ, c.σ, c.H⟩ ∧ Dat K mg F' c.μ v d := by
  obtain ⟨k, d0⟩ := x
  cases k with
  | frz =>
    cases e
    exact ⟨rfl, c.F, a0, hx⟩
  | tmp =>
    cases e
    obtain ⟨p, rfl, hf, ho, hm, h0⟩ := hx
    refine ⟨rfl, fz c p, ⟨a0.rl.fzNew hf hm, fun b o h n => ?_, fun b m => a0.mi b m, a0.mu, a0.tr⟩, own_dat hf ho⟩
    obtain ⟨e1, e2⟩ := a0.fr b o h n
    have hb : b ≠ p := fun z => by rw [z, h0] at h; cases h
    exact ⟨e1, (fz_ne hb).trans e2⟩
  | slot i =>
    have hs : c.σ[i]? = some (some v) := hx
    cases q : c.τ[i]? with
    | none =>
      simp only [frzX, q] at e
      cases e
    | some o =>
      cases o with
      | none =>
        simp only [frzX, q] at e
        cases e
      | some w =>
        obtain ⟨b, d'⟩ := w
        simp only [frzX, q] at e
        cases e
        refine ⟨rfl, ?_⟩
        obtain ⟨v', e1, e2⟩ := a0.rl.sl i b d q
        rw [hs] at e1
        have e' := Option.some.inj (Option.some.inj e1)
        subst e'
        cases b with
        | false =>
          have he : c.τ.set i (some (false, d)) = c.τ := by
            apply List.ext_getElem?
            intro j
            by_cases hj : j = i
            · subst hj
              rw [List.getElem?_set_self (List.getElem?_eq_some_iff.mp q).1, q]
            · rw [List.getElem?_set_ne (Ne.symm hj)]
          rw [he]
          exact ⟨c.F, a0, e2⟩
        | true =>
          obtain ⟨p, rfl, hf, ho⟩ := e2
          obtain ⟨r', hd⟩ := a0.rl.fzSlot q hs
          have getj : ∀ j, j ≠ i → (c.τ.set i (some (false, d)))[j]? = c.τ[j]? := fun j hj => List.getElem?_set_ne (Ne.symm hj)
          refine ⟨fz c p, ⟨r', fun b o h n => ?_, fun b m => ?_, a0.mu, a0.tr⟩, hd⟩
          · obtain ⟨e1, e2⟩ := a0.fr b o h n
            have hb : b ≠ p := fun z => by
              rcases a0.mi p (.inl ⟨i, d, q, hs⟩) with z2 | z2
              · exact n (by rw [z]; exact z2)
              · rw [z, z2] at h; cases h
            exact ⟨e1, (fz_ne hb).trans e2⟩
          · refine a0.mi b ?_
            rcases m with ⟨j, d', h1, h2⟩ | m
            · by_cases hj : j = i
              · subst hj
                have e2 := (List.getElem?_set_self (List.getElem?_eq_some_iff.mp q).1).symm.trans h1
                cases e2
              · exact .inl ⟨j, d', (getj j hj).symm.trans h1, h2⟩
            · exact .inr m
theorem frz_ok {γ δ : Type} {VRc : Cf → Cf → γ → δ → Prop} {g : D → Mm γ} {Q : δ → Hp → Prop} {cc : Cf} {x : Ex} {v : V} (a0 : Aft K mg c0 c) (hx : ExV K mg c0 c x v) (h : Post K mg W VRc cc ((frzX x >>= g) c.τ c.O) Q) :
    ∃ d c', Aft K mg c0 c' ∧ c'.σ = c.σ ∧ c'.H = c.H ∧ Dat K mg c'.F c'.μ v d ∧ Post K mg W VRc cc (g d c'.τ c'.O) Q := by
  rw [bind_app] at h
  cases e : frzX x c.τ c.O with
  | ok d τ' O' =>
    rw [e] at h
    obtain ⟨eO, F', a', hd⟩ := frz_cf a0 hx e
    exact ⟨d, ⟨τ', O', F', c.μ, c.σ, c.H⟩, a', rfl, rfl, hd, h⟩
  | ex cl fs τ' O' =>
    obtain ⟨k, d0⟩ := x
    cases k with
    | slot i =>
      simp only [frzX] at e
      split at e <;> cases e
    | _ => cases e
  | bad =>
    rw [e] at h
    exact h.elim
end

section
variable {X : Cx} {W : WX}
theorem DF.of {e : Expr} {f : Mm Ex} (h : DE X W e f) : DF X W e (f >>= frzX) :=
  PE.imp h fun σ H Q q => post_fst (g := fun x => frzX x) q fun c x c2 y r hσ hH a2 hσ2 v hp => by
    have hp' : Post X.K X.mg W (DatV X.K X.mg) c ((frzX x >>= fun d => pure d) c2.τ c2.O) Q := by
      have e : (frzX x >>= fun d => (pure d : Mm D)) = frzX x := by
        funext τ O
        rw [bind_app]
        cases frzX x τ O <;> rfl
      rw [e]
      exact hp
    obtain ⟨d, c3, a3, e1, e2, hd, hp3⟩ := frz_ok a2 v hp'
    rw [← e2]
    exact post_ok a3 (e1.trans hσ2) hp3 hd
end
end DV
namespace DV
open PySem PySem.Spec PyProof.Rows L2

/-! ### results of several arguments -/
inductive ExVs (K : PySem.W.Frag) (mg : Str → Option Value) (c0 c : Cf) : List Ex → List V → Prop
  | nil : ExVs K mg c0 c [] []
  | cons {x : Ex} {v : V} {xs : List Ex} {vs : List V} : ExV K mg c0 c x v → ExVs K mg c0 c xs vs →
      (∀ a, x.k = .tmp → v = .ref a → ∀ (j : Nat) (y : Ex), xs[j]? = some y → y.k = .tmp → vs[j]? ≠ some (.ref a)) → ExVs K mg c0 c (x :: xs) (v :: vs)
section
variable {K : PySem.W.Frag} {mg : Str → Option Value} {c0 c c1 : Cf}
theorem ExVs.from : ∀ {xs : List Ex} {vs : List V}, ExVs K mg c c1 xs vs → Aft K mg c0 c → ExVs K mg c0 c1 xs vs
  | _, _, .nil, _ => .nil
  | _, _, .cons h t n, a => .cons (h.from a) (t.from a) n
theorem ExVs.length : ∀ {xs : List Ex} {vs : List V}, ExVs K mg c c1 xs vs → xs.length = vs.length
  | _, _, .nil => rfl
  | _, _, .cons _ t _ => congrArg (· + 1) t.length
theorem ExVs.get : ∀ {xs : List Ex} {vs : List V} {i : Nat} {x : Ex}, ExVs K mg c0 c xs vs → xs[i]? = some x → ∃ v, vs[i]? = some v ∧ ExV K mg c0 c x v
  | _, _, i, x, .nil, e => by simp at e
  | _, _, 0, x, .cons h t _, e => by
    have e' := Option.some.inj e
    subst e'
    exact ⟨_, rfl, h⟩
  | _, _, i + 1, x, .cons h t _, e => ExVs.get (i := i) t e
/-- a new one behind another new one lies elsewhere -/
theorem ExVs.apart {x : Ex} {v : V} {xs : List Ex} {vs : List V} (h : ExV K mg c0 c x v) (t : ExVs K mg c c1 xs vs) : ∀ a, x.k = .tmp → v = .ref a → ∀ (j : Nat) (y : Ex), xs[j]? = some y → y.k = .tmp → vs[j]? ≠ some (.ref a) := fun a hk hv j y hy hyk hj => by
  obtain ⟨k, d⟩ := x
  cases hk
  obtain ⟨p, e, hf, ho, _, _⟩ := h
  rw [hv] at e
  cases e
  obtain ⟨o, he⟩ : ∃ o, c.H a = some o := by
    cases d with
    | lst ds => obtain ⟨vs, h1, _⟩ := ho; exact ⟨_, h1⟩
    | dct t kvs =>
      rcases ho with ⟨_, l, h1, _⟩ | ⟨_, l, h1, _⟩
      · exact ⟨_, h1⟩
      · exact ⟨_, h1⟩
    | _ => exact ho.elim
  obtain ⟨w, hw, hx⟩ := t.get hy
  rw [hj] at hw
  cases hw
  obtain ⟨k', d'⟩ := y
  cases hyk
  obtain ⟨q, e, _, _, _, h0⟩ := hx
  cases e
  rw [he] at h0
  cases h0
end
abbrev DAs (X : Cx) (W : WX) (es : List Expr) (f : Mm (List Ex)) : Prop := PA X es (tM X.K X.mg W (ExVs X.K X.mg) f)
section
variable {X : Cx} {W : WX}
theorem das_nil : DAs X W [] (pure []) := PA.imp pa_nil fun σ H Q ⟨τ, O, F, μ, r, h⟩ => h [] H F μ (Aft.refl r) .nil
theorem das_cons {e : Expr} {es : List Expr} {f : Mm Ex} {g : Mm (List Ex)} (ha : DE X W e f) (hr : DAs X W es g) (hs : starEach (e :: es) X.env = (false, eval e X.env) :: starEach es X.env := by rfl) :
    DAs X W (e :: es) (f >>= fun x => g >>= fun xs => pure (x :: xs)) := by
  refine PA.imp (pa_cons ha hr hs) fun σ H Q q => ?_
  refine post_fst q fun c x c2 y r hσ hH a2 hσ2 v hp => ?_
  rw [← hσ]
  refine post_seq a2 hσ2 hp fun xs c3 ys a3 hσ3 vs hp3 => ?_
  exact post_ok (a2.trans a3) hσ3 hp3 (.cons (ExV.aft a2.rl v a3 (hσ3.trans hσ2.symm)) (vs.from a2) (ExVs.apart v vs))
/-- an argument that is frozen -/
theorem das_consF {e : Expr} {es : List Expr} {f : Mm D} {g : Mm (List Ex)} (ha : DF X W e f) (hr : DAs X W es g) (hs : starEach (e :: es) X.env = (false, eval e X.env) :: starEach es X.env := by rfl) :
    DAs X W (e :: es) (f >>= fun x => g >>= fun xs => pure (⟨.frz, x⟩ :: xs)) := by
  refine PA.imp (pa_cons ha hr hs) fun σ H Q q => ?_
  refine post_fst q fun c x c2 y r hσ hH a2 hσ2 v hp => ?_
  rw [← hσ]
  refine post_seq a2 hσ2 hp fun xs c3 ys a3 hσ3 vs hp3 => ?_
  exact post_ok (a2.trans a3) hσ3 hp3 (.cons (x := ⟨.frz, x⟩) (Dat.mono (a3.subF a2.rl) a3.mu _ _ v) (vs.from a2) (fun _ z => by cases z))
theorem dfs_nil : DFs X W [] (pure []) := PA.imp pa_nil fun σ H Q ⟨τ, O, F, μ, r, h⟩ => h [] H F μ (Aft.refl r) .nil
theorem dfs_cons {e : Expr} {es : List Expr} {f : Mm D} {g : Mm (List D)} (ha : DF X W e f) (hr : DFs X W es g) (hs : starEach (e :: es) X.env = (false, eval e X.env) :: starEach es X.env := by rfl) :
    DFs X W (e :: es) (f >>= fun x => g >>= fun xs => pure (x :: xs)) := by
  refine PA.imp (pa_cons ha hr hs) fun σ H Q q => ?_
  refine post_fst q fun c x c2 y r hσ hH a2 hσ2 v hp => ?_
  rw [← hσ]
  refine post_seq a2 hσ2 hp fun xs c3 ys a3 hσ3 vs hp3 => ?_
  exact post_ok (a2.trans a3) hσ3 hp3 (.cons (Dat.mono (a3.subF a2.rl) a3.mu _ _ v) vs)
end

/-! ### what a def does, as a plain function -/
inductive Out where
  | ret (own : Bool) (d io : D) (O : Ob)
  | exc (c : Str) (fs : List (Str × D)) (io : D) (O : Ob)
  | bad
/-- ar: how many arguments; io: the place of the one that it may change -/
structure Mir where
  ar : Nat
  io : Option Nat := none
  fn : List D → Ob → Out
def argS (io : Option Nat) (ds : List D) : Sto := ds.mapIdx fun i d => some (decide (io = some i), d)
def setIo (io : Option Nat) (ds : List D) (d : D) : List D := match io with
  | some j => ds.set j d
  | none => ds
def rEx (own : Bool) (d : D) : Ex := ⟨if own then .tmp else .frz, d⟩
def spM (K : PySem.W.Frag) (mg : Str → Option Value) (m : Mir) : Sp := fun vs H Q E => vs.length = m.ar ∧ ∃ ds O F μ,
  Rl K mg ⟨argS m.io ds, O, F, μ, vs.map some, H⟩ ∧
  match m.fn ds O with
  | .ret own d d' O' => ∀ v H' F' μ', Aft K mg ⟨argS m.io ds, O, F, μ, vs.map some, H⟩ ⟨argS m.io (setIo m.io ds d'), O', F', μ', vs.map some, H'⟩ →
      ExV K mg ⟨argS m.io ds, O, F, μ, vs.map some, H⟩ ⟨argS m.io (setIo m.io ds d'), O', F', μ', vs.map some, H'⟩ (rEx own d) v → Q v H'
  | .exc cl fs d' O' => ∀ C dd H' F' μ', Aft K mg ⟨argS m.io ds, O, F, μ, vs.map some, H⟩ ⟨argS m.io (setIo m.io ds d'), O', F', μ', vs.map some, H'⟩ →
      mg cl = some (.ref C) → Exd K mg ⟨argS m.io (setIo m.io ds d'), O', F', μ', vs.map some, H'⟩ dd fs → E (.ref C) dd H'
  | .bad => False

/-! ### a def's promise where nothing is being shown (guards) -/
structure FnG (P : Program) (w : World) (K : PySem.W.Frag) (mg : Str → Option Value) (base : Heap) (k : Nat) (f : Addr) (fd : FuncData) (ps : List Str) (sp : Sp) : Prop where
  len : ∀ vs H Q E, sp vs H Q E → vs.length = ps.length
  run : ∀ (A : Around) (outer : List Env) (s : Shared) (H : Hp) (args : Args) (us : List Value) (vs : List V) (Q : VK) (E : XK),
    Room k A → A.guards = some [] → Env0 P w K mg base A outer s H → BindsTo s fd args (ps.zip us) → Vals vs us → sp vs H Q E →
      codeAny (model P w) A (.call (.ref f) args) (CR (L2.CX P w) outer P w H s Q E) s
section
variable {P : Program} {w : World} {K : PySem.W.Frag} {mg : Str → Option Value} {base : Heap} {j k : Nat} {f : Addr} {fd : FuncData} {ps : List Str} {sp : Sp}
theorem FnG.mono (G : FnG P w K mg base j f fd ps sp) (h : j ≤ k) : FnG P w K mg base k f fd ps sp :=
  ⟨G.len, fun A outer s H args us vs Q E hr => G.run A outer s H args us vs Q E (hr.mono h)⟩
theorem FnG.of (G : FnOk P w K mg base (L2.CX P w) k f fd ps sp) : FnG P w K mg base k f fd ps sp :=
  ⟨G.len, fun A outer s H args us vs Q E hr _ => G.run A outer s H args us vs Q E hr⟩
/-- a def by its body -/
theorem fn_body {x qual : Str} {st : Stmt} {N : List Str} {dvs : List V} {kws : List (Str × V)} (Fu : FunD K x qual (defArgs st) (defBody st) (defScope st) dvs kws f fd) (S : FnScope N ps (defScope st)) (len : ∀ vs H Q E, sp vs H Q E → vs.length = ps.length)
    (body : ∀ (cdv : Value) (A : Around) (outer : List Env) (s : Shared) (H : Hp) (vs : List V) (Q : VK) (E : XK), Room k (A.deeper (envOfC qual (defScope st) s.heap.objs.size f cdv)) → A.guards = some [] → sp vs H Q E →
      ∃ t, PSs (cxOf (L2.CX P w) P w K mg base N qual (defScope st) f cdv A outer s H E) (defBody st) t ∧ t { nx := fun _ H' => Q .non H', rt := Q } (start N vs) H) :
    FnG P w K mg base (k + 1) f fd ps sp := by
  obtain ⟨oc, od, dV, kV, doc, pm, an, cdv, ct, osl, rfl, lk, hcd, _, _⟩ := Fu.ex
  refine ⟨len, fun A outer s H args us vs Q E hr hg e0 hb r hsp => ?_⟩
  have hl : vs.length = ps.length := len vs H Q E hsp
  have old : ∀ b o, base.get? b = some o → s.heap.get? b = some o := fun b o z => (e0.bs b o z).1
  have KX : K.In s.heap := e0.mod.kin.keeps old
  have lim : s.heap.NoLimit := e0.mod.nolimit.keeps old
  refine codeAny_call_function hr.depth (KX f _ lk) rfl S.co S.gen rfl (PySem.W.codeRec_of KX hcd) (hb _ _ _ _ ?_)
  refine wpAny_newFunctionEnv_cells S.kind (fun y hy => ?_) fun env he s1 z => ?_
  · obtain ⟨n, v⟩ := y
    rcases S.par n (List.of_mem_zip hy).1 with q | q
    · exact Or.inl q
    · exact Or.inr ⟨q, PySem.W.cellsFrom_some _ _ _ (Or.inl q)⟩
  subst he
  refine ⟨lim.keeps z.toInCall.keep, codeAny_func ?_⟩
  obtain ⟨t, ht, hq⟩ := body cdv A outer s H vs Q E (hr.deeper _) hg hsp
  have I := inv_start (CX := L2.CX P w) (E := E) S hr.hd e0 hl r z
  refine wpAny_mono (ht.run [] s1 (start N vs) H _ I hq) (fun fl s' hs => ?_) (fun _ _ hs => hs)
  cases fl with
  | ret u =>
    obtain ⟨v, σ', H', J, rv, q⟩ := hs
    exact ⟨v, H', J.os, J.bare, J.base, J.hok, rv, q⟩
  | next =>
    obtain ⟨σ', H', J, q⟩ := hs
    exact ⟨V.non, H', J.os, J.bare, J.base, J.hok, rfl, q⟩
  | brk => obtain ⟨_, _, _, q⟩ := hs; exact q.elim
  | cont => obtain ⟨_, _, _, q⟩ := hs; exact q.elim
end

section
variable {X : Cx} {W : WX} {k : Nat} {f C : Addr} {fd : FuncData} {ps : List Str} {sp : Sp} {ds : List Value} {dvs : List V}
/-- the callee runs -/
theorem runG {pins : List (Addr × Obj)} {σ : L2.St} {H : Hp} {s : Shared} {Q : VK} {us : List Value} {vs : List V} (G : FnG X.prog X.w X.K X.mg X.base k f fd ps sp) (hr : Room k X.A) (hg : X.A.guards = some [])
    (hb : Binds X.K fd ps ds) (hd : Vals dvs ds) (tk : Takes X W) (I : Inv X pins σ H s) (r : Vals vs us) (h : sp (vs ++ dvs) H Q (WE W σ)) : wpAny (model X.prog X.w) X.A (call (.ref f) us) (EP X pins σ Q) X.xe s := by
  have r2 := r.append hd
  have hl : (us ++ ds).length = ps.length := r2.length.symm.trans (G.len _ _ _ _ h)
  refine wpAny_call (codeAny_mono (G.run X.A X.stack s H ⟨us, []⟩ _ _ Q _ hr hg I.env0 (hb s us I.kIn hl) r2 h) fun res s' hq => ?_)
  match res, hq with
  | .error e, hq => exact passAt tk σ pins H s e s' I hq
  | .ok (.ret u), hq => exact I.after hq
  | .ok .next, hq => exact hq.elim
  | .ok .brk, hq => exact hq.elim
  | .ok .cont, hq => exact hq.elim
/-- f(e, ..): its promise sp (the defaults' values dvs behind the written ones) -/
def tCl (sp : Sp) (dvs : List V) (W : WX) (t : TA) : TE := fun σ H Q => t σ H fun vs H1 => sp (vs ++ dvs) H1 Q (WE W σ)
theorem pe_cl {x : Str} {p pos : Pos} {e : Expr} {es : List Expr} {t : TA} (G : FnG X.prog X.w X.K X.mg X.base k f fd ps sp) (hr : Room k X.A) (hgd : X.A.guards = some []) (hg : Gl X x) (hm : X.mg x = some (.ref f))
    (hk : PySem.W.keepIn X.K (.ref f) = true) (hb : Binds X.K fd ps ds) (hd : Vals dvs ds) (tk : Takes X W) (ha : PA X (e :: es) t) (hdb : (x == ("__debug__" : Str)) = false)
    (he : starEach (e :: es) X.env = (false, eval e X.env) :: starEach es X.env) (hpl : (backTo pos (starEach es X.env)).any (·.1) = false) :
    PE X (.Call (.Name x p) (e :: es) [] pos) (tCl sp dvs W t) :=
  ⟨fun pins s σ H Q I h => wpAny_Call_Name_kw (ld_glob I hg hm (PySem.W.callWith_K (h₀ := X.base) I.ok.mod.kin hk
    (thn (ha.run pos pins s σ H _ I h) fun us s1 ⟨vs, H1, I1, r, q⟩ => ⟨I1.kIn, runG G hr hgd hb hd tk I1 r q⟩) he hpl) hdb)⟩
theorem pe_cl0 {x : Str} {p pos : Pos} (G : FnG X.prog X.w X.K X.mg X.base k f fd ps sp) (hr : Room k X.A) (hgd : X.A.guards = some []) (hg : Gl X x) (hm : X.mg x = some (.ref f))
    (hk : PySem.W.keepIn X.K (.ref f) = true) (hb : Binds X.K fd ps ds) (hd : Vals dvs ds) (tk : Takes X W) (hdb : (x == ("__debug__" : Str)) = false) : PE X (.Call (.Name x p) [] [] pos) (tCl sp dvs W tNil) :=
  ⟨fun pins s σ H Q I h => wpAny_Call_Name_kw (ld_glob I hg hm (PySem.W.callWith_K0 I.kIn hk (runG (us := []) G hr hgd hb hd tk I .nil h)) hdb)⟩
end

/-! ### the call in a store -/
/-- which arguments are given: all frozen but the one at io -/
def frzAll (io : Option Nat) : Nat → List Ex → Bool
  | _, [] => true
  | i, x :: xs => (decide (io = some i) || (match x.k with | .frz => true | _ => false)) && frzAll io (i + 1) xs
def callM (m : Mir) (xs : List Ex) : Mm Ex := fun τ O =>
  if frzAll m.io 0 xs then
    match m.io with
    | none => (match m.fn (xs.map (·.d)) O with
      | .ret own d _ O' => .ok (rEx own d) τ O'
      | .exc c fs _ O' => .ex c fs τ O'
      | .bad => .bad)
    | some j => (match xs[j]? with
      | some ⟨.slot i, _⟩ => (match τ[i]? with
        | some (some (true, dj)) => (match m.fn ((xs.map (·.d)).set j dj) O with
          | .ret own d d' O' => .ok (rEx own d) (τ.set i (some (true, d'))) O'
          | .exc c fs d' O' => .ex c fs (τ.set i (some (true, d'))) O'
          | .bad => .bad)
        | _ => .bad)
      | some ⟨.tmp, dj⟩ => (match m.fn (xs.map (·.d)) O with
          | .ret own d _ O' => .ok (rEx own d) τ O'
          | .exc c fs _ O' => .ex c fs τ O'
          | .bad => .bad)
      | _ => .bad)
  else .bad
theorem argS_get {io : Option Nat} {ds : List D} {i : Nat} : (argS io ds)[i]? = (ds[i]?).map fun d => some (decide (io = some i), d) := by
  unfold argS
  rw [List.getElem?_mapIdx]
theorem argS_len {io : Option Nat} {ds : List D} : (argS io ds).length = ds.length := by simp [argS]
end DV
namespace DV
open PySem PySem.Spec PyProof.Rows L2
section
variable {K : PySem.W.Frag} {mg : Str → Option Value} {W : WX} {c0 c : Cf}
theorem mine_none {ds : List D} {O : Ob} {F : Hp} {μ : List Addr} {σ : L2.St} {H : Hp} {b : Addr} (h : Mine ⟨argS none ds, O, F, μ, σ, H⟩ b) : b ∈ μ := by
  rcases h with ⟨i, d, h1, h2⟩ | h
  · have h1' : (argS none ds)[i]? = some (some (true, d)) := h1
    rw [argS_get] at h1'
    cases e : ds[i]? with
    | none => rw [e] at h1'; cases h1'
    | some x => rw [e] at h1'; simp at h1'
  · exact h
/-- behind a call that changed none of the caller's own -/
theorem lift_none {ds ds' : List D} {σ σ' : L2.St} {O' : Ob} {F' H' : Hp} {μ' : List Addr} (r : Rl K mg c)
    (a : Aft K mg ⟨argS none ds, c.O, c.F, c.μ, σ, c.H⟩ ⟨argS none ds', O', F', μ', σ', H'⟩) : Aft K mg c ⟨c.τ, O', F', μ', c.σ, H'⟩ := by
  have r' := a.rl
  have keepM : ∀ b o, c.H b = some o → b ∉ c.μ → H' b = some o ∧ F' b = c.F b := fun b o h n => a.fr b o h fun m => n (mine_none m)
  have sF : Sub c.F F' := fun b o h => by
    have n : b ∉ c.μ := fun m => by
      have := r.mineF (a := b) (.inr m)
      rw [this] at h; cases h
    rw [(keepM b o (r.sub b o h) n).2]
    exact h
  refine ⟨⟨r'.sub, r.len, fun i b d e => ?_, r.dj, fun i d p e1 e2 => ?_, r'.ol, r'.nd, r'.ob⟩, fun b o h n => keepM b o h fun m => n (.inr m), fun b m => ?_, a.mu, a.tr⟩
  · obtain ⟨v, e1, e2⟩ := r.sl i b d e
    refine ⟨v, e1, ?_⟩
    cases b with
    | false => exact Dat.mono sF a.mu _ _ e2
    | true =>
      obtain ⟨p, rfl, hf, ho⟩ := e2
      obtain ⟨o, ho'⟩ := ho.some
      obtain ⟨k1, k2⟩ := keepM p o ho' (r.om i d p e e1)
      exact ⟨p, rfl, k2.trans hf, ho.keep (k1.trans ho'.symm) sF a.mu⟩
  · obtain ⟨v, e3, e4⟩ := r.sl i true d e1
    have e2' : c.σ[i]? = some (some (.ref p)) := e2
    rw [e2'] at e3
    have e' := Option.some.inj (Option.some.inj e3)
    subst e'
    obtain ⟨q, eq, hf, ho⟩ := e4
    cases eq
    obtain ⟨o, ho'⟩ := ho.some
    intro m
    rcases a.mi p (.inr m) with z | z
    · exact r.om i d p e1 e2' (mine_none z)
    · have z' : c.H p = none := z
      rw [ho'] at z'; cases z'
  · rcases m with ⟨i, d, h1, h2⟩ | m
    · exact .inl (.inl ⟨i, d, h1, h2⟩)
    · rcases a.mi b (.inr m) with z | z
      · exact .inl (.inr (mine_none z))
      · exact .inr z
theorem mine_some {ds : List D} {O : Ob} {F : Hp} {μ : List Addr} {vs : List V} {H : Hp} {b p : Addr} {j : Nat} (hp : vs[j]? = some (.ref p)) (h : Mine ⟨argS (some j) ds, O, F, μ, vs.map some, H⟩ b) : b = p ∨ b ∈ μ := by
  rcases h with ⟨i, d, h1, h2⟩ | h
  · have h1' : (argS (some j) ds)[i]? = some (some (true, d)) := h1
    have h2' : (vs.map some)[i]? = some (some (.ref b)) := h2
    rw [argS_get] at h1'
    cases e : ds[i]? with
    | none => rw [e] at h1'; cases h1'
    | some x =>
      rw [e] at h1'
      have ij : j = i := by
        have := congrArg (fun z => (z.getD none).map (·.1)) h1'
        simpa using this
      subst ij
      rw [List.getElem?_map, hp] at h2'
      left
      cases h2'
      rfl
  · exact .inr h
/-- behind a call that was lent the owned slot i (at p) -/
theorem lift_slot {ds ds' : List D} {vs : List V} {O' : Ob} {F' H' : Hp} {μ' : List Addr} {i j : Nat} {dj d' : D} {p : Addr} (r : Rl K mg c)
    (ht : c.τ[i]? = some (some (true, dj))) (hs : c.σ[i]? = some (some (.ref p))) (hp : vs[j]? = some (.ref p)) (hd : ds'[j]? = some d')
    (a : Aft K mg ⟨argS (some j) ds, c.O, c.F, c.μ, vs.map some, c.H⟩ ⟨argS (some j) ds', O', F', μ', vs.map some, H'⟩) :
    Aft K mg c ⟨c.τ.set i (some (true, d')), O', F', μ', c.σ, H'⟩ := by
  have r' := a.rl
  have il : i < c.τ.length := (List.getElem?_eq_some_iff.mp ht).1
  have geti : (c.τ.set i (some (true, d')))[i]? = some (some (true, d')) := List.getElem?_set_self il
  have getn : ∀ n : Nat, n ≠ i → (c.τ.set i (some (true, d')))[n]? = c.τ[n]? := fun n hn => List.getElem?_set_ne (Ne.symm hn)
  have keepM : ∀ b o, c.H b = some o → b ≠ p → b ∉ c.μ → H' b = some o ∧ F' b = c.F b := fun b o h np n => a.fr b o h fun m => (mine_some hp m).elim np n
  have sF : Sub c.F F' := fun b o h => by
    have n : b ∉ c.μ := fun m => by
      have := r.mineF (a := b) (.inr m)
      rw [this] at h; cases h
    have np : b ≠ p := fun z => by
      have := r.mineF (a := p) (.inl ⟨i, dj, ht, hs⟩)
      rw [z, this] at h; cases h
    rw [(keepM b o (r.sub b o h) np n).2]
    exact h
  have here : (argS (some j) ds')[j]? = some (some (true, d')) := by
    rw [argS_get, hd]
    simp
  obtain ⟨v, e1, e2⟩ := r'.sl j true d' here
  have e1' : (vs.map some)[j]? = some (some v) := e1
  rw [List.getElem?_map, hp] at e1'
  have ev := Option.some.inj (Option.some.inj e1')
  subst ev
  obtain ⟨q, eq, hf, ho⟩ := e2
  cases eq
  have hnp : p ∉ μ' := r'.om j d' p here (by show (vs.map some)[j]? = _; rw [List.getElem?_map, hp]; rfl)
  refine ⟨⟨r'.sub, by simpa using r.len, fun n b d e => ?_, fun n m d e q hnm h1 h2 h3 => ?_, fun n d q h1 h2 => ?_, r'.ol, r'.nd, r'.ob⟩, fun b o h n => keepM b o h (fun z => n (z ▸ .inl ⟨i, dj, ht, hs⟩)) fun m => n (.inr m), fun b m => ?_, a.mu, a.tr⟩
  · have e' : (c.τ.set i (some (true, d')))[n]? = some (some (b, d)) := e
    by_cases hn : n = i
    · subst hn
      rw [geti] at e'
      cases e'
      exact ⟨_, hs, p, rfl, hf, ho⟩
    · rw [getn n hn] at e'
      obtain ⟨v, e3, e4⟩ := r.sl n b d e'
      refine ⟨v, e3, ?_⟩
      cases b with
      | false => exact Dat.mono sF a.mu _ _ e4
      | true =>
        obtain ⟨q, rfl, hf', ho'⟩ := e4
        obtain ⟨o, hq⟩ := ho'.some
        have nq : q ≠ p := fun z => r.dj n i d dj p hn e' ht (by rw [← z]; exact e3) hs
        obtain ⟨k1, k2⟩ := keepM q o hq nq (r.om n d q e' e3)
        exact ⟨q, rfl, k2.trans hf', ho'.keep (k1.trans hq.symm) sF a.mu⟩
  · have w : ∀ (x : Nat) (y : D), (c.τ.set i (some (true, d')))[x]? = some (some (true, y)) → ∃ z, c.τ[x]? = some (some (true, z)) := fun x y hx => by
      by_cases hxi : x = i
      · subst hxi
        exact ⟨dj, ht⟩
      · rw [getn x hxi] at hx
        exact ⟨y, hx⟩
    obtain ⟨z1, w1⟩ := w n d h1
    obtain ⟨z2, w2⟩ := w m e h2
    exact r.dj n m z1 z2 q hnm w1 w2 h3
  · have h1' : (c.τ.set i (some (true, d')))[n]? = some (some (true, d)) := h1
    have h2' : c.σ[n]? = some (some (.ref q)) := h2
    by_cases hn : n = i
    · subst hn
      rw [hs] at h2'
      cases h2'
      exact hnp
    · rw [getn n hn] at h1'
      intro mq
      obtain ⟨v, e3, e4⟩ := r.sl n true d h1'
      rw [h2'] at e3
      have e' := Option.some.inj (Option.some.inj e3)
      subst e'
      obtain ⟨q2, eq, hf', ho'⟩ := e4
      cases eq
      obtain ⟨o, hq⟩ := ho'.some
      rcases a.mi q (.inr mq) with z | z
      · rcases mine_some hp z with z | z
        · exact r.dj n i d dj q hn h1' ht h2' (by rw [z]; exact hs)
        · exact r.om n d q h1' h2' z
      · have z' : c.H q = none := z
        rw [hq] at z'; cases z'
  · rcases m with ⟨n, d, h1, h2⟩ | m
    · have h1' : (c.τ.set i (some (true, d')))[n]? = some (some (true, d)) := h1
      by_cases hn : n = i
      · subst hn
        exact .inl (.inl ⟨n, dj, ht, h2⟩)
      · rw [getn n hn] at h1'
        exact .inl (.inl ⟨n, d, h1', h2⟩)
    · rcases a.mi b (.inr m) with z | z
      · rcases mine_some hp z with z | z
        · exact .inl (.inl ⟨i, dj, ht, by rw [z]; exact hs⟩)
        · exact .inl (.inr z)
      · exact .inr z
/-- behind a call that was lent a thing of nobody's (at p) -/
theorem lift_tmp {ds ds' : List D} {vs : List V} {O' : Ob} {F' H' : Hp} {μ' : List Addr} {j : Nat} {d' : D} {p : Addr} (r : Rl K mg c) (a0 : Aft K mg c0 c) (h0 : c0.H p = none) (hm : ¬ Mine c p) (hfp : c.F p = none)
    (hp : vs[j]? = some (.ref p)) (hd : ds'[j]? = some d')
    (a : Aft K mg ⟨argS (some j) ds, c.O, c.F, c.μ, vs.map some, c.H⟩ ⟨argS (some j) ds', O', F', μ', vs.map some, H'⟩) :
    Aft K mg c0 ⟨c.τ, O', F', μ', c.σ, H'⟩ := by
  have r' := a.rl
  have keepM : ∀ b o, c.H b = some o → b ≠ p → b ∉ c.μ → H' b = some o ∧ F' b = c.F b := fun b o h np n => a.fr b o h fun m => (mine_some hp m).elim np n
  have sF : Sub c.F F' := fun b o h => by
    have n : b ∉ c.μ := fun m => by
      have := r.mineF (a := b) (.inr m)
      rw [this] at h; cases h
    have np : b ≠ p := fun z => by rw [z, hfp] at h; cases h
    rw [(keepM b o (r.sub b o h) np n).2]
    exact h
  have neP : ∀ (n : Nat) (d : D) (q : Addr), c.τ[n]? = some (some (true, d)) → c.σ[n]? = some (some (V.ref q)) → q ≠ p := fun n d q h1 h2 z => hm (.inl ⟨n, d, h1, by rw [← z]; exact h2⟩)
  have ownS : ∀ (n : Nat) (d : D) (q : Addr), c.τ[n]? = some (some (true, d)) → c.σ[n]? = some (some (V.ref q)) → ∃ o, c.H q = some o := fun n d q h1 h2 => by
    obtain ⟨v, e3, e4⟩ := r.sl n true d h1
    rw [h2] at e3
    have e' := Option.some.inj (Option.some.inj e3)
    subst e'
    obtain ⟨q2, eq, hf', ho'⟩ := e4
    cases eq
    exact ho'.some
  refine ⟨⟨r'.sub, r.len, fun i b d e => ?_, r.dj, fun n d q h1 h2 => ?_, r'.ol, r'.nd, r'.ob⟩, fun b o h n => ?_, fun b m => ?_, a0.mu.trans a.mu, fun b o h => let ⟨o', h'⟩ := a0.tr b o h; a.tr b o' h'⟩
  · obtain ⟨v, e1, e2⟩ := r.sl i b d e
    refine ⟨v, e1, ?_⟩
    cases b with
    | false => exact Dat.mono sF a.mu _ _ e2
    | true =>
      obtain ⟨q, rfl, hf, ho⟩ := e2
      obtain ⟨o, ho'⟩ := ho.some
      obtain ⟨k1, k2⟩ := keepM q o ho' (neP i d q e e1) (r.om i d q e e1)
      exact ⟨q, rfl, k2.trans hf, ho.keep (k1.trans ho'.symm) sF a.mu⟩
  · intro mq
    obtain ⟨o, hq⟩ := ownS n d q h1 h2
    rcases a.mi q (.inr mq) with z | z
    · rcases mine_some hp z with z | z
      · exact neP n d q h1 h2 z
      · exact r.om n d q h1 h2 z
    · have z' : c.H q = none := z
      rw [hq] at z'; cases z'
  · obtain ⟨k1, k2⟩ := a0.fr b o h n
    have np : b ≠ p := fun z => by rw [z, h0] at h; cases h
    have nm : b ∉ c.μ := fun m => by
      rcases a0.mi b (.inr m) with z | z
      · exact n z
      · rw [z] at h; cases h
    obtain ⟨k3, k4⟩ := keepM b o k1 np nm
    exact ⟨k3, k4.trans k2⟩
  · rcases m with ⟨n, d, h1, h2⟩ | m
    · exact a0.mi b (.inl ⟨n, d, h1, h2⟩)
    · rcases a.mi b (.inr m) with z | z
      · rcases mine_some hp z with z | z
        · exact .inr (by rw [z]; exact h0)
        · exact a0.mi b (.inr z)
      · right
        cases e : c0.H b with
        | none => rfl
        | some o =>
          obtain ⟨o', e'⟩ := a0.tr b o e
          have z' : c.H b = none := z
          rw [e'] at z'; cases z'
/-- a fresh result, seen by the caller -/
theorem rEx_up {own : Bool} {d : D} {v : V} {cA cA' c' : Cf} (hF : c'.F = cA'.F) (hμ : c'.μ = cA'.μ) (hH : c'.H = cA'.H) (hA : cA.H = c.H) (a0 : Aft K mg c0 c)
    (hm : ∀ a, Mine c' a → Mine cA' a ∨ ∃ o, c.H a = some o) (h : ExV K mg cA cA' (rEx own d) v) : ExV K mg c0 c' (rEx own d) v := by
  cases own with
  | false =>
    have h' : Dat K mg cA'.F cA'.μ v d := h
    show Dat K mg c'.F c'.μ v d
    rw [hF, hμ]
    exact h'
  | true =>
    obtain ⟨a, rfl, hf, ho, hn, h0⟩ := h
    refine ⟨a, rfl, by rw [hF]; exact hf, ho.keep (by rw [hH]) (by rw [hF]; exact Sub.refl _) (by rw [hμ]; exact Pfx.refl _), fun m => ?_, ?_⟩
    · rcases hm a m with z | ⟨o, z⟩
      · exact hn z
      · rw [← hA, h0] at z; cases z
    · rw [hA] at h0
      cases e : c0.H a with
      | none => rfl
      | some o =>
        obtain ⟨o', e'⟩ := a0.tr a o e
        rw [e'] at h0; cases h0
end
end DV
namespace DV
open PySem PySem.Spec PyProof.Rows L2
def callN (m : Mir) (xs : List Ex) : Mm Ex := fun τ O => if xs.length = m.ar then callM m xs τ O else .bad
section
variable {K : PySem.W.Frag} {mg : Str → Option Value} {W : WX} {c0 c : Cf}
theorem rl_args {io : Option Nat} {ds : List D} {vs : List V} (r : Rl K mg c) (hlen : ds.length = vs.length)
    (hf : ∀ (n : Nat) (d : D) (v : V), io ≠ some n → ds[n]? = some d → vs[n]? = some v → Dat K mg c.F c.μ v d)
    (ho : ∀ (j : Nat) (d : D) (v : V), io = some j → ds[j]? = some d → vs[j]? = some v → ∃ p, v = .ref p ∧ c.F p = none ∧ OwnAt K mg c p d ∧ p ∉ c.μ) :
    Rl K mg ⟨argS io ds, c.O, c.F, c.μ, vs.map some, c.H⟩ := by
  have at_ : ∀ (n : Nat) (b : Bool) (d : D), (argS io ds)[n]? = some (some (b, d)) → ds[n]? = some d ∧ b = decide (io = some n) := fun n b d e => by
    rw [argS_get] at e
    cases q : ds[n]? with
    | none => rw [q] at e; cases e
    | some x =>
      rw [q] at e
      have e' := Option.some.inj (Option.some.inj e)
      exact ⟨congrArg some (congrArg Prod.snd e'), (congrArg Prod.fst e').symm⟩
  have val : ∀ (n : Nat) (d : D), ds[n]? = some d → ∃ v, vs[n]? = some v := fun n d e => by
    have hn := (List.getElem?_eq_some_iff.mp e).1
    exact ⟨vs[n]'(by rw [← hlen]; exact hn), List.getElem?_eq_getElem _⟩
  refine ⟨r.sub, by simp [argS_len, hlen], fun n b d e => ?_, fun i j d e a hij h1 h2 _ => ?_, fun n d a h1 h2 => ?_, r.ol, r.nd, r.ob⟩
  · obtain ⟨e1, e2⟩ := at_ n b d e
    obtain ⟨v, hv⟩ := val n d e1
    refine ⟨v, by show (vs.map some)[n]? = _; rw [List.getElem?_map, hv]; rfl, ?_⟩
    by_cases q : io = some n
    · have hb : b = true := by rw [e2]; exact decide_eq_true q
      subst hb
      obtain ⟨p, h1, h2, h3, h4⟩ := ho n d v q e1 hv
      exact ⟨p, h1, h2, h3⟩
    · have hb : b = false := by rw [e2]; exact decide_eq_false q
      subst hb
      exact hf n d v q e1 hv
  · obtain ⟨_, e2⟩ := at_ i true d h1
    obtain ⟨_, e3⟩ := at_ j true e h2
    have q1 := of_decide_eq_true e2.symm
    have q2 := of_decide_eq_true e3.symm
    rw [q1] at q2
    exact absurd (Option.some.inj q2) hij
  · obtain ⟨e1, e2⟩ := at_ n true d h1
    have q := of_decide_eq_true e2.symm
    obtain ⟨v, hv⟩ := val n d e1
    obtain ⟨p, rfl, h2', h3, h4⟩ := ho n d v q e1 hv
    have h2'' : (vs.map some)[n]? = some (some (V.ref a)) := h2
    rw [List.getElem?_map, hv] at h2''
    cases h2''
    exact h4
theorem frzAll_at {io : Option Nat} : ∀ {xs : List Ex} {i n : Nat} {x : Ex}, frzAll io i xs = true → xs[n]? = some x → io ≠ some (i + n) → x.k = .frz
  | [], i, n, x, h, e, q => by simp at e
  | y :: xs, i, 0, x, h, e, q => by
    have e' := Option.some.inj e
    subst e'
    rw [frzAll, Bool.and_eq_true, Bool.or_eq_true] at h
    rcases h.1 with z | z
    · exact absurd (of_decide_eq_true z) q
    · cases hk : y.k with
      | frz => rfl
      | tmp => rw [hk] at z; cases z
      | slot _ => rw [hk] at z; cases z
  | y :: xs, i, n + 1, x, h, e, q => by
    rw [frzAll, Bool.and_eq_true] at h
    exact frzAll_at (i := i + 1) (n := n) h.2 e (by rw [show i + 1 + n = i + (n + 1) by omega]; exact q)
theorem dat_frz {x : Ex} {v : V} (hk : x.k = .frz) (h : ExV K mg c0 c x v) : Dat K mg c.F c.μ v x.d := by
  obtain ⟨k, d⟩ := x
  cases hk
  exact h
/-- Post, the objects' places growing from μ0 on -/
def PostP {α β : Type} (K : PySem.W.Frag) (mg : Str → Option Value) (W : WX) (VR : Cf → Cf → α → β → Prop) (μ0 : List Addr) (c : Cf) (r : Res α) (Q : β → Hp → Prop) : Prop :=
  match r with
  | .ok x τ' O' => ∀ y H' F' μ', Aft K mg c ⟨τ', O', F', μ', c.σ, H'⟩ → Pfx μ0 μ' → VR c ⟨τ', O', F', μ', c.σ, H'⟩ x y → Q y H'
  | .ex cl fs τ' O' => ∀ C d H' F' μ', Aft K mg c ⟨τ', O', F', μ', c.σ, H'⟩ → mg cl = some (.ref C) → Exd K mg ⟨τ', O', F', μ', c.σ, H'⟩ d fs → W (.ref C) d c.σ H'
  | .bad => False
theorem Post.toP {α β : Type} {VR : Cf → Cf → α → β → Prop} {μ0 : List Addr} {c : Cf} {r : Res α} {Q : β → Hp → Prop} (h : Post K mg W VR c r Q) : PostP K mg W VR μ0 c r Q := by
  cases r with
  | ok x τ O => exact fun y H' F' μ' a _ v => h y H' F' μ' a v
  | ex cl fs τ O => exact h
  | bad => exact h
theorem callN_okP {m : Mir} {xs : List Ex} {vs : List V} {Q : VK} (a0 : Aft K mg c0 c) (hσ : c.σ = c0.σ) (hx : ExVs K mg c0 c xs vs)
    (h : PostP K mg W (ExV K mg) c.μ c0 (callN m xs c.τ c.O) Q) : spM K mg m vs c.H Q (WE W c0.σ) := by
  obtain ⟨τ, O, F, μ, σ, H⟩ := c
  have hσ' : σ = c0.σ := hσ
  subst hσ'
  have r := a0.rl
  unfold callN at h
  have hn : xs.length = m.ar := by
    by_cases hn : xs.length = m.ar
    · exact hn
    · rw [if_neg hn] at h; exact h.elim
  rw [if_pos hn] at h
  refine ⟨hx.length.symm.trans hn, ?_⟩
  unfold callM at h
  have hf : frzAll m.io 0 xs = true := by
    by_cases hf : frzAll m.io 0 xs = true
    · exact hf
    · rw [if_neg hf] at h; exact h.elim
  rw [if_pos hf] at h
  have frzD : ∀ (n : Nat) (x : Ex) (v : V), m.io ≠ some n → xs[n]? = some x → vs[n]? = some v → Dat K mg F μ v x.d := fun n x v q e1 e2 => by
    obtain ⟨v', e3, e4⟩ := hx.get e1
    rw [e2] at e3
    cases e3
    exact dat_frz (frzAll_at (i := 0) hf e1 (by rw [Nat.zero_add]; exact q)) e4
  cases hio : m.io with
  | none =>
    simp only [hio] at h
    have rA : Rl K mg ⟨argS none (xs.map (·.d)), O, F, μ, vs.map some, H⟩ := rl_args (c := ⟨τ, O, F, μ, c0.σ, H⟩) r (by rw [List.length_map]; exact hx.length) (fun n d v q e1 e2 => by
      rw [List.getElem?_map] at e1
      cases e : xs[n]? with
      | none => rw [e] at e1; cases e1
      | some x =>
        rw [e] at e1
        cases e1
        exact frzD n x v (by rw [hio]; exact q) e e2) (fun j d v q => by cases q)
    refine ⟨xs.map (·.d), O, F, μ, rA, ?_⟩
    cases hfn : m.fn (xs.map (·.d)) O with
    | ret own d d' O' =>
      simp only [hfn] at h
      refine fun v H' F' μ' a hv => ?_
      have al := lift_none (c := ⟨τ, O, F, μ, c0.σ, H⟩) r a
      refine h v H' F' μ' (a0.trans al) a.mu (rEx_up (c := ⟨τ, O, F, μ, c0.σ, H⟩) (cA := ⟨argS none (xs.map (·.d)), O, F, μ, vs.map some, H⟩) (cA' := ⟨argS none (setIo none (xs.map (·.d)) d'), O', F', μ', vs.map some, H'⟩) rfl rfl rfl rfl a0 (fun b mb => ?_) hv)
      rcases mb with ⟨i, e, h1, h2⟩ | mb
      · right
        obtain ⟨v2, e3, e4⟩ := r.sl i true e h1
        have h2' : c0.σ[i]? = some (some (.ref b)) := h2
        rw [h2'] at e3
        have e' := Option.some.inj (Option.some.inj e3)
        subst e'
        obtain ⟨q2, eq, _, ho'⟩ := e4
        cases eq
        exact ho'.some
      · exact .inl (.inr mb)
    | exc cl fs d' O' =>
      simp only [hfn] at h
      exact fun C dd H' F' μ' a hc hd => h C dd H' F' μ' (a0.trans (lift_none (c := ⟨τ, O, F, μ, c0.σ, H⟩) r a)) hc hd
    | bad =>
      simp only [hfn] at h
      exact h.elim
  | some j =>
    simp only [hio] at h
    cases hj : xs[j]? with
    | none => simp only [hj] at h; exact h.elim
    | some x =>
      obtain ⟨k, dx⟩ := x
      have jl : j < xs.length := (List.getElem?_eq_some_iff.mp hj).1
      obtain ⟨vj, hvj, hxj⟩ := hx.get hj
      cases k with
      | frz => simp only [hj] at h; exact h.elim
      | slot i =>
        simp only [hj] at h
        cases ht : τ[i]? with
        | none => simp only [ht] at h; exact h.elim
        | some o =>
          cases o with
          | none => simp only [ht] at h; exact h.elim
          | some w =>
            obtain ⟨b, dj⟩ := w
            cases b with
            | false => simp only [ht] at h; exact h.elim
            | true =>
              simp only [ht] at h
              have hs : c0.σ[i]? = some (some vj) := hxj
              obtain ⟨v', e1, p, rfl, hpf, hpo⟩ := r.sl i true dj ht
              have e1' : c0.σ[i]? = some (some (V.ref p)) := e1
              rw [hs] at e1'
              have ev := Option.some.inj (Option.some.inj e1')
              subst ev
              have getj : ((xs.map (·.d)).set j dj)[j]? = some dj := List.getElem?_set_self (by rw [List.length_map]; exact jl)
              have rA : Rl K mg ⟨argS (some j) ((xs.map (·.d)).set j dj), O, F, μ, vs.map some, H⟩ := rl_args (c := ⟨τ, O, F, μ, c0.σ, H⟩) r (by rw [List.length_set, List.length_map]; exact hx.length) (fun n d v q e1 e2 => by
                  have nj : n ≠ j := fun z => q (by rw [z])
                  rw [List.getElem?_set_ne (Ne.symm nj), List.getElem?_map] at e1
                  cases e : xs[n]? with
                  | none => rw [e] at e1; cases e1
                  | some x =>
                    rw [e] at e1
                    cases e1
                    exact frzD n x v (by rw [hio]; exact q) e e2) (fun j' d v q e1 e2 => by
                  cases q
                  rw [getj] at e1
                  cases e1
                  rw [hvj] at e2
                  cases e2
                  exact ⟨p, rfl, hpf, hpo, r.om i _ p ht hs⟩)
              refine ⟨(xs.map (·.d)).set j dj, O, F, μ, rA, ?_⟩
              cases hfn : m.fn ((xs.map (·.d)).set j dj) O with
              | ret own d d' O' =>
                simp only [hfn] at h
                refine fun v H' F' μ' a hv => ?_
                have hd' : (setIo (some j) ((xs.map (·.d)).set j dj) d')[j]? = some d' := List.getElem?_set_self (by rw [List.length_set, List.length_map]; exact jl)
                have al := lift_slot (c := ⟨τ, O, F, μ, c0.σ, H⟩) r ht hs hvj hd' a
                refine h v H' F' μ' (a0.trans al) a.mu (rEx_up (c := ⟨τ, O, F, μ, c0.σ, H⟩) (cA := ⟨argS (some j) ((xs.map (·.d)).set j dj), O, F, μ, vs.map some, H⟩) (cA' := ⟨argS (some j) (setIo (some j) ((xs.map (·.d)).set j dj) d'), O', F', μ', vs.map some, H'⟩) rfl rfl rfl rfl a0 (fun b mb => ?_) hv)
                rcases mb with ⟨n, e, h1, h2⟩ | mb
                · right
                  have h1' : (τ.set i (some (true, d')))[n]? = some (some (true, e)) := h1
                  have h2' : c0.σ[n]? = some (some (.ref b)) := h2
                  by_cases hni : n = i
                  · subst hni
                    rw [hs] at h2'
                    cases h2'
                    exact hpo.some
                  · rw [List.getElem?_set_ne (Ne.symm hni)] at h1'
                    obtain ⟨v2, e3, e4⟩ := r.sl n true e h1'
                    have e3' : c0.σ[n]? = some (some v2) := e3
                    rw [h2'] at e3'
                    have e' := Option.some.inj (Option.some.inj e3')
                    subst e'
                    obtain ⟨q2, eq, _, ho'⟩ := e4
                    cases eq
                    exact ho'.some
                · exact .inl (.inr mb)
              | exc cl fs d' O' =>
                simp only [hfn] at h
                have hd' : (setIo (some j) ((xs.map (·.d)).set j dj) d')[j]? = some d' := List.getElem?_set_self (by rw [List.length_set, List.length_map]; exact jl)
                exact fun C dd H' F' μ' a hc hd => h C dd H' F' μ' (a0.trans (lift_slot (c := ⟨τ, O, F, μ, c0.σ, H⟩) r ht hs hvj hd' a)) hc hd
              | bad =>
                simp only [hfn] at h
                exact h.elim
      | tmp =>
        simp only [hj] at h
        obtain ⟨p, rfl, hpf, hpo, hpm, hp0⟩ := hxj
        have getj : (xs.map (·.d))[j]? = some dx := by rw [List.getElem?_map, hj]; rfl
        have rA : Rl K mg ⟨argS (some j) (xs.map (·.d)), O, F, μ, vs.map some, H⟩ := rl_args (c := ⟨τ, O, F, μ, c0.σ, H⟩) r (by rw [List.length_map]; exact hx.length) (fun n d v q e1 e2 => by
            rw [List.getElem?_map] at e1
            cases e : xs[n]? with
            | none => rw [e] at e1; cases e1
            | some x =>
              rw [e] at e1
              cases e1
              exact frzD n x v (by rw [hio]; exact q) e e2) (fun j' d v q e1 e2 => by
            cases q
            rw [getj] at e1
            cases e1
            rw [hvj] at e2
            cases e2
            exact ⟨p, rfl, hpf, hpo, fun z => hpm (.inr z)⟩)
        refine ⟨xs.map (·.d), O, F, μ, rA, ?_⟩
        cases hfn : m.fn (xs.map (·.d)) O with
        | ret own d d' O' =>
          simp only [hfn] at h
          refine fun v H' F' μ' a hv => ?_
          have hd' : (setIo (some j) (xs.map (·.d)) d')[j]? = some d' := List.getElem?_set_self (by rw [List.length_map]; exact jl)
          have al := lift_tmp (c := ⟨τ, O, F, μ, c0.σ, H⟩) r a0 hp0 hpm hpf hvj hd' a
          refine h v H' F' μ' al a.mu (rEx_up (c := ⟨τ, O, F, μ, c0.σ, H⟩) (cA := ⟨argS (some j) (xs.map (·.d)), O, F, μ, vs.map some, H⟩) (cA' := ⟨argS (some j) (setIo (some j) (xs.map (·.d)) d'), O', F', μ', vs.map some, H'⟩) rfl rfl rfl rfl a0 (fun b mb => ?_) hv)
          rcases mb with ⟨n, e, h1, h2⟩ | mb
          · right
            obtain ⟨v2, e3, e4⟩ := r.sl n true e h1
            have h2' : c0.σ[n]? = some (some (.ref b)) := h2
            have e3' : c0.σ[n]? = some (some v2) := e3
            rw [h2'] at e3'
            have e' := Option.some.inj (Option.some.inj e3')
            subst e'
            obtain ⟨q2, eq, _, ho'⟩ := e4
            cases eq
            exact ho'.some
          · exact .inl (.inr mb)
        | exc cl fs d' O' =>
          simp only [hfn] at h
          have hd' : (setIo (some j) (xs.map (·.d)) d')[j]? = some d' := List.getElem?_set_self (by rw [List.length_map]; exact jl)
          exact fun C dd H' F' μ' a hc hd => h C dd H' F' μ' (lift_tmp (c := ⟨τ, O, F, μ, c0.σ, H⟩) r a0 hp0 hpm hpf hvj hd' a) hc hd
        | bad =>
          simp only [hfn] at h
          exact h.elim
theorem callN_ok {m : Mir} {xs : List Ex} {vs : List V} {Q : VK} (a0 : Aft K mg c0 c) (hσ : c.σ = c0.σ) (hx : ExVs K mg c0 c xs vs)
    (h : Post K mg W (ExV K mg) c0 (callN m xs c.τ c.O) Q) : spM K mg m vs c.H Q (WE W c0.σ) := callN_okP a0 hσ hx (Post.toP h)
end

/-! ### what is known of a callee -/
structure Callee (P : Program) (w : World) (K : PySem.W.Frag) (mg : Str → Option Value) (base : Heap) (x : Str) (k : Nat) (m : Mir) : Prop where
  ex : ∃ (f : Addr) (fd : FuncData) (ps : List Str), mg x = some (.ref f) ∧ PySem.W.keepIn K (.ref f) = true ∧ FnG P w K mg base k f fd ps (spM K mg m) ∧ Binds K fd ps []
section
variable {X : Cx} {W : WX}
/-- how a body stands: room, no guards, what is raised -/
structure Std (X : Cx) (W : WX) (k : Nat) : Prop where
  room : Room k X.A
  grd : X.A.guards = some []
  tk : Takes X W
theorem de_call {x : Str} {p pos : Pos} {e : Expr} {es : List Expr} {k j : Nat} {m : Mir} {f : Mm (List Ex)} (hS : Std X W k) (hc : Callee X.prog X.w X.K X.mg X.base x j m) (ha : DAs X W (e :: es) f) (hj : j ≤ k := by decide)
    (hg : Gl X x := by rfl) (hdb : (x == ("__debug__" : Str)) = false := by decide) (he : starEach (e :: es) X.env = (false, eval e X.env) :: starEach es X.env := by rfl) (hpl : (backTo pos (starEach es X.env)).any (·.1) = false := by rfl) :
    DE X W (.Call (.Name x p) (e :: es) [] pos) (f >>= callN m) := by
  obtain ⟨fa, fd, ps, hm, hk, G, hb⟩ := hc.ex
  refine PE.imp (pe_cl (G.mono hj) hS.room hS.grd hg hm hk hb .nil hS.tk ha hdb he hpl) fun σ H Q q => ?_
  refine post_fst q fun c xs c2 vs r hσ hH a2 hσ2 hv hp => ?_
  rw [← hσ, List.append_nil]
  exact callN_ok a2 hσ2 hv hp
theorem de_call0 {x : Str} {p pos : Pos} {k j : Nat} {m : Mir} (hS : Std X W k) (hc : Callee X.prog X.w X.K X.mg X.base x j m) (hj : j ≤ k := by decide) (hg : Gl X x := by rfl) (hdb : (x == ("__debug__" : Str)) = false := by decide) :
    DE X W (.Call (.Name x p) [] [] pos) (callN m []) := by
  obtain ⟨fa, fd, ps, hm, hk, G, hb⟩ := hc.ex
  refine PE.imp (pe_cl0 (G.mono hj) hS.room hS.grd hg hm hk hb .nil hS.tk hdb) fun σ H Q q => ?_
  obtain ⟨τ, O, F, μ, r, hp⟩ := q
  exact callN_ok (c := ⟨τ, O, F, μ, σ, H⟩) (Aft.refl r) rfl .nil hp
end
end DV
namespace DV
open PySem PySem.Spec PyProof.Rows L2
def opt {α : Type} : Option α → Mm α
  | some x => pure x
  | none => bad
def cst (d : D) : Mm Ex := pure ⟨.frz, d⟩
def var (i : Nat) : Mm Ex := fun τ O => match τ[i]? with
  | some (some (true, d)) => .ok ⟨.slot i, d⟩ τ O
  | some (some (false, d)) => .ok ⟨.frz, d⟩ τ O
  | _ => .bad
def fl (d : D) : Ex := ⟨.frz, d⟩
/-- values without an address -/
def vof : D → V
  | .bl b => .bl b
  | .int i => .int i
  | .str s => .str s
  | _ => .non
def flat : D → Bool
  | .non | .bl _ | .int _ | .str _ => true
  | _ => false
section
variable {K : PySem.W.Frag} {mg : Str → Option Value} {W : WX} {c0 c : Cf}
theorem dat_flat {F : Hp} {μ : List Addr} {d : D} (h : flat d = true) : Dat K mg F μ (vof d) d := by
  cases d with
  | non => exact .non
  | bl b => exact .bl b
  | int i => exact .int i
  | str s => exact .str s
  | _ => cases h
theorem flat_v {F : Hp} {μ : List Addr} {d : D} {v : V} (h : flat d = true) (x : Dat K mg F μ v d) : v = vof d := by
  cases x <;> first | rfl | cases h
/-- reading, then a flat end -/
theorem post_flat {γ : Type} {d : D} {Q : VK} (a : Aft K mg c0 c) (hσ : c.σ = c0.σ) (h : Post K mg W (ExV K mg) c0 ((pure (fl d) : Mm Ex) c.τ c.O) Q) (hf : flat d = true) : Q (vof d) c.H :=
  post_ok a hσ h (dat_flat hf)
theorem post_opt {α γ δ : Type} {VRc : Cf → Cf → γ → δ → Prop} {o : Option α} {g : α → Mm γ} {Q : δ → Hp → Prop} {cc : Cf} {τ : Sto} {O : Ob} (h : Post K mg W VRc cc ((opt o >>= g) τ O) Q) :
    ∃ x, o = some x ∧ Post K mg W VRc cc (g x τ O) Q := by
  cases o with
  | none => exact h.elim
  | some x => exact ⟨x, rfl, h⟩
/-- what may be read -/
def RdV (K : PySem.W.Frag) (mg : Str → Option Value) (c : Cf) (v : V) (d : D) : Prop := ∃ b, SlotV K mg c b v d
theorem RdV.dat {v : V} {d : D} (r : Rl K mg c) (h : RdV K mg c v d) : Dat K mg c.H c.μ v d := let ⟨_, h⟩ := h; r.slotH h
theorem RdV.lst {v : V} {ds : List D} (r : Rl K mg c) (h : RdV K mg c v (.lst ds)) : ∃ a vs, v = .ref a ∧ c.H a = some (.lst vs) ∧ DatL K mg c.F c.μ vs ds := by
  obtain ⟨b, h⟩ := h
  cases b with
  | false =>
    cases h with
    | lst h1 h2 => exact ⟨_, _, rfl, r.sub _ _ h1, h2⟩
  | true =>
    obtain ⟨a, rfl, hf, vs, h1, h2⟩ := h
    exact ⟨a, vs, rfl, h1, h2⟩
theorem RdV.tup {v : V} {ds : List D} (r : Rl K mg c) (h : RdV K mg c v (.tup ds)) : ∃ a vs, v = .ref a ∧ SqT K c.H a vs ∧ DatL K mg c.F c.μ vs ds := by
  obtain ⟨b, h⟩ := h
  cases b with
  | false =>
    cases h with
    | tup h1 h2 => exact ⟨_, _, rfl, SqT.of (r.sub _ _ h1), h2⟩
  | true =>
    obtain ⟨a, _, _, z⟩ := h
    exact z.elim
theorem RdV.tupH {v : V} {ds : List D} (r : Rl K mg c) (h : RdV K mg c v (.tup ds)) : ∃ a vs, v = .ref a ∧ c.H a = some (.tup vs) ∧ DatL K mg c.F c.μ vs ds := by
  obtain ⟨b, h⟩ := h
  cases b with
  | false =>
    cases h with
    | tup h1 h2 => exact ⟨_, _, rfl, r.sub _ _ h1, h2⟩
  | true =>
    obtain ⟨a, _, _, z⟩ := h
    exact z.elim
theorem RdV.frz {v : V} {d : D} (h : RdV K mg c v d) (hl : ∀ ds, d ≠ .lst ds) (hd : ∀ t ds, d ≠ .dct t ds) : Dat K mg c.F c.μ v d := by
  obtain ⟨b, h⟩ := h
  cases b with
  | false => exact h
  | true =>
    obtain ⟨a, _, _, z⟩ := h
    cases d with
    | lst ds => exact absurd rfl (hl ds)
    | dct t ds => exact absurd rfl (hd t ds)
    | _ => exact z.elim
theorem rd_okS {γ δ : Type} {VRc : Cf → Cf → γ → δ → Prop} {g : D → Mm γ} {Q : δ → Hp → Prop} {cc : Cf} {x : Ex} {v : V} (r : Rl K mg c) (hx : ExV K mg c0 c x v) (h : Post K mg W VRc cc ((rd x >>= g) c.τ c.O) Q) :
    ∃ d, RdV K mg c v d ∧ Post K mg W VRc cc (g d c.τ c.O) Q := by
  obtain ⟨k, d⟩ := x
  cases k with
  | frz => exact ⟨d, ⟨false, hx⟩, h⟩
  | tmp =>
    obtain ⟨a, rfl, hf, ho, _, _⟩ := hx
    exact ⟨d, ⟨true, a, rfl, hf, ho⟩, h⟩
  | slot i =>
    have hs : c.σ[i]? = some (some v) := hx
    rw [bind_app] at h
    cases e : c.τ[i]? with
    | none => simp only [rd, e] at h; exact h.elim
    | some o =>
      cases o with
      | none => simp only [rd, e] at h; exact h.elim
      | some p =>
        obtain ⟨b, d'⟩ := p
        simp only [rd, e] at h
        obtain ⟨v', e1, e2⟩ := r.sl i b d' e
        rw [hs] at e1
        have e' := Option.some.inj (Option.some.inj e1)
        subst e'
        exact ⟨d', ⟨b, e2⟩, h⟩
end

section
variable {X : Cx} {W : WX}
theorem de_var (i : Nat) {x : Str} {pos : Pos} (hN : X.N[i]? = some x := by rfl) (hv : Vis X.env.scope x := by first | exact Or.inl rfl | exact Or.inr (Or.inl rfl) | exact Or.inr (Or.inr rfl)) (hd : (x == ("__debug__" : Str)) = false := by decide)
    (hcd : (x == ("__classdict__" : Str)) = false := by decide) : DE X W (.Name x pos) (var i) :=
  PE.imp (pe_var (i := i) hN hv hd hcd) fun σ H Q ⟨τ, O, F, μ, r, hp⟩ => by
    unfold var at hp
    cases e : τ[i]? with
    | none => simp only [e] at hp; exact hp.elim
    | some o =>
      cases o with
      | none => simp only [e] at hp; exact hp.elim
      | some w =>
        obtain ⟨b, d⟩ := w
        obtain ⟨v, e1, e2⟩ := r.sl i b d e
        refine ⟨v, e1, ?_⟩
        cases b with
        | true =>
          simp only [e] at hp
          exact hp v H F μ (Aft.refl r) e1
        | false =>
          simp only [e] at hp
          exact hp v H F μ (Aft.refl r) e2
theorem de_cst {e : Expr} {v : V} {d : D} (h : PE X e (tC v)) (hd : ∀ F μ, Dat X.K X.mg F μ v d) : DE X W e (cst d) :=
  PE.imp h fun σ H Q ⟨τ, O, F, μ, r, hp⟩ => hp v H F μ (Aft.refl r) (hd F μ)
theorem de_int {i : Int} {j : Nat} {pos : Pos} : DE X W (.Constant (.int i) j pos) (cst (.int i)) := de_cst pe_int fun _ _ => .int i
theorem de_bl {b : Bool} {j : Nat} {pos : Pos} : DE X W (.Constant (.bool b) j pos) (cst (.bl b)) := de_cst pe_bl fun _ _ => .bl b
theorem de_non {j : Nat} {pos : Pos} : DE X W (.Constant .none j pos) (cst .non) := de_cst pe_non fun _ _ => .non
theorem de_str {x : Str} {j : Nat} {pos : Pos} : DE X W (.Constant (.str x) j pos) (cst (.str x)) := de_cst pe_str fun _ _ => .str x
/-- a constant of the module, or a def's name as a value -/
theorem de_glob {x : Str} {v : V} {d : D} {u : Value} {pos : Pos} (hm : X.mg x = some u) (r : RelV v u) (hd : ∀ F μ, Dat X.K X.mg F μ v d) (hg : Gl X x := by rfl) (hdb : (x == ("__debug__" : Str)) = false := by decide) : DE X W (.Name x pos) (cst d) :=
  de_cst (pe_glob hg hm r hdb) hd

/-! ### frozen displays -/
def small (n : Nat) : Bool := decide (n ≤ 16777216)
theorem small_le {n : Nat} (h : small n = true) : n ≤ sizeLine := by
  rw [sizeLine_eq]
  exact of_decide_eq_true h
def mkTup (ds : List D) : Mm Ex := if small ds.length then pure (fl (.tup ds)) else bad
def mkLst (ds : List D) : Mm Ex := if small ds.length then pure ⟨.tmp, .lst ds⟩ else bad
end
section
variable {K : PySem.W.Frag} {mg : Str → Option Value} {W : WX} {c0 c : Cf}
/-- a new frozen thing at p -/
theorem aft_newF (a : Aft K mg c0 c) {p : Addr} {o : HO} (hp : c.H p = none) : Aft K mg c0 { c with F := upd c.F p o, H := upd c.H p o } := by
  have hFp : c.F p = none := by
    cases e : c.F p with
    | none => rfl
    | some o' => rw [a.rl.sub _ _ e] at hp; cases hp
  have s : Sub c.F (upd c.F p o) := fun b u e => by
    have : b ≠ p := fun z => by rw [z, hFp] at e; cases e
    rw [upd_ne this]; exact e
  have r := a.rl
  refine ⟨⟨fun b u e => ?_, r.len, fun i b d e => ?_, r.dj, r.om, r.ol, r.nd, fun n q cl fs h1 h2 => ?_⟩, fun b u h n => ?_, a.mi, a.mu, fun b u h => ?_⟩
  · by_cases hb : b = p
    · subst hb
      have e' : upd c.F b o b = some u := e
      rw [upd_same] at e'
      show upd c.H b o b = _
      rw [upd_same]; exact e'
    · have e' : upd c.F p o b = some u := e
      rw [upd_ne hb] at e'
      show upd c.H p o b = _
      rw [upd_ne hb]; exact r.sub _ _ e'
  · obtain ⟨v, e1, e2⟩ := r.sl i b d e
    refine ⟨v, e1, ?_⟩
    cases b with
    | false => exact Dat.mono s (Pfx.refl _) _ _ e2
    | true =>
      obtain ⟨q, rfl, h1, h2⟩ := e2
      obtain ⟨o', h3⟩ := h2.some
      have : q ≠ p := fun z => by rw [z, hp] at h3; cases h3
      exact ⟨q, rfl, (upd_ne this).trans h1, h2.keep (upd_ne this) s (Pfx.refl _)⟩
  · obtain ⟨h3, h4⟩ := r.ob n q cl fs h1 h2
    have : q ≠ p := fun z => by obtain ⟨o5, h5⟩ := h4.some; rw [z, hp] at h5; cases h5
    exact ⟨(upd_ne this).trans h3, h4.keep (upd_ne this) s (Pfx.refl _)⟩
  · obtain ⟨k1, k2⟩ := a.fr b u h n
    have : b ≠ p := fun z => by rw [z, hp] at k1; cases k1
    exact ⟨(upd_ne this).trans k1, (upd_ne this).trans k2⟩
  · obtain ⟨o', h'⟩ := a.tr b u h
    have : b ≠ p := fun z => by rw [z, hp] at h'; cases h'
    exact ⟨o', (upd_ne this).trans h'⟩
/-- a new thing of nobody's at p -/
theorem aft_newT (a : Aft K mg c0 c) {p : Addr} {o : HO} (hp : c.H p = none) : Aft K mg c0 { c with H := upd c.H p o } := by
  have r := a.rl
  refine ⟨⟨fun b u e => ?_, r.len, fun i b d e => ?_, r.dj, r.om, r.ol, r.nd, fun n q cl fs h1 h2 => ?_⟩, fun b u h n => ?_, a.mi, a.mu, fun b u h => ?_⟩
  · have e' := r.sub _ _ e
    have : b ≠ p := fun z => by rw [z, hp] at e'; cases e'
    exact (upd_ne this).trans e'
  · obtain ⟨v, e1, e2⟩ := r.sl i b d e
    refine ⟨v, e1, ?_⟩
    cases b with
    | false => exact e2
    | true =>
      obtain ⟨q, rfl, h1, h2⟩ := e2
      obtain ⟨o', h3⟩ := h2.some
      have : q ≠ p := fun z => by rw [z, hp] at h3; cases h3
      exact ⟨q, rfl, h1, h2.keep (upd_ne this) (Sub.refl _) (Pfx.refl _)⟩
  · obtain ⟨h3, h4⟩ := r.ob n q cl fs h1 h2
    have : q ≠ p := fun z => by obtain ⟨o5, h5⟩ := h4.some; rw [z, hp] at h5; cases h5
    exact ⟨h3, h4.keep (upd_ne this) (Sub.refl _) (Pfx.refl _)⟩
  · obtain ⟨k1, k2⟩ := a.fr b u h n
    have : b ≠ p := fun z => by rw [z, hp] at k1; cases k1
    exact ⟨(upd_ne this).trans k1, k2⟩
  · obtain ⟨o', h'⟩ := a.tr b u h
    have : b ≠ p := fun z => by rw [z, hp] at h'; cases h'
    exact ⟨o', (upd_ne this).trans h'⟩
theorem not_mine_new (r : Rl K mg c) {p : Addr} (hp : c.H p = none) : ¬ Mine c p := fun m => by
  rcases m with ⟨i, d, h1, h2⟩ | m
  · obtain ⟨v, e3, e4⟩ := r.sl i true d h1
    rw [h2] at e3
    have e' := Option.some.inj (Option.some.inj e3)
    subst e'
    obtain ⟨q, eq, _, ho⟩ := e4
    cases eq
    obtain ⟨o, h⟩ := ho.some
    rw [hp] at h; cases h
  · obtain ⟨n, hn⟩ := List.getElem?_of_mem m
    have hl : n < c.O.length := by rw [← r.ol]; exact (List.getElem?_eq_some_iff.mp hn).1
    obtain ⟨_, h4⟩ := r.ob n p _ _ hn (List.getElem?_eq_getElem hl)
    obtain ⟨o5, h⟩ := h4.some
    rw [hp] at h; cases h
theorem none_start (a : Aft K mg c0 c) {p : Addr} (hp : c.H p = none) : c0.H p = none := by
  cases e : c0.H p with
  | none => rfl
  | some o =>
    obtain ⟨o', h'⟩ := a.tr p o e
    rw [hp] at h'; cases h'
theorem subF_new (a : Aft K mg c0 c) {p : Addr} {o : HO} (hp : c.H p = none) : Sub c.F (upd c.F p o) := fun b u e => by
  have : b ≠ p := fun z => by rw [z] at e; rw [a.rl.sub _ _ e] at hp; cases hp
  rw [upd_ne this]; exact e
/-- the end of a rule that makes a new list -/
theorem new_lst (a : Aft K mg c0 c) (hσ : c.σ = c0.σ) {ds : List D} {vs : List V} {Q : VK} (hd : DatL K mg c.F c.μ vs ds) (h : Post K mg W (ExV K mg) c0 ((pure ⟨.tmp, .lst ds⟩ : Mm Ex) c.τ c.O) Q) {p : Addr} (hp : c.H p = none) : Q (.ref p) (upd c.H p (.lst vs)) := by
  have a' := aft_newT a (o := .lst vs) hp
  have hF : c.F p = none := by
    cases e : c.F p with
    | none => rfl
    | some o' => rw [a.rl.sub _ _ e] at hp; cases hp
  exact post_ok (x := (⟨.tmp, .lst ds⟩ : Ex)) a' hσ h ⟨p, rfl, hF, ⟨vs, upd_same, hd⟩, fun m => not_mine_new a.rl hp m, none_start a hp⟩
/-- .. a new tuple -/
theorem new_tup (a : Aft K mg c0 c) (hσ : c.σ = c0.σ) {ds : List D} {vs : List V} {Q : VK} (hd : DatL K mg c.F c.μ vs ds) (h : Post K mg W (ExV K mg) c0 ((pure (fl (.tup ds)) : Mm Ex) c.τ c.O) Q) {p : Addr} (hp : c.H p = none) : Q (.ref p) (upd c.H p (.tup vs)) := by
  have a' := aft_newF a (o := .tup vs) hp
  exact post_ok (x := fl (.tup ds)) a' hσ h (.tup upd_same (hd.mono (subF_new a hp) (Pfx.refl _)))
end
section
variable {X : Cx} {W : WX}
theorem post_small {γ δ : Type} {K : PySem.W.Frag} {mg : Str → Option Value} {VRc : Cf → Cf → γ → δ → Prop} {n : Nat} {f : Mm γ} {Q : δ → Hp → Prop} {cc : Cf} {τ : Sto} {O : Ob} (h : Post K mg W VRc cc ((if small n then f else bad) τ O) Q) : n ≤ sizeLine ∧ Post K mg W VRc cc (f τ O) Q := by
  cases e : small n with
  | true => rw [e] at h; exact ⟨small_le e, h⟩
  | false => rw [e] at h; exact h.elim
theorem de_tup {es : List Expr} {x1 : Nat} {pos : Pos} {f : Mm (List D)} (h : DFs X W es f) : DE X W (.Tuple es x1 pos) (f >>= mkTup) := by
  refine PE.imp (pe_tup h) fun σ H Q q => ?_
  refine post_fst q fun c ds c2 vs r hσ hH a2 hσ2 hv hp => ?_
  obtain ⟨hz, hp⟩ := post_small hp
  exact ⟨by rw [hv.length]; exact hz, fun p hn => new_tup a2 hσ2 hv hp hn⟩
theorem de_lst {es : List Expr} {pos : Pos} {f : Mm (List D)} (h : DFs X W es f) : DE X W (.List es pos) (f >>= mkLst) := by
  refine PE.imp (pe_lst h) fun σ H Q q => ?_
  refine post_fst q fun c ds c2 vs r hσ hH a2 hσ2 hv hp => ?_
  obtain ⟨hz, hp⟩ := post_small hp
  exact ⟨by rw [hv.length]; exact hz, fun p hn => new_lst a2 hσ2 hv hp hn⟩

/-! ### two operands -/
/-- r is a rule for values; op says what it does to data -/
def Op2 (X : Cx) (W : WX) (r : R2) (op : D → D → Mm Ex) : Prop :=
  ∀ (c0 c : Cf) (u v : V) (dx dy : D) (Q : VK), Aft X.K X.mg c0 c → c.σ = c0.σ → RdV X.K X.mg c u dx → RdV X.K X.mg c v dy → Post X.K X.mg W (ExV X.K X.mg) c0 (op dx dy c.τ c.O) Q → r u v c.H Q
def bin (fa fb : Mm Ex) (op : D → D → Mm Ex) : Mm Ex := fa >>= fun x => fb >>= fun y => rd x >>= fun dx => rd y >>= fun dy => op dx dy
theorem tOp_of {r : R2} {op : D → D → Mm Ex} {fa fb : Mm Ex} (h : Op2 X W r op) {σ : L2.St} {H : Hp} {Q : VK} (q : tM X.K X.mg W (ExV X.K X.mg) (bin fa fb op) σ H Q) :
    tOp r (tM X.K X.mg W (ExV X.K X.mg) fa) (tM X.K X.mg W (ExV X.K X.mg) fb) σ H Q := by
  refine post_fst q fun c x c2 u rl hσ hH a2 hσ2 hx hp => ?_
  rw [← hσ]
  refine post_seq a2 hσ2 hp fun y c3 v a3 hσ3 hy hp3 => ?_
  have hx3 := hx.aft a2.rl a3 (hσ3.trans hσ2.symm)
  obtain ⟨dx, rx, hp4⟩ := rd_okS a3.rl hx3 hp3
  obtain ⟨dy, ry, hp5⟩ := rd_okS a3.rl hy hp4
  exact h c c3 u v dx dy Q (a2.trans a3) hσ3 rx ry hp5
theorem de_bin {op : Operator} {r : R2} {f : D → D → Mm Ex} {a b : Expr} {pos : Pos} {fa fb : Mm Ex} (ho : OpR X (binaryOp op) r) (h : Op2 X W r f) (ha : DE X W a fa) (hb : DE X W b fb) : DE X W (.BinOp a op b pos) (bin fa fb f) :=
  PE.imp (pe_op ho ha hb) fun σ H Q q => tOp_of h q
theorem de_cmp {op : CmpOp} {r : R2} {f : D → D → Mm Ex} {a b : Expr} {pos : Pos} {fa fb : Mm Ex} (ho : OpR X (compareOp op) r) (h : Op2 X W r f) (ha : DE X W a fa) (hb : DE X W b fb) (hm : behindInMarks op b = false := by first | rfl | exact nomark _) :
    DE X W (.Compare a [op] [b] pos) (bin fa fb f) :=
  PE.imp (pe_cmpR ho ha hb hm) fun σ H Q q => tOp_of h q
theorem de_ix {r : R2} {f : D → D → Mm Ex} {a b : Expr} {pos : Pos} {fa fb : Mm Ex} (hr : IxR X r) (h : Op2 X W r f) (ha : DE X W a fa) (hb : DE X W b fb) (hs : PlainIx b := by intro _ _; rfl) : DE X W (.Subscript a b pos) (bin fa fb f) :=
  PE.imp (pe_ix hr ha hb hs) fun σ H Q q => tOp_of h q
/-- a test of a value that is a truth -/
def asB (x : Ex) : Mm Bool := rd x >>= fun d => match d with
  | .bl b => pure b
  | _ => bad
theorem asB_of {f : Mm Ex} {σ : L2.St} {H : Hp} {Q : Bool → Hp → Prop} (q : tM X.K X.mg W BV (f >>= asB) σ H Q) : tM X.K X.mg W (ExV X.K X.mg) f σ H (fun x H1 => ∃ k, x = .bl k ∧ Q k H1) := by
  refine post_fst q fun c x c2 u rl hσ hH a2 hσ2 hx hp => ?_
  obtain ⟨d, rx, hp2⟩ := rd_okS a2.rl hx hp
  have dx := rx.dat a2.rl
  cases d with
  | bl k =>
    cases dx
    exact ⟨k, rfl, post_ok (x := k) a2 hσ2 hp2 rfl⟩
  | _ => exact hp2.elim
theorem dt_cmp {op : CmpOp} {r : R2} {f : D → D → Mm Ex} {a b : Expr} {pos : Pos} {fa fb : Mm Ex} (ho : OpR X (compareOp op) r) (h : Op2 X W r f) (ha : DE X W a fa) (hb : DE X W b fb) (hm : behindInMarks op b = false := by first | rfl | exact nomark _) :
    DT X W (.Compare a [op] [b] pos) (bin fa fb f >>= asB) :=
  PT.imp (pt_cmpR ho ha hb hm) fun σ H Q q => tOp_of h (asB_of q)
/-- a test of any value that is True or False -/
theorem dt_bool {e : Expr} {f : Mm Ex} (h : DE X W e f) (he : ∀ whole, isTrue e X.env whole = (do let v ← whole; standAt e.pos; holding [v] (truthy v)) := by intro _; rfl) : DT X W e (f >>= asB) :=
  PT.imp (pt_val h he) fun σ H Q q => asB_of q
/-- a value's truth -/
def truD : D → Option Bool
  | .non => some false
  | .bl b => some b
  | .int i => some (i != 0)
  | .str y => if small y.length then some ((y.length : Int) != 0) else none
  | .lst xs => some (!xs.isEmpty)
  | .tup xs => some (!xs.isEmpty)
  | _ => none
theorem empty_of {K : PySem.W.Frag} {mg : Str → Option Value} {F : Hp} {μ : List Addr} {vs : List V} {ds : List D} (h : DatL K mg F μ vs ds) : ds.isEmpty = vs.isEmpty := by
  cases ds with
  | nil => cases h; rfl
  | cons d ds => cases h; rfl
theorem dt_truth {e : Expr} {f : Mm Ex} (h : DE X W e f) (he : ∀ whole, isTrue e X.env whole = (do let v ← whole; standAt e.pos; holding [v] (truthy v)) := by intro _; rfl) : DT X W e (f >>= fun x => rd x >>= fun d => opt (truD d)) :=
  PT.imp (pt_truth h he) fun σ H Q q => post_fst q fun c x c2 u rl hσ hH a2 hσ2 hx hp => by
    obtain ⟨d, rx, hp2⟩ := rd_okS a2.rl hx hp
    cases e : truD d with
    | none => rw [e] at hp2; exact hp2.elim
    | some k =>
      rw [e] at hp2
      refine ⟨k, ?_, post_ok (x := k) a2 hσ2 hp2 rfl⟩
      cases d with
      | non => cases rx.dat a2.rl; exact (Option.some.inj e).symm
      | bl b => cases rx.dat a2.rl; exact (Option.some.inj e).symm
      | int i => cases rx.dat a2.rl; exact (Option.some.inj e).symm
      | str y =>
        cases rx.dat a2.rl
        cases hs : small y.length with
        | true =>
          simp only [truD, hs, if_true] at e
          exact ⟨small_le hs, (Option.some.inj e).symm⟩
        | false =>
          simp only [truD, hs] at e
          cases e
      | lst xs =>
        obtain ⟨a, vs, rfl, h1, h2⟩ := rx.lst a2.rl
        exact .inl ⟨vs, SqL.of h1, by rw [← Option.some.inj e, empty_of h2]⟩
      | tup xs =>
        obtain ⟨a, vs, rfl, h1, h2⟩ := rx.tup a2.rl
        exact .inr (.inl ⟨vs, h1, by rw [← Option.some.inj e, empty_of h2]⟩)
      | _ => cases e
end
end DV
namespace DV
open PySem PySem.Spec PyProof.Rows L2

/-! ### statements -/
inductive Fl where
  | nx | bk | ct
  | rt (x : Ex)
def Pin (pin : List Nat) (σ σ' : L2.St) : Prop := σ'.length = σ.length ∧ ∀ i ∈ pin, σ'[i]? = σ[i]?
theorem Pin.refl (pin : List Nat) (σ : L2.St) : Pin pin σ σ := ⟨rfl, fun _ _ => rfl⟩
theorem Pin.trans {pin : List Nat} {a b c : L2.St} (x : Pin pin a b) (y : Pin pin b c) : Pin pin a c := ⟨y.1.trans x.1, fun i h => (y.2 i h).trans (x.2 i h)⟩
theorem Pin.of_eq {pin : List Nat} {a b : L2.St} (h : b = a) : Pin pin a b := by subst h; exact Pin.refl _ _
theorem Pin.set {pin : List Nat} {σ : L2.St} {i : Nat} {v : Option V} (h : i ∉ pin) : Pin pin σ (σ.set i v) := ⟨by simp, fun j hj => List.getElem?_set_ne fun z => h (by rw [z]; exact hj)⟩
section
variable (K : PySem.W.Frag) (mg : Str → Option Value) (W : WX) (pin : List Nat)
def PostS (c : Cf) (r : Res Fl) (D : Ends) : Prop :=
  match r with
  | .ok .nx τ' O' => ∀ σ' H' F' μ', Aft K mg c ⟨τ', O', F', μ', σ', H'⟩ → Pin pin c.σ σ' → D.nx σ' H'
  | .ok .bk τ' O' => ∀ σ' H' F' μ', Aft K mg c ⟨τ', O', F', μ', σ', H'⟩ → Pin pin c.σ σ' → D.bk σ' H'
  | .ok .ct τ' O' => ∀ σ' H' F' μ', Aft K mg c ⟨τ', O', F', μ', σ', H'⟩ → Pin pin c.σ σ' → D.ct σ' H'
  | .ok (.rt x) τ' O' => ∀ v σ' H' F' μ', Aft K mg c ⟨τ', O', F', μ', σ', H'⟩ → Pin pin c.σ σ' → ExV K mg c ⟨τ', O', F', μ', σ', H'⟩ x v → D.rt v H'
  | .ex cl fs τ' O' => ∀ C d σ' H' F' μ', Aft K mg c ⟨τ', O', F', μ', σ', H'⟩ → Pin pin c.σ σ' → mg cl = some (.ref C) → Exd K mg ⟨τ', O', F', μ', σ', H'⟩ d fs → W (.ref C) d σ' H'
  | .bad => False
def tS (f : Mm Fl) : TS := fun D σ H => ∃ τ O F μ, Rl K mg ⟨τ, O, F, μ, σ, H⟩ ∧ PostS K mg W pin ⟨τ, O, F, μ, σ, H⟩ (f τ O) D
end
abbrev DS (X : Cx) (W : WX) (pin : List Nat) (st : Stmt) (f : Mm Fl) : Prop := PS X st (tS X.K X.mg W pin f)
abbrev DSs (X : Cx) (W : WX) (pin : List Nat) (sts : List Stmt) (f : Mm Fl) : Prop := PSs X sts (tS X.K X.mg W pin f)
section
variable {K : PySem.W.Frag} {mg : Str → Option Value} {W : WX} {pin : List Nat} {c0 c c1 : Cf}
theorem PostS.from {r : Res Fl} {D : Ends} (a : Aft K mg c c1) (p : Pin pin c.σ c1.σ) (h : PostS K mg W pin c r D) : PostS K mg W pin c1 r D := by
  cases r with
  | ok fl τ O =>
    cases fl with
    | nx => exact fun σ' H' F' μ' b q => h σ' H' F' μ' (a.trans b) (p.trans q)
    | bk => exact fun σ' H' F' μ' b q => h σ' H' F' μ' (a.trans b) (p.trans q)
    | ct => exact fun σ' H' F' μ' b q => h σ' H' F' μ' (a.trans b) (p.trans q)
    | rt x => exact fun v σ' H' F' μ' b q e => h v σ' H' F' μ' (a.trans b) (p.trans q) (e.from a)
  | ex cl fs τ O => exact fun C d σ' H' F' μ' b q hc hd => h C d σ' H' F' μ' (a.trans b) (p.trans q) hc hd
  | bad => exact h
/-- an expression ahead of the rest of a statement -/
theorem posts_seq {α β : Type} {VRa : Cf → Cf → α → β → Prop} {f : Mm α} {g : α → Mm Fl} {D : Ends} {Q' : β → Hp → Prop} (a : Aft K mg c c1) (hσ : c1.σ = c.σ) (h : PostS K mg W pin c ((f >>= g) c1.τ c1.O) D)
    (k : ∀ x c2 y, Aft K mg c1 c2 → c2.σ = c.σ → VRa c1 c2 x y → PostS K mg W pin c (g x c2.τ c2.O) D → Q' y c2.H) : tM K mg W VRa f c.σ c1.H Q' := by
  obtain ⟨τ1, O1, F1, μ1, σ1, H1⟩ := c1
  have hσ' : σ1 = c.σ := hσ
  subst hσ'
  refine ⟨τ1, O1, F1, μ1, a.rl, ?_⟩
  rw [bind_app] at h
  cases e : f τ1 O1 with
  | ok x τ2 O2 =>
    rw [e] at h
    exact fun y H2 F2 μ2 a2 v => k x ⟨τ2, O2, F2, μ2, c.σ, H2⟩ y a2 rfl v h
  | ex cl fs τ2 O2 =>
    rw [e] at h
    exact fun C d H2 F2 μ2 a2 hc hd => h C d c.σ H2 F2 μ2 (a.trans a2) (Pin.refl _ _) hc hd
  | bad =>
    rw [e] at h
    exact h.elim
theorem posts_fst {α β : Type} {VRa : Cf → Cf → α → β → Prop} {f : Mm α} {g : α → Mm Fl} {D : Ends} {σ : L2.St} {H : Hp} {Q' : β → Hp → Prop} (h : tS K mg W pin (f >>= g) D σ H)
    (k : ∀ c x c2 y, Rl K mg c → c.σ = σ → c.H = H → Aft K mg c c2 → c2.σ = c.σ → VRa c c2 x y → PostS K mg W pin c (g x c2.τ c2.O) D → Q' y c2.H) : tM K mg W VRa f σ H Q' := by
  obtain ⟨τ, O, F, μ, r, hp⟩ := h
  exact posts_seq (Aft.refl r) rfl hp fun x c2 y a2 hσ v hp2 => k ⟨τ, O, F, μ, σ, H⟩ x c2 y r rfl rfl a2 hσ v hp2
/-- at a configuration: the statement's reading -/
theorem tS_at {f : Mm Fl} {D : Ends} (a : Aft K mg c c1) (p : Pin pin c.σ c1.σ) (h : PostS K mg W pin c (f c1.τ c1.O) D) : tS K mg W pin f D c1.σ c1.H :=
  ⟨c1.τ, c1.O, c1.F, c1.μ, a.rl, PostS.from a p h⟩
end
/-- one statement, then the others -/
def seqM (f g : Mm Fl) : Mm Fl := f >>= fun fl => match fl with
  | .nx => g
  | .bk => pure .bk
  | .ct => pure .ct
  | .rt x => pure (.rt x)
section
variable {X : Cx} {W : WX} {pin : List Nat}
theorem dss_nil : DSs X W pin [] (pure .nx) := PSs.imp pss_nil fun D σ H ⟨τ, O, F, μ, r, h⟩ => h σ H F μ (Aft.refl r) (Pin.refl _ _)
theorem tS_seq {K : PySem.W.Frag} {mg : Str → Option Value} {f g : Mm Fl} {D : Ends} {σ : L2.St} {H : Hp} (q : tS K mg W pin (seqM f g) D σ H) : tS K mg W pin f { D with nx := tS K mg W pin g D } σ H := by
  obtain ⟨τ, O, F, μ, r, h⟩ := q
  refine ⟨τ, O, F, μ, r, ?_⟩
  unfold seqM at h
  rw [bind_app] at h
  cases e : f τ O with
  | ok fl τ1 O1 =>
    rw [e] at h
    cases fl with
    | nx => exact fun σ' H' F' μ' a p => tS_at (c1 := ⟨τ1, O1, F', μ', σ', H'⟩) a p h
    | bk => exact h
    | ct => exact h
    | rt x => exact h
  | ex cl fs τ1 O1 => rw [e] at h; exact h
  | bad => rw [e] at h; exact h.elim
theorem dss_cons {st : Stmt} {rest : List Stmt} {f g : Mm Fl} (h1 : DS X W pin st f) (h2 : DSs X W pin rest g) : DSs X W pin (st :: rest) (seqM f g) :=
  PSs.imp (pss_cons h1 h2) fun D σ H q => tS_seq q
theorem dss_one {st : Stmt} {f : Mm Fl} (h1 : DS X W pin st f) : DSs X W pin [st] f := PSs.imp (pss_one h1) fun D σ H q => q
theorem ds_pass {pos : Pos} : DS X W pin (.Pass pos) (pure .nx) := PS.imp ps_pass fun D σ H ⟨τ, O, F, μ, r, h⟩ => h σ H F μ (Aft.refl r) (Pin.refl _ _)
theorem ds_break {pos : Pos} : DS X W pin (.Break pos) (pure .bk) := PS.imp ps_break fun D σ H ⟨τ, O, F, μ, r, h⟩ => h σ H F μ (Aft.refl r) (Pin.refl _ _)
theorem ds_continue {pos : Pos} : DS X W pin (.Continue pos) (pure .ct) := PS.imp ps_continue fun D σ H ⟨τ, O, F, μ, r, h⟩ => h σ H F μ (Aft.refl r) (Pin.refl _ _)
theorem ds_doc {x : Str} {j : Nat} {pos pos' : Pos} : DS X W pin (.Expr (.Constant (.str x) j pos) pos') (pure .nx) := PS.imp ps_doc fun D σ H ⟨τ, O, F, μ, r, h⟩ => h σ H F μ (Aft.refl r) (Pin.refl _ _)
theorem ds_expr {e : Expr} {pos : Pos} {f : Mm Ex} (h : DE X W e f) (hs : swapsWith e none pos.line X.env = pure false := by rfl) : DS X W pin (.Expr e pos) (f >>= fun _ => pure .nx) :=
  PS.imp (ps_expr h hs) fun D σ H q => posts_fst q fun c x c2 v r hσ hH a2 hσ2 hx hp => by
    rw [← hσ, ← hσ2]
    exact hp c2.σ c2.H c2.F c2.μ a2 (Pin.of_eq hσ2)
theorem ds_ret {e : Expr} {pos : Pos} {f : Mm Ex} (h : DE X W e f) : DS X W pin (.Return (some e) pos) (f >>= fun x => pure (.rt x)) :=
  PS.imp (ps_ret h) fun D σ H q => posts_fst q fun c x c2 v r hσ hH a2 hσ2 hx hp => hp v c2.σ c2.H c2.F c2.μ a2 (Pin.of_eq hσ2) hx
theorem ds_retN {pos : Pos} : DS X W pin (.Return none pos) (pure (.rt (fl .non))) :=
  PS.imp ps_retN fun D σ H ⟨τ, O, F, μ, r, h⟩ => h .non σ H F μ (Aft.refl r) (Pin.refl _ _) Dat.non
theorem ds_if {e : Expr} {a b : List Stmt} {pos : Pos} {t : Mm Bool} {f g : Mm Fl} (hc : DT X W e t) (ha : DSs X W pin a f) (hb : DSs X W pin b g) : DS X W pin (.If e a b pos) (t >>= fun b => if b then f else g) :=
  PS.imp (ps_if hc ha hb) fun D σ H q => posts_fst q fun c x c2 v r hσ hH a2 hσ2 hx hp => by
    have hx' : x = v := hx
    subst hx'
    rw [← hσ, ← hσ2]
    cases x with
    | true => exact tS_at a2 (Pin.of_eq hσ2) hp
    | false => exact tS_at a2 (Pin.of_eq hσ2) hp
end

/-! ### stores -/
def st1 (i : Nat) (b : Bool) (d : D) : Mm Unit := fun τ O => .ok () (τ.set i (some (b, d))) O
def stX (i : Nat) (x : Ex) : Mm Unit := match x.k with
  | .tmp => st1 i true x.d
  | _ => frzX x >>= fun d => st1 i false d
section
variable {K : PySem.W.Frag} {mg : Str → Option Value} {W : WX} {c0 c : Cf}
theorem set_get {α : Type} {l : List α} {i j : Nat} {x y : α} (h : (l.set i x)[j]? = some y) : (j = i ∧ y = x) ∨ (j ≠ i ∧ l[j]? = some y) := by
  by_cases hj : j = i
  · subst hj
    rw [List.getElem?_set] at h
    simp only [if_true] at h
    split at h
    · exact .inl ⟨rfl, (Option.some.inj h).symm⟩
    · cases h
  · rw [List.getElem?_set_ne (Ne.symm hj)] at h
    exact .inr ⟨hj, h⟩
theorem aft_store (a : Aft K mg c0 c) (i : Nat) {v : V} {d : D} (hd : Dat K mg c.F c.μ v d) : Aft K mg c0 { c with τ := c.τ.set i (some (false, d)), σ := c.σ.set i (some v) } := by
  have r := a.rl
  have own : ∀ (n : Nat) (e : D), (c.τ.set i (some (false, d)))[n]? = some (some (true, e)) → n ≠ i ∧ c.τ[n]? = some (some (true, e)) := fun n e h => by
    rcases set_get h with ⟨_, z⟩ | z
    · cases z
    · exact z
  have getσ : ∀ n : Nat, n ≠ i → (c.σ.set i (some v))[n]? = c.σ[n]? := fun n hn => List.getElem?_set_ne (Ne.symm hn)
  refine ⟨⟨r.sub, by simpa using r.len, fun n b e h => ?_, fun n m e e' p hnm h1 h2 h3 => ?_, fun n e p h1 h2 => ?_, r.ol, r.nd, r.ob⟩, a.fr, fun b m => ?_, a.mu, a.tr⟩
  · rcases set_get (show (c.τ.set i (some (false, d)))[n]? = some (some (b, e)) from h) with ⟨hn, z⟩ | ⟨hn, z⟩
    · cases z
      subst hn
      have hl : n < c.σ.length := by
        rw [← r.len]
        have := (List.getElem?_eq_some_iff.mp h).1
        simpa using this
      exact ⟨v, List.getElem?_set_self hl, hd⟩
    · obtain ⟨v', e1, e2⟩ := r.sl n b e z
      exact ⟨v', (getσ n hn).trans e1, e2⟩
  · obtain ⟨n1, w1⟩ := own n e h1
    obtain ⟨n2, w2⟩ := own m e' h2
    have h3' : (c.σ.set i (some v))[n]? = some (some (.ref p)) := h3
    rw [getσ n n1] at h3'
    show (c.σ.set i (some v))[m]? ≠ _
    rw [getσ m n2]
    exact r.dj n m e e' p hnm w1 w2 h3'
  · obtain ⟨n1, w1⟩ := own n e h1
    have h2' : (c.σ.set i (some v))[n]? = some (some (.ref p)) := h2
    rw [getσ n n1] at h2'
    exact r.om n e p w1 h2'
  · rcases m with ⟨n, e, h1, h2⟩ | m
    · obtain ⟨n1, w1⟩ := own n e h1
      have h2' : (c.σ.set i (some v))[n]? = some (some (.ref b)) := h2
      rw [getσ n n1] at h2'
      exact a.mi b (.inl ⟨n, e, w1, h2'⟩)
    · exact a.mi b (.inr m)
theorem aft_storeT (a : Aft K mg c0 c) (i : Nat) {p : Addr} {d : D} (hf : c.F p = none) (ho : OwnAt K mg c p d) (hm : ¬ Mine c p) (h0 : c0.H p = none) :
    Aft K mg c0 { c with τ := c.τ.set i (some (true, d)), σ := c.σ.set i (some (.ref p)) } := by
  have r := a.rl
  have getσ : ∀ n : Nat, n ≠ i → (c.σ.set i (some (V.ref p)))[n]? = c.σ[n]? := fun n hn => List.getElem?_set_ne (Ne.symm hn)
  have il : ∀ e : Bool × D, (c.τ.set i (some (true, d)))[i]? = some (some e) → i < c.σ.length := fun e h => by
    rw [← r.len]
    have := (List.getElem?_eq_some_iff.mp h).1
    simpa using this
  refine ⟨⟨r.sub, by simpa using r.len, fun n b e h => ?_, fun n m e e' q hnm h1 h2 h3 => ?_, fun n e q h1 h2 => ?_, r.ol, r.nd, r.ob⟩, a.fr, fun b m => ?_, a.mu, a.tr⟩
  · rcases set_get (show (c.τ.set i (some (true, d)))[n]? = some (some (b, e)) from h) with ⟨hn, z⟩ | ⟨hn, z⟩
    · cases z
      subst hn
      exact ⟨_, List.getElem?_set_self (il _ h), p, rfl, hf, ho⟩
    · obtain ⟨v', e1, e2⟩ := r.sl n b e z
      exact ⟨v', (getσ n hn).trans e1, e2⟩
  · have h3' : (c.σ.set i (some (V.ref p)))[n]? = some (some (.ref q)) := h3
    show (c.σ.set i (some (V.ref p)))[m]? ≠ _
    rcases set_get (show (c.τ.set i (some (true, d)))[n]? = _ from h1) with ⟨n1, z1⟩ | ⟨n1, z1⟩
    · rcases set_get (show (c.τ.set i (some (true, d)))[m]? = _ from h2) with ⟨n2, z2⟩ | ⟨n2, z2⟩
      · exact absurd (n1.trans n2.symm) hnm
      · subst n1
        rw [List.getElem?_set_self (il _ h1)] at h3'
        have hq : q = p := (V.ref.inj (Option.some.inj (Option.some.inj h3'))).symm
        subst hq
        rw [getσ m n2]
        exact fun h4 => hm (.inl ⟨m, e', z2, h4⟩)
    · rw [getσ n n1] at h3'
      rcases set_get (show (c.τ.set i (some (true, d)))[m]? = _ from h2) with ⟨n2, z2⟩ | ⟨n2, z2⟩
      · subst n2
        rw [List.getElem?_set_self (il _ h2)]
        intro h4
        have hq : q = p := (V.ref.inj (Option.some.inj (Option.some.inj h4))).symm
        subst hq
        exact hm (.inl ⟨n, e, z1, h3'⟩)
      · rw [getσ m n2]
        exact r.dj n m e e' q hnm z1 z2 h3'
  · have h2' : (c.σ.set i (some (V.ref p)))[n]? = some (some (.ref q)) := h2
    rcases set_get (show (c.τ.set i (some (true, d)))[n]? = _ from h1) with ⟨n1, z1⟩ | ⟨n1, z1⟩
    · subst n1
      rw [List.getElem?_set_self (il _ h1)] at h2'
      have hq : q = p := (V.ref.inj (Option.some.inj (Option.some.inj h2'))).symm
      subst hq
      exact fun m => hm (.inr m)
    · rw [getσ n n1] at h2'
      exact r.om n e q z1 h2'
  · rcases m with ⟨n, e, h1, h2⟩ | m
    · have h2' : (c.σ.set i (some (V.ref p)))[n]? = some (some (.ref b)) := h2
      rcases set_get (show (c.τ.set i (some (true, d)))[n]? = _ from h1) with ⟨n1, z1⟩ | ⟨n1, z1⟩
      · subst n1
        rw [List.getElem?_set_self (il _ h1)] at h2'
        have hq : b = p := (V.ref.inj (Option.some.inj (Option.some.inj h2'))).symm
        subst hq
        exact .inr h0
      · rw [getσ n n1] at h2'
        exact a.mi b (.inl ⟨n, e, z1, h2'⟩)
    · exact a.mi b (.inr m)
/-- a store into a slot -/
theorem stX_ok {pin : List Nat} {g : Mm Fl} {D : Ends} {x : Ex} {v : V} {i : Nat} (a : Aft K mg c0 c) (p : Pin pin c0.σ c.σ) (hx : ExV K mg c0 c x v) (hi : i ∉ pin)
    (h : PostS K mg W pin c0 ((stX i x >>= fun _ => g) c.τ c.O) D) : tS K mg W pin g D (c.σ.set i (some v)) c.H := by
  obtain ⟨k, d⟩ := x
  cases k with
  | tmp =>
    obtain ⟨q, rfl, hf, ho, hm, h0⟩ := hx
    have a' := aft_storeT a i hf ho hm h0
    exact tS_at a' (p.trans (Pin.set hi)) h
  | frz =>
    have a' := aft_store a i hx
    exact tS_at a' (p.trans (Pin.set hi)) h
  | slot j =>
    have h' : PostS K mg W pin c0 ((frzX ⟨.slot j, d⟩ >>= fun d => st1 i false d >>= fun _ => g) c.τ c.O) D := by
      have e : ((stX i ⟨.slot j, d⟩ >>= fun _ => g) : Mm Fl) c.τ c.O = (frzX ⟨.slot j, d⟩ >>= fun d => st1 i false d >>= fun _ => g) c.τ c.O := by
        unfold stX
        simp only [bind_app]
        cases frzX ⟨.slot j, d⟩ c.τ c.O <;> rfl
      rw [e] at h
      exact h
    rw [bind_app] at h'
    cases e : frzX ⟨.slot j, d⟩ c.τ c.O with
    | ok d' τ' O' =>
      rw [e] at h'
      obtain ⟨eO, F', a', hd⟩ := frz_cf a hx e
      have a2 := aft_store a' i hd
      exact tS_at a2 (p.trans (Pin.set hi)) h'
    | ex cl fs τ' O' =>
      simp only [frzX] at e
      split at e <;> cases e
    | bad => rw [e] at h'; exact h'.elim
end
section
variable {X : Cx} {W : WX} {pin : List Nat}
theorem ds_set (i : Nat) {x : Str} {e : Expr} {pos pos' : Pos} {f : Mm Ex} (hN : X.N.Nodup) (he : DE X W e f) (hi : X.N[i]? = some x := by rfl) (hx : Loc X.env.scope x := by first | exact Or.inl rfl | exact Or.inr rfl)
    (hp : i ∉ pin := by decide) (hs : swapsWith e (some (.Name x pos')) pos.line X.env = pure false := by rfl) (hf : X.fn x = true ∨ X.env.scope.names.lookup x = some .local := by first | exact .inl rfl | exact .inr rfl) :
    DS X W pin (.Assign [.Name x pos'] e pos) (f >>= fun x => stX i x >>= fun _ => pure .nx) :=
  PS.imp (ps_set hN hi hx he hs hf) fun D σ H q => posts_fst q fun c x c2 v r hσ hH a2 hσ2 hx hpp => by
    have h := stX_ok (g := pure .nx) a2 (Pin.of_eq hσ2) hx hp hpp
    rw [hσ2, hσ] at h
    obtain ⟨τ, O, F, μ, r', h'⟩ := h
    exact h' _ _ F μ (Aft.refl r') (Pin.refl _ _)
end

/-! ### while -/
def contM (g : Mm Fl) : Fl → Mm Fl
  | .nx => g
  | .ct => g
  | .bk => pure .nx
  | .rt x => pure (.rt x)
def whileM (c : Mm Bool) (b : Mm Fl) : Nat → Mm Fl
  | 0 => bad
  | n + 1 => c >>= fun t => if t then b >>= contM (whileM c b n) else pure .nx
section
variable {X : Cx} {W : WX} {pin : List Nat}
theorem ds_while (n : Nat) {e : Expr} {body : List Stmt} {pos : Pos} {t : Mm Bool} {f : Mm Fl} (hpo : PassesOwn (model X.prog X.w) X.A X.env X.xe) (hc : DT X W e t) (hb : DSs X W pin body f) : DS X W pin (.While e body [] pos) (whileM t f n) :=
  PS.imp (ps_while hpo hc hb) fun D σ H q => by
    refine ⟨fun m σ H => tS X.K X.mg W pin (whileM t f m) D σ H, ⟨n, q⟩, fun m σ H w => ?_⟩
    cases m with
    | zero =>
      obtain ⟨τ, O, F, μ, r, h⟩ := w
      exact h.elim
    | succ m =>
      refine posts_fst w fun c x c2 b r hσ hH a2 hσ2 hx hp => ?_
      have hx' : x = b := hx
      subst hx'
      cases x with
      | false =>
        rw [if_neg Bool.false_ne_true]
        rw [← hσ, ← hσ2]
        exact hp _ _ c2.F c2.μ a2 (Pin.of_eq hσ2)
      | true =>
        rw [if_pos rfl]
        refine ⟨fun σ' H' => tS X.K X.mg W pin (whileM t f m) D σ' H', fun σ' H' w' => ⟨m, Nat.lt_succ_self _, w'⟩, ?_⟩
        rw [← hσ, ← hσ2]
        refine ⟨c2.τ, c2.O, c2.F, c2.μ, a2.rl, ?_⟩
        have hp' : PostS X.K X.mg W pin c2 ((f >>= contM (whileM t f m)) c2.τ c2.O) D := PostS.from a2 (Pin.of_eq hσ2) hp
        rw [bind_app] at hp'
        cases e : f c2.τ c2.O with
        | ok fl τ1 O1 =>
          rw [e] at hp'
          cases fl with
          | nx => exact fun σ' H' F' μ' a p => tS_at (c1 := ⟨τ1, O1, F', μ', σ', H'⟩) a p hp'
          | ct => exact fun σ' H' F' μ' a p => tS_at (c1 := ⟨τ1, O1, F', μ', σ', H'⟩) a p hp'
          | bk => exact fun σ' H' F' μ' a p => hp' σ' H' F' μ' a p
          | rt x => exact hp'
        | ex cl fs τ1 O1 => rw [e] at hp'; exact hp'
        | bad => rw [e] at hp'; exact hp'.elim
end

/-! ### what is walked -/
/-- J yields the data ds, from the configuration c on -/
structure Walks (K : PySem.W.Frag) (mg : Str → Option Value) (c : Cf) (J : It) (ds : List D) : Prop where
  stop : ∀ c', Aft K mg c c' → J.stop ds.length c'.H
  go : ∀ (c' : Cf) (i : Nat) (d : D), Aft K mg c c' → ds[i]? = some d → J.go i c'.H ∧ ∀ x H3, J.yld i c'.H x H3 → ∃ F3, Aft K mg c' ⟨c'.τ, c'.O, F3, c'.μ, c'.σ, H3⟩ ∧ Dat K mg F3 c'.μ x d
def PostI (K : PySem.W.Frag) (mg : Str → Option Value) (W : WX) (c : Cf) (r : Res (List D)) (R : It → Hp → Prop) : Prop :=
  match r with
  | .ok ds τ' O' => ∀ J H' F' μ', Aft K mg c ⟨τ', O', F', μ', c.σ, H'⟩ → Walks K mg ⟨τ', O', F', μ', c.σ, H'⟩ J ds → R J H'
  | .ex cl fs τ' O' => ∀ C d H' F' μ', Aft K mg c ⟨τ', O', F', μ', c.σ, H'⟩ → mg cl = some (.ref C) → Exd K mg ⟨τ', O', F', μ', c.σ, H'⟩ d fs → W (.ref C) d c.σ H'
  | .bad => False
def tI (K : PySem.W.Frag) (mg : Str → Option Value) (W : WX) (f : Mm (List D)) : TI := fun σ H R => ∃ τ O F μ, Rl K mg ⟨τ, O, F, μ, σ, H⟩ ∧ PostI K mg W ⟨τ, O, F, μ, σ, H⟩ (f τ O) R
/-- an iterable -/
def DI (X : Cx) (W : WX) (tg iter : Expr) (f : Mm (List D)) : Prop := ∃ wi, PI X tg iter wi ∧ ∀ σ H R, tI X.K X.mg W f σ H R → wi σ H R
/-- a target -/
def PostU (K : PySem.W.Frag) (mg : Str → Option Value) (pin : List Nat) (c : Cf) (r : Res Unit) (Q : L2.St → Hp → Prop) : Prop :=
  match r with
  | .ok _ τ' O' => ∀ σ' H' F' μ', Aft K mg c ⟨τ', O', F', μ', σ', H'⟩ → Pin pin c.σ σ' → Q σ' H'
  | _ => False
def DG (X : Cx) (pin : List Nat) (tg : Expr) (f : D → Mm Unit) (g : TG) : Prop := PG X tg g ∧ (∀ d τ O cl fs τ' O', f d τ O ≠ .ex cl fs τ' O') ∧ ∀ (c0 c : Cf) (v : V) (d : D) (Q : L2.St → Hp → Prop), Aft X.K X.mg c0 c → Pin pin c0.σ c.σ → Dat X.K X.mg c.F c.μ v d → PostU X.K X.mg pin c0 (f d c.τ c.O) Q → g v c.σ c.H Q
def forM (b : D → Mm Fl) : List D → Mm Fl
  | [] => pure .nx
  | d :: ds => b d >>= contM (forM b ds)
section
variable {X : Cx} {W : WX} {pin : List Nat}
theorem ds_for {tg iter : Expr} {body : List Stmt} {pos : Pos} {g : TG} {fi : Mm (List D)} {fg : D → Mm Unit} {fb : Mm Fl} (hpo : PassesOwn (model X.prog X.w) X.A X.env X.xe) (hcalm : X.calm = true)
    (hi : DI X W tg iter fi) (hg : DG X pin tg fg g) (hb : DSs X W pin body fb) (hs : ∀ x, foldedSetIterable iter X.env x = pure x := by intro _; rfl) :
    DS X W pin (.For tg iter body [] pos) (fi >>= forM fun d => fg d >>= fun _ => fb) := by
  obtain ⟨wi, hPI, hwi⟩ := hi
  obtain ⟨hPG, hgx, hgu⟩ := hg
  refine PS.imp (ps_for hpo hcalm hPI hPG hb hs) fun D σ H q => ?_
  refine hwi σ H _ ?_
  obtain ⟨τ, O, F, μ, r, hp⟩ := q
  refine ⟨τ, O, F, μ, r, ?_⟩
  rw [bind_app] at hp
  cases e : fi τ O with
  | ex cl fs τ1 O1 =>
    rw [e] at hp
    exact fun C d H' F' μ' a hc hd => hp C d σ H' F' μ' a (Pin.refl _ _) hc hd
  | bad => rw [e] at hp; exact hp.elim
  | ok ds τ1 O1 =>
    rw [e] at hp
    intro J H1 F1 μ1 a1 hJ
    let c1 : Cf := ⟨τ1, O1, F1, μ1, σ, H1⟩
    let fb' : DV.D → Mm Fl := fun d => fg d >>= fun _ => fb
    refine ⟨fun i m σ2 H2 => ∃ τ2 O2 F2 μ2, m = ds.length - i ∧ i ≤ ds.length ∧ Aft X.K X.mg c1 ⟨τ2, O2, F2, μ2, σ2, H2⟩ ∧ Pin pin σ σ2 ∧ PostS X.K X.mg W pin c1 (forM fb' (ds.drop i) τ2 O2) D,
      ⟨ds.length, τ1, O1, F1, μ1, by simp, Nat.zero_le _, Aft.refl a1.rl, Pin.refl _ _, by rw [List.drop_zero]; exact PostS.from (c1 := c1) a1 (Pin.refl _ _) hp⟩, ?_⟩
    rintro i m σ2 H2 ⟨τ2, O2, F2, μ2, hm, hile, a2, p2, hp2⟩
    by_cases hil : i < ds.length
    · right
      obtain ⟨hgo, hy⟩ := hJ.go ⟨τ2, O2, F2, μ2, σ2, H2⟩ i ds[i] a2 (List.getElem?_eq_getElem hil)
      refine ⟨hgo, fun σ3 H3 => ∃ τ3 O3 F3 μ3, Aft X.K X.mg c1 ⟨τ3, O3, F3, μ3, σ3, H3⟩ ∧ Pin pin σ σ3 ∧ PostS X.K X.mg W pin c1 (forM fb' (ds.drop (i + 1)) τ3 O3) D,
        fun σ3 H3 ⟨τ3, O3, F3, μ3, a3, p3, hp3⟩ => ⟨ds.length - (i + 1), by omega, τ3, O3, F3, μ3, rfl, hil, a3, p3, hp3⟩, fun x H3 hx => ?_⟩
      obtain ⟨F3, a3, hd⟩ := hy x H3 hx
      rw [List.drop_eq_getElem_cons hil] at hp2
      have hp3 : PostS X.K X.mg W pin c1 ((fb' ds[i] >>= contM (forM fb' (ds.drop (i + 1)))) τ2 O2) D := hp2
      have a4 := a2.trans a3
      refine hgu c1 ⟨τ2, O2, F3, μ2, σ2, H3⟩ x ds[i] _ a4 p2 hd ?_
      rw [bind_app] at hp3
      show PostU X.K X.mg pin c1 (fg ds[i] τ2 O2) _
      rw [show fb' ds[i] = (fg ds[i] >>= fun _ => fb) from rfl, bind_app] at hp3
      cases eg : fg ds[i] τ2 O2 with
      | ex cl fs τ3 O3 => exact absurd eg (hgx _ _ _ _ _ _ _)
      | bad => rw [eg] at hp3; exact hp3.elim
      | ok u τ3 O3 =>
        rw [eg] at hp3
        intro σ5 H5 F5 μ5 a5 p5
        refine ⟨τ3, O3, F5, μ5, a5.rl, ?_⟩
        cases eb : fb τ3 O3 with
        | ok fl τ4 O4 =>
          simp only [eb] at hp3
          cases fl with
          | nx => exact fun σ' H' F' μ' b q => ⟨τ4, O4, F', μ', a5.trans b, p5.trans q, hp3⟩
          | ct => exact fun σ' H' F' μ' b q => ⟨τ4, O4, F', μ', a5.trans b, p5.trans q, hp3⟩
          | bk => exact fun σ' H' F' μ' b q => hp3 σ' H' F' μ' (a5.trans b) (p5.trans q)
          | rt x => exact fun v σ' H' F' μ' b q ev => hp3 v σ' H' F' μ' (a5.trans b) (p5.trans q) (ev.from a5)
        | ex cl fs τ4 O4 =>
          simp only [eb] at hp3
          exact fun C d σ' H' F' μ' b q hc hd => hp3 C d σ' H' F' μ' (a5.trans b) (p5.trans q) hc hd
        | bad => simp only [eb] at hp3; exact hp3.elim
    · left
      have hi : i = ds.length := by omega
      subst hi
      refine ⟨hJ.stop _ a2, ?_⟩
      rw [List.drop_length] at hp2
      exact hp2 σ2 H2 F2 μ2 a2 p2
end
end DV
namespace DV
open PySem PySem.Spec PyProof.Rows L2

/-! ### targets -/
section
variable {X : Cx} {W : WX} {pin : List Nat}
theorem dg_name (i : Nat) {x : Str} {pos : Pos} (hN : X.N.Nodup) (hi : X.N[i]? = some x := by rfl) (hx : Loc X.env.scope x := by first | exact Or.inl rfl | exact Or.inr rfl) (hp : i ∉ pin := by decide)
    (hf : X.fn x = true ∨ X.env.scope.names.lookup x = some .local := by first | exact .inl rfl | exact .inr rfl) : DG X pin (.Name x pos) (fun d => st1 i false d) (gName i) :=
  ⟨pg_name hN hi hx hf, fun d τ O cl fs τ' O' h => (by cases h), fun c0 c v d Q a p hd h => h _ _ c.F c.μ (aft_store a i hd) (p.trans (Pin.set hp))⟩
/-- several targets -/
def unp : List (D → Mm Unit) → List D → Mm Unit
  | [], [] => pure ()
  | f :: fs, d :: ds => f d >>= fun _ => unp fs ds
  | _, _ => bad
def DGs (X : Cx) (pin : List Nat) (tgs : List Expr) (fs : List (D → Mm Unit)) (g : TGs) : Prop := PGs X tgs g ∧ (∀ ds τ O cl fs' τ' O', unp fs ds τ O ≠ .ex cl fs' τ' O') ∧
  ∀ (c0 c : Cf) (vs : List V) (ds : List D) (Q : L2.St → Hp → Prop), Aft X.K X.mg c0 c → Pin pin c0.σ c.σ → DatL X.K X.mg c.F c.μ vs ds → PostU X.K X.mg pin c0 (unp fs ds c.τ c.O) Q → g vs c.σ c.H Q
theorem dgs_nil : DGs X pin [] [] gNil := by
  refine ⟨pgs_nil, fun ds τ O cl fs' τ' O' h => ?_, fun c0 c vs ds Q a p hd h => ?_⟩
  · cases ds <;> cases h
  · cases ds with
    | nil => cases hd; exact ⟨rfl, h _ _ c.F c.μ a p⟩
    | cons d ds => exact h.elim
theorem dgs_cons {e : Expr} {es : List Expr} {f : D → Mm Unit} {fs : List (D → Mm Unit)} {g : TG} {gs : TGs} (h1 : DG X pin e f g) (h2 : DGs X pin es fs gs) (hs : (assignEach (e :: es) X.env).map (·.2) = assign e X.env :: (assignEach es X.env).map (·.2) := by rfl) : DGs X pin (e :: es) (f :: fs) (gCons g gs) := by
  obtain ⟨p1, x1, u1⟩ := h1
  obtain ⟨p2, x2, u2⟩ := h2
  refine ⟨pgs_cons p1 p2 hs, fun ds τ O cl fs' τ' O' h => ?_, fun c0 c vs ds Q a p hd h => ?_⟩
  · cases ds with
    | nil => cases h
    | cons d ds =>
      unfold unp at h
      rw [bind_app] at h
      cases e : f d τ O with
      | ok u τ1 O1 => rw [e] at h; exact x2 _ _ _ _ _ _ _ h
      | ex cl1 fs1 τ1 O1 => exact x1 _ _ _ _ _ _ _ e
      | bad => rw [e] at h; cases h
  · cases ds with
    | nil => exact h.elim
    | cons d ds =>
      cases hd with
      | cons hd1 hd2 =>
        refine ⟨_, _, rfl, ?_⟩
        have h' : PostU X.K X.mg pin c0 ((f d >>= fun _ => unp fs ds) c.τ c.O) Q := h
        rw [bind_app] at h'
        cases e : f d c.τ c.O with
        | ok u τ1 O1 =>
          rw [e] at h'
          refine u1 c c _ d _ (Aft.refl a.rl) (Pin.refl _ _) hd1 ?_
          rw [e]
          intro σ' H' F' μ' a' p'
          exact u2 c0 ⟨τ1, O1, F', μ', σ', H'⟩ _ ds Q (a.trans a') (p.trans p') (hd2.mono (a'.subF a.rl) a'.mu) h'
        | ex cl1 fs1 τ1 O1 => exact absurd e (x1 _ _ _ _ _ _ _)
        | bad => rw [e] at h'; exact h'.elim
def unpT (n : Nat) (fs : List (D → Mm Unit)) : D → Mm Unit := fun d => match d with
  | .tup ds => if ds.length = n then unp fs ds else bad
  | .lst ds => if ds.length = n then unp fs ds else bad
  | _ => bad
/-- (a, b, ..) = a tuple or a list of that length -/
def gSeq (K : PySem.W.Frag) (n : Nat) (t : TGs) : TG := fun v σ H Q => gTup K n t v σ H Q ∨ gUnl K n t v σ H Q
theorem pg_seq {es : List Expr} {k : Nat} {pos : Pos} {t : TGs} {n : Nat} (hc : X.calm = true) (h : PGs X es t) (hn : (assignEach es X.env).length = n) (hst : (assignEach es X.env).findIdx? (·.1) = none) : PG X (.Tuple es k pos) (gSeq X.K n t) :=
  ⟨fun pins s σ H v u Q I r hw => hw.elim ((pg_tup (k := k) (pos := pos) hc h hn hst).run pins s σ H v u Q I r) ((pg_unl (k := k) (pos := pos) hc h hn hst).run pins s σ H v u Q I r)⟩
theorem dg_tup {es : List Expr} {fs : List (D → Mm Unit)} {k : Nat} {pos : Pos} {g : TGs} (n : Nat) (hc : X.calm = true) (h : DGs X pin es fs g) (hn : (assignEach es X.env).length = n := by rfl) (hst : (assignEach es X.env).findIdx? (·.1) = none := by rfl) : DG X pin (.Tuple es k pos) (unpT n fs) (gSeq X.K n g) := by
  obtain ⟨p1, x1, u1⟩ := h
  refine ⟨pg_seq (k := k) (pos := pos) (n := n) hc p1 hn hst, fun d τ O cl fs' τ' O' h => ?_, fun c0 c v d Q a p hd h => ?_⟩
  · cases d with
    | tup ds | lst ds =>
      unfold unpT at h
      by_cases hl : ds.length = n
      · simp only [hl, if_true] at h
        exact x1 _ _ _ _ _ _ _ h
      · simp only [if_neg hl] at h
        cases h
    | _ => cases h
  · cases d with
    | tup ds =>
      cases hd with
      | tup h1 h2 =>
        unfold unpT at h
        by_cases hl : ds.length = n
        · simp only [hl, if_true] at h
          exact .inl ⟨_, _, rfl, SqT.of (a.rl.sub _ _ h1), by rw [h2.length]; exact hl, u1 c0 c _ ds Q a p h2 h⟩
        · simp only [if_neg hl] at h
          exact h.elim
    | lst ds =>
      cases hd with
      | lst h1 h2 =>
        unfold unpT at h
        by_cases hl : ds.length = n
        · simp only [hl, if_true] at h
          exact .inr ⟨_, _, rfl, SqL.of (a.rl.sub _ _ h1), by rw [h2.length]; exact hl, u1 c0 c _ ds Q a p h2 h⟩
        · simp only [if_neg hl] at h
          exact h.elim
    | _ => exact h.elim
end

/-! ### iterables -/
def seqD : D → Option (List D)
  | .lst ds => some ds
  | .tup ds => some ds
  | .str s => some (s.cps.toList.map fun c => .str ⟨#[c]⟩)
  | _ => none
def rngD (lo : Int) (n : Nat) : List D := (List.range n).map fun (k : Nat) => D.int (lo + k)
def inB (i : Int) : Bool := decide (-(2 ^ 62) ≤ i) && decide (i < 2 ^ 62)
theorem rngD_len (lo : Int) (n : Nat) : (rngD lo n).length = n := by simp [rngD]
theorem rngD_get {lo : Int} {n i : Nat} {d : D} (h : (rngD lo n)[i]? = some d) : i < n ∧ d = .int (lo + i) := by
  unfold rngD at h
  rw [List.getElem?_map] at h
  by_cases hi : i < n
  · rw [List.getElem?_range hi] at h
    exact ⟨hi, (Option.some.inj h).symm⟩
  · rw [List.getElem?_eq_none (by simpa using hi)] at h
    cases h
section
variable {K : PySem.W.Frag} {mg : Str → Option Value} {c : Cf}
theorem walks_lst {a : Addr} {vs : List V} {ds : List D} (r : Rl K mg c) (h : c.F a = some (.lst vs)) (hd : DatL K mg c.F c.μ vs ds) : Walks K mg c (Itl K a) ds where
  stop := fun c' ac => ⟨vs, SqL.of (ac.rl.sub _ _ (ac.subF r _ _ h)), Nat.le_of_eq hd.length⟩
  go := fun c' i d ac e => by
    have h' := SqL.of (K := K) (ac.rl.sub _ _ (ac.subF r _ _ h))
    obtain ⟨v, e1, e2⟩ := hd.get e
    refine ⟨⟨vs, v, h', e1⟩, fun x H3 y => ?_⟩
    obtain ⟨rfl, y⟩ := y
    have q := y vs h'
    rw [e1] at q
    have q' := Option.some.inj q
    subst q'
    exact ⟨c'.F, Aft.refl ac.rl, e2.mono (ac.subF r) ac.mu⟩
theorem walks_tup {a : Addr} {vs : List V} {ds : List D} (r : Rl K mg c) (h : c.F a = some (.tup vs)) (hd : DatL K mg c.F c.μ vs ds) : Walks K mg c (Itt K a) ds where
  stop := fun c' ac => ⟨vs, SqT.of (ac.rl.sub _ _ (ac.subF r _ _ h)), Nat.le_of_eq hd.length⟩
  go := fun c' i d ac e => by
    have h' := SqT.of (K := K) (ac.rl.sub _ _ (ac.subF r _ _ h))
    obtain ⟨v, e1, e2⟩ := hd.get e
    refine ⟨⟨vs, v, h', e1⟩, fun x H3 y => ?_⟩
    obtain ⟨rfl, y⟩ := y
    have q := y vs h'
    rw [e1] at q
    have q' := Option.some.inj q
    subst q'
    exact ⟨c'.F, Aft.refl ac.rl, e2.mono (ac.subF r) ac.mu⟩
theorem walks_str {s : Str} (r : Rl K mg c) : Walks K mg c (Its s) (s.cps.toList.map fun c => .str ⟨#[c]⟩) where
  stop := fun c' ac => by
    show s.cps.size ≤ _
    simp
  go := fun c' i d ac e => by
    rw [List.getElem?_map] at e
    cases q : s.cps.toList[i]? with
    | none => rw [q] at e; cases e
    | some k =>
      rw [q] at e
      have e' := Option.some.inj e
      have hi : i < s.cps.size := by
        have := (List.getElem?_eq_some_iff.mp q).1
        simpa using this
      refine ⟨hi, fun x H3 y => ?_⟩
      obtain ⟨rfl, k', h1, rfl⟩ := y
      have h2 : s.cps[i]? = some k := by simpa using q
      rw [h1] at h2
      have h3 := Option.some.inj h2
      subst h3
      refine ⟨c'.F, Aft.refl ac.rl, ?_⟩
      rw [← e']
      exact .str _
theorem walks_rng {lo : Int} {n : Nat} (r : Rl K mg c) : Walks K mg c (Itr lo n) (rngD lo n) where
  stop := fun c' ac => Nat.le_of_eq (rngD_len lo n).symm
  go := fun c' i d ac e => by
    obtain ⟨hi, rfl⟩ := rngD_get e
    refine ⟨hi, fun x H3 y => ?_⟩
    obtain ⟨rfl, rfl⟩ := y
    exact ⟨c'.F, Aft.refl ac.rl, .int _⟩
end
section
variable {X : Cx} {W : WX} {pin : List Nat} {tg : Expr}
theorem PI.or {iter : Expr} {w1 w2 : TI} (h1 : PI X tg iter w1) (h2 : PI X tg iter w2) : PI X tg iter (fun σ H R => w1 σ H R ∨ w2 σ H R) :=
  ⟨fun pins s σ H R I h => h.elim (h1.run pins s σ H R I) (h2.run pins s σ H R I)⟩
/-- f, then what is walked -/
theorem posti_seq {α β : Type} {K : PySem.W.Frag} {mg : Str → Option Value} {VRa : Cf → Cf → α → β → Prop} {f : Mm α} {g : α → Mm (List D)} {R : It → Hp → Prop} {σ : L2.St} {H : Hp} {Q' : β → Hp → Prop} (h : tI K mg W (f >>= g) σ H R)
    (k : ∀ c x c2 y, Aft K mg c c2 → c2.σ = c.σ → VRa c c2 x y → PostI K mg W c (g x c2.τ c2.O) R → Q' y c2.H) : tM K mg W VRa f σ H Q' := by
  obtain ⟨τ, O, F, μ, r, h⟩ := h
  refine ⟨τ, O, F, μ, r, ?_⟩
  rw [bind_app] at h
  cases e : f τ O with
  | ok x τ2 O2 =>
    rw [e] at h
    exact fun y H2 F2 μ2 a2 v => k ⟨τ, O, F, μ, σ, H⟩ x ⟨τ2, O2, F2, μ2, σ, H2⟩ y a2 rfl v h
  | ex cl fs τ2 O2 => rw [e] at h; exact h
  | bad => rw [e] at h; exact h.elim
/-- a list, a tuple, a text -/
theorem di_seq {e : Expr} {f : Mm D} (h : DF X W e f) : DI X W tg e (f >>= fun d => opt (seqD d)) := by
  refine ⟨_, PI.or (pi_list h) (PI.or (pi_tup h) (pi_str h)), fun σ H R q => ?_⟩
  have q0 := q
  obtain ⟨τ, O, F, μ, r, hp⟩ := q0
  rw [bind_app] at hp
  cases e : f τ O with
  | ex cl fs τ2 O2 =>
    rw [e] at hp
    refine .inl ⟨τ, O, F, μ, r, ?_⟩
    rw [e]
    exact hp
  | bad => rw [e] at hp; exact hp.elim
  | ok d τ2 O2 =>
    rw [e] at hp
    cases d with
    | lst ds =>
      refine .inl ⟨τ, O, F, μ, r, ?_⟩
      rw [e]
      intro v H' F' μ' a hv
      cases hv with
      | lst h1 h2 =>
        exact ⟨_, rfl, ⟨_, SqL.of (a.rl.sub _ _ h1)⟩, hp _ _ F' μ' a (walks_lst a.rl h1 h2)⟩
    | tup ds =>
      refine .inr (.inl ⟨τ, O, F, μ, r, ?_⟩)
      rw [e]
      intro v H' F' μ' a hv
      cases hv with
      | tup h1 h2 =>
        exact ⟨_, rfl, ⟨_, SqT.of (a.rl.sub _ _ h1)⟩, hp _ _ F' μ' a (walks_tup a.rl h1 h2)⟩
    | str s =>
      refine .inr (.inr ⟨τ, O, F, μ, r, ?_⟩)
      rw [e]
      intro v H' F' μ' a hv
      cases hv
      exact ⟨_, rfl, hp _ _ F' μ' a (walks_str a.rl)⟩
    | _ => exact hp.elim
def rng1 (d : List D) : Option (List D) := match d with
  | [.int n] => if inB n then some (rngD 0 n.toNat) else none
  | _ => none
def rng2 (d : List D) : Option (List D) := match d with
  | [.int a, .int b] => if inB a && inB b then some (rngD a (b - a).toNat) else none
  | _ => none
theorem inB_lo {i : Int} (h : inB i = true) : -(2 ^ 62) ≤ i := of_decide_eq_true (Bool.and_eq_true_iff.mp h).1
theorem inB_hi {i : Int} (h : inB i = true) : i < 2 ^ 62 := of_decide_eq_true (Bool.and_eq_true_iff.mp h).2
theorem di_rng1 {a : Expr} {p pos : Pos} {f : Mm (List D)} (hm : X.mg "range" = none) (ha : DFs X W [a] f) (hg : Gl X "range" := by rfl) (hs : starEach [a] X.env = [(false, eval a X.env)] := by rfl) :
    DI X W tg (.Call (.Name "range" p) [a] [] pos) (f >>= fun d => opt (rng1 d)) :=
  ⟨_, pi_range1 hg hm ha hs, fun σ H R q => posti_seq q fun c x c2 vs a2 hσ2 hv hp => by
    match x, hp with
    | [.int n], hp =>
      cases hb : inB n with
      | false => simp only [rng1, hb] at hp; exact hp.elim
      | true =>
        simp only [rng1, hb] at hp
        cases hv with
        | cons h1 h2 =>
          cases h1
          cases h2
          obtain ⟨τ2, O2, F2, μ2, σ2, H2⟩ := c2
          have hσ' : σ2 = c.σ := hσ2
          subst hσ'
          exact ⟨n, rfl, inB_lo hb, inB_hi hb, hp _ _ F2 μ2 a2 (walks_rng a2.rl)⟩⟩
theorem di_rng2 {a b : Expr} {p pos : Pos} {f : Mm (List D)} (hm : X.mg "range" = none) (ha : DFs X W [a, b] f) (hg : Gl X "range" := by rfl) (hs : starEach [a, b] X.env = [(false, eval a X.env), (false, eval b X.env)] := by rfl) (hs2 : starEach [b] X.env = [(false, eval b X.env)] := by rfl) :
    DI X W tg (.Call (.Name "range" p) [a, b] [] pos) (f >>= fun d => opt (rng2 d)) :=
  ⟨_, pi_range2 hg hm ha hs hs2, fun σ H R q => posti_seq q fun c x c2 vs a2 hσ2 hv hp => by
    match x, hp with
    | [.int n, .int m], hp =>
      cases hb : (inB n && inB m) with
      | false => simp only [rng2, hb] at hp; exact hp.elim
      | true =>
        simp only [rng2, hb] at hp
        have hb' := Bool.and_eq_true_iff.mp hb
        cases hv with
        | cons h1 h2 =>
          cases h1
          cases h2 with
          | cons h3 h4 =>
            cases h3
            cases h4
            obtain ⟨τ2, O2, F2, μ2, σ2, H2⟩ := c2
            have hσ' : σ2 = c.σ := hσ2
            subst hσ'
            exact ⟨n, m, rfl, ⟨inB_lo hb'.1, inB_hi hb'.1, inB_lo hb'.2, inB_hi hb'.2⟩, hp _ _ F2 μ2 a2 (walks_rng a2.rl)⟩⟩
end
end DV
namespace DV
open PySem PySem.Spec PyProof.Rows L2

/-! ### a list comprehension -/
def wipeT (τ : Sto) : List Nat → Sto
  | [] => τ
  | v :: vs => (wipeT τ vs).set v none
/-- the block's own slots as they were -/
def backT (τ0 : Sto) (τ : Sto) : List Nat → Sto
  | [] => τ
  | v :: vs => (backT τ0 τ vs).set v (τ0.getD v none)
def wipM (vs : List Nat) : Mm Unit := fun τ O => .ok () (wipeT τ vs) O
/-- one turn: the item's data, or nothing -/
def turnM (vs : List Nat) (tgt : D → Mm Unit) (tt : Mm Bool) (elt : Mm D) (d : D) : Mm (Option D) :=
  wipM vs >>= fun _ => tgt d >>= fun _ => tt >>= fun b => if b then elt >>= fun y => pure (some y) else pure none
def compM (vs : List Nat) (tgt : D → Mm Unit) (tt : Mm Bool) (elt : Mm D) : List D → List D → Mm (List D)
  | acc, [] => pure acc
  | acc, d :: ds => turnM vs tgt tt elt d >>= fun o => match o with
    | some y => if small (acc.length + 1) then compM vs tgt tt elt (acc ++ [y]) ds else bad
    | none => compM vs tgt tt elt acc ds
def lcK (vs : List Nat) (tgt : D → Mm Unit) (tt : Mm Bool) (elt : Mm D) (ds : List D) : Mm Ex := fun τ O =>
  match compM vs tgt tt elt [] ds (wipeT τ vs) O with
  | .ok acc τ' O' => .ok ⟨.tmp, .lst acc⟩ (backT τ τ' vs) O'
  | _ => .bad
def lcM (vs : List Nat) (fi : Mm (List D)) (tgt : D → Mm Unit) (tt : Mm Bool) (elt : Mm D) : Mm Ex := fi >>= lcK vs tgt tt elt
/-- nothing is let out -/
abbrev W0 : WX := fun _ _ _ _ => False
theorem wipeT_len (τ : Sto) : ∀ vs : List Nat, (wipeT τ vs).length = τ.length
  | [] => rfl
  | v :: vs => by unfold wipeT; rw [List.length_set, wipeT_len τ vs]
theorem wipeT_get {τ : Sto} {i : Nat} {p : Bool × D} : ∀ {vs : List Nat}, (wipeT τ vs)[i]? = some (some p) → τ[i]? = some (some p) ∧ i ∉ vs
  | [], h => ⟨h, by simp⟩
  | v :: vs, h => by
    unfold wipeT at h
    rcases set_get h with ⟨_, z⟩ | ⟨h1, h2⟩
    · cases z
    · obtain ⟨e1, e2⟩ := wipeT_get h2
      exact ⟨e1, by simp only [List.mem_cons, not_or]; exact ⟨h1, e2⟩⟩
theorem wipe_off {α : Type} {σ : L2.St} {i : Nat} : ∀ {vs : List Nat}, i ∉ vs → (wipe σ vs)[i]? = σ[i]?
  | [], _ => rfl
  | v :: vs, h => by
    unfold wipe
    simp only [List.mem_cons, not_or] at h
    rw [List.getElem?_set_ne (fun e => h.1 e.symm)]
    exact wipe_off (α := α) h.2
theorem backT_len (τ0 τ : Sto) : ∀ vs : List Nat, (backT τ0 τ vs).length = τ.length
  | [] => rfl
  | v :: vs => by unfold backT; rw [List.length_set, backT_len τ0 τ vs]
theorem backT_get {τ0 τ : Sto} {i : Nat} {p : Bool × D} : ∀ {vs : List Nat}, (backT τ0 τ vs)[i]? = some (some p) → (i ∈ vs ∧ τ0[i]? = some (some p)) ∨ (i ∉ vs ∧ τ[i]? = some (some p))
  | [], h => .inr ⟨by simp, h⟩
  | v :: vs, h => by
    unfold backT at h
    rcases set_get h with ⟨e, z⟩ | ⟨h1, h2⟩
    · subst e
      refine .inl ⟨by simp, ?_⟩
      have z' : τ0.getD i none = some p := z.symm
      rw [List.getD_eq_getElem?_getD] at z'
      cases q : τ0[i]? with
      | none => rw [q] at z'; cases z'
      | some o => rw [q] at z'; rw [show o = some p from z']
    · rcases backT_get h2 with ⟨e1, e2⟩ | ⟨e1, e2⟩
      · exact .inl ⟨List.mem_cons_of_mem _ e1, e2⟩
      · exact .inr ⟨by simp only [List.mem_cons, not_or]; exact ⟨h1, e1⟩, e2⟩
section
variable {K : PySem.W.Frag} {mg : Str → Option Value} {W : WX} {c0 c c1 : Cf}
/-- the block's start: its own slots forgotten -/
theorem Rl.wipe (r : Rl K mg c) (vs : List Nat) : Rl K mg { c with τ := wipeT c.τ vs, σ := L2.wipe c.σ vs } where
  sub := r.sub
  len := by
    show (wipeT c.τ vs).length = (L2.wipe c.σ vs).length
    rw [wipeT_len, wipe_length]
    exact r.len
  sl := fun i b d e => by
    obtain ⟨e1, e2⟩ := wipeT_get e
    obtain ⟨v, e3, e4⟩ := r.sl i b d e1
    exact ⟨v, (wipe_off (α := Unit) e2).trans e3, e4⟩
  dj := fun i j d e a hij h1 h2 h3 => by
    obtain ⟨e1, e2⟩ := wipeT_get h1
    obtain ⟨e3, e4⟩ := wipeT_get h2
    have h3' : (L2.wipe c.σ vs)[i]? = some (some (.ref a)) := h3
    rw [wipe_off (α := Unit) e2] at h3'
    show (L2.wipe c.σ vs)[j]? ≠ _
    rw [wipe_off (α := Unit) e4]
    exact r.dj i j d e a hij e1 e3 h3'
  om := fun i d a h1 h2 => by
    obtain ⟨e1, e2⟩ := wipeT_get h1
    have h2' : (L2.wipe c.σ vs)[i]? = some (some (.ref a)) := h2
    rw [wipe_off (α := Unit) e2] at h2'
    exact r.om i d a e1 h2'
  ol := r.ol
  nd := r.nd
  ob := r.ob
theorem mine_wipe {vs : List Nat} {a : Addr} (h : Mine { c with τ := wipeT c.τ vs, σ := L2.wipe c.σ vs } a) : Mine c a := by
  rcases h with ⟨i, d, h1, h2⟩ | h
  · obtain ⟨e1, e2⟩ := wipeT_get h1
    have h2' : (L2.wipe c.σ vs)[i]? = some (some (.ref a)) := h2
    rw [wipe_off (α := Unit) e2] at h2'
    exact .inl ⟨i, d, e1, h2'⟩
  · exact .inr h
theorem aft_wipe (a : Aft K mg c0 c) (vs : List Nat) : Aft K mg c0 { c with τ := wipeT c.τ vs, σ := L2.wipe c.σ vs } :=
  ⟨a.rl.wipe vs, a.fr, fun b m => a.mi b (mine_wipe m), a.mu, a.tr⟩
/-- within a block the other slots stand at the same things -/
theorem own_back {vs : List Nat} (r : Rl K mg c) {i : Nat} {d : D} {p : Addr} (h1 : c.τ[i]? = some (some (true, d))) (h2 : c.σ[i]? = some (some (.ref p))) : ∃ o, c.H p = some o := by
  obtain ⟨v, e3, e4⟩ := r.sl i true d h1
  rw [h2] at e3
  have e' := Option.some.inj (Option.some.inj e3)
  subst e'
  obtain ⟨q, eq, _, ho⟩ := e4
  cases eq
  exact ho.some
/-- from a block's configuration (σ apart from the block's own slots the start's) back to the outer one -/
theorem aft_back (r : Rl K mg c) {vs : List Nat} {τ' : Sto} {O' : Ob} {F' : Hp} {μ' : List Addr} {σ' : L2.St} {H' : Hp}
    (a : Aft K mg { c with τ := wipeT c.τ vs, σ := L2.wipe c.σ vs } ⟨τ', O', F', μ', σ', H'⟩) (hw : L2.wipe σ' vs = L2.wipe c.σ vs) : Aft K mg c ⟨backT c.τ τ' vs, O', F', μ', c.σ, H'⟩ := by
  have r' := a.rl
  have off : ∀ i : Nat, i ∉ vs → σ'[i]? = c.σ[i]? := fun i hi => by
    rw [← wipe_off (α := Unit) (σ := σ') hi, hw, wipe_off (α := Unit) hi]
  -- an own slot of the outer frame that the block hides
  have hid : ∀ (i : Nat) (d : D) (p : Addr), i ∈ vs → c.τ[i]? = some (some (true, d)) → c.σ[i]? = some (some (V.ref p)) → ¬ Mine { c with τ := wipeT c.τ vs, σ := L2.wipe c.σ vs } p := fun i d p hi h1 h2 m => by
    rcases m with ⟨j, e, h3, h4⟩ | m
    · obtain ⟨e1, e2⟩ := wipeT_get h3
      have h4' : (L2.wipe c.σ vs)[j]? = some (some (.ref p)) := h4
      rw [wipe_off (α := Unit) e2] at h4'
      exact r.dj i j d e p (fun z => e2 (z ▸ hi)) h1 e1 h2 h4'
    · exact r.om i d p h1 h2 m
  have sF : Sub c.F F' := a.subF (r.wipe vs)
  -- an owned slot of the end
  have own : ∀ (i : Nat) (d : D), (backT c.τ τ' vs)[i]? = some (some (true, d)) → (i ∈ vs ∧ c.τ[i]? = some (some (true, d))) ∨ (i ∉ vs ∧ τ'[i]? = some (some (true, d))) := fun i d h => backT_get h
  have fresh : ∀ (i j : Nat) (d e : D) (p : Addr), i ∈ vs → c.τ[i]? = some (some (true, d)) → c.σ[i]? = some (some (V.ref p)) → j ∉ vs → τ'[j]? = some (some (true, e)) → c.σ[j]? = some (some (V.ref p)) → False := fun i j d e p hi h1 h2 hj h3 h4 => by
    obtain ⟨o, ho⟩ := own_back (vs := vs) r h1 h2
    rcases a.mi p (.inl ⟨j, e, h3, by show σ'[j]? = _; rw [off j hj]; exact h4⟩) with z | z
    · exact hid i d p hi h1 h2 z
    · have z' : c.H p = none := z
      rw [ho] at z'; cases z'
  refine ⟨⟨r'.sub, ?_, fun i b d e => ?_, fun i j d e p hij h1 h2 h3 => ?_, fun i d p h1 h2 => ?_, r'.ol, r'.nd, r'.ob⟩, fun b o h n => a.fr b o h fun m => n (mine_wipe m), fun b m => ?_, a.mu, a.tr⟩
  · show (backT c.τ τ' vs).length = c.σ.length
    rw [backT_len]
    have e1 : τ'.length = σ'.length := r'.len
    have e2 := congrArg List.length hw
    rw [wipe_length, wipe_length] at e2
    omega
  · rcases backT_get (show (backT c.τ τ' vs)[i]? = _ from e) with ⟨hi, h1⟩ | ⟨hi, h1⟩
    · obtain ⟨v, e1, e2⟩ := r.sl i b d h1
      refine ⟨v, e1, ?_⟩
      cases b with
      | false => exact Dat.mono sF a.mu _ _ e2
      | true =>
        obtain ⟨p, rfl, hf, ho⟩ := e2
        obtain ⟨o, hp⟩ := ho.some
        obtain ⟨k1, k2⟩ := a.fr p o hp (hid i d p hi h1 e1)
        exact ⟨p, rfl, k2.trans hf, ho.keep (k1.trans hp.symm) sF a.mu⟩
    · obtain ⟨v, e1, e2⟩ := r'.sl i b d h1
      exact ⟨v, (off i hi).symm.trans e1, e2⟩
  · have h3' : c.σ[i]? = some (some (.ref p)) := h3
    intro h4
    have h4' : c.σ[j]? = some (some (.ref p)) := h4
    rcases own i d h1 with ⟨i1, w1⟩ | ⟨i1, w1⟩
    · rcases own j e h2 with ⟨j1, w2⟩ | ⟨j1, w2⟩
      · exact r.dj i j d e p hij w1 w2 h3' h4'
      · exact fresh i j d e p i1 w1 h3' j1 w2 h4'
    · rcases own j e h2 with ⟨j1, w2⟩ | ⟨j1, w2⟩
      · exact fresh j i e d p j1 w2 h4' i1 w1 h3'
      · exact r'.dj i j d e p hij w1 w2 (by show σ'[i]? = _; rw [off i i1]; exact h3') (by show σ'[j]? = _; rw [off j j1]; exact h4')
  · have h2' : c.σ[i]? = some (some (.ref p)) := h2
    rcases own i d h1 with ⟨i1, w1⟩ | ⟨i1, w1⟩
    · intro m
      obtain ⟨o, ho⟩ := own_back (vs := vs) r w1 h2'
      rcases a.mi p (.inr m) with z | z
      · exact hid i d p i1 w1 h2' z
      · have z' : c.H p = none := z
        rw [ho] at z'; cases z'
    · exact r'.om i d p w1 (by show σ'[i]? = _; rw [off i i1]; exact h2')
  · rcases m with ⟨i, d, h1, h2⟩ | m
    · have h2' : c.σ[i]? = some (some (.ref b)) := h2
      rcases own i d h1 with ⟨i1, w1⟩ | ⟨i1, w1⟩
      · exact .inl (.inl ⟨i, d, w1, h2'⟩)
      · rcases a.mi b (.inl ⟨i, d, w1, by show σ'[i]? = _; rw [off i i1]; exact h2'⟩) with z | z
        · exact .inl (mine_wipe z)
        · exact .inr z
    · rcases a.mi b (.inr m) with z | z
      · exact .inl (mine_wipe z)
      · exact .inr z
/-- a thing of nobody's is changed -/
theorem aft_setT (a : Aft K mg c0 c) {p : Addr} {o : HO} (h0 : c0.H p = none) (hf : c.F p = none) (hm : ¬ Mine c p) : Aft K mg c0 { c with H := upd c.H p o } := by
  have r := a.rl
  refine ⟨⟨fun b u e => ?_, r.len, fun i b d e => ?_, r.dj, r.om, r.ol, r.nd, fun n q cl fs h1 h2 => ?_⟩, fun b u h n => ?_, a.mi, a.mu, fun b u h => ?_⟩
  · have : b ≠ p := fun z => by rw [z, hf] at e; cases e
    exact (upd_ne this).trans (r.sub _ _ e)
  · obtain ⟨v, e1, e2⟩ := r.sl i b d e
    refine ⟨v, e1, ?_⟩
    cases b with
    | false => exact e2
    | true =>
      obtain ⟨q, rfl, h1, h2⟩ := e2
      have : q ≠ p := fun z => hm (.inl ⟨i, d, e, by rw [← z]; exact e1⟩)
      exact ⟨q, rfl, h1, h2.keep (upd_ne this) (Sub.refl _) (Pfx.refl _)⟩
  · obtain ⟨h3, h4⟩ := r.ob n q cl fs h1 h2
    have : q ≠ p := fun z => hm (.inr (by rw [← z]; exact List.mem_of_getElem? h1))
    exact ⟨h3, h4.keep (upd_ne this) (Sub.refl _) (Pfx.refl _)⟩
  · have : b ≠ p := fun z => by rw [z, h0] at h; cases h
    obtain ⟨k1, k2⟩ := a.fr b u h n
    exact ⟨(upd_ne this).trans k1, k2⟩
  · have : b ≠ p := fun z => by rw [z, h0] at h; cases h
    obtain ⟨o', h'⟩ := a.tr b u h
    exact ⟨o', (upd_ne this).trans h'⟩
end
/-- the slots that a block may not change -/
def bpin (N : Nat) (vs : List Nat) : List Nat := (List.range N).filter fun i => decide (i ∉ vs)
theorem wipe_same {N : Nat} {vs : List Nat} {σ σ2 : L2.St} (hN : σ.length ≤ N) (p : Pin (bpin N vs) (L2.wipe σ vs) σ2) : L2.wipe σ2 vs = L2.wipe σ vs := by
  have hl : σ2.length = σ.length := by
    rw [p.1, wipe_length]
  have none_in : ∀ (ρ : L2.St) (ws : List Nat) (i : Nat), i ∈ ws → i < ρ.length → (L2.wipe ρ ws)[i]? = some none := fun ρ ws i => by
    induction ws with
    | nil => intro h; simp at h
    | cons v ws ih =>
      intro h hi
      unfold L2.wipe
      by_cases hv : v = i
      · subst hv
        exact List.getElem?_set_self (by rw [wipe_length]; exact hi)
      · rw [List.getElem?_set_ne hv]
        rcases List.mem_cons.mp h with z | z
        · exact absurd z.symm hv
        · exact ih z hi
  apply List.ext_getElem?
  intro i
  by_cases hi : i ∈ vs
  · by_cases hb : i < σ.length
    · rw [none_in σ2 vs i hi (by rw [hl]; exact hb), none_in σ vs i hi hb]
    · rw [List.getElem?_eq_none (by rw [wipe_length, hl]; omega), List.getElem?_eq_none (by rw [wipe_length]; omega)]
  · rw [wipe_off (α := Unit) hi, wipe_off (α := Unit) hi]
    by_cases hb : i < σ.length
    · rw [p.2 i (by simp only [bpin, List.mem_filter, List.mem_range, decide_eq_true_eq]; exact ⟨by omega, hi⟩), wipe_off (α := Unit) hi]
    · rw [List.getElem?_eq_none (by omega), List.getElem?_eq_none (by omega)]
/-- tests of a comprehension -/
theorem dts_nil {X : Cx} : PTs X [] (tM X.K X.mg W0 BV (pure true)) := ⟨fun pins s σ H Q I ⟨τ, O, F, μ, r, h⟩ => pts_nil.run pins s σ H Q I (h true H F μ (Aft.refl r) rfl)⟩
theorem dts_one {X : Cx} {e : Expr} {f : Mm Bool} (h : DT X W0 e f) : PTs X [e] (tM X.K X.mg W0 BV f) := pts_one h
section
variable {X : Cx} {W : WX}
theorem tLc_of {wi : TI} {g : TG} {vs : List Nat} {fi : Mm (List D)} {fg : D → Mm Unit} {fb : Mm Bool} {fe : Mm D} {tg iter : Expr} {N : Nat} (hwi : ∀ σ H R, tI X.K X.mg W fi σ H R → wi σ H R)
    (hgx : ∀ d τ O cl fs τ' O', fg d τ O ≠ .ex cl fs τ' O')
    (hg : ∀ (c0 c : Cf) (v : V) (d : D) (Q : L2.St → Hp → Prop), Aft X.K X.mg c0 c → Pin (bpin N vs) c0.σ c.σ → Dat X.K X.mg c.F c.μ v d → PostU X.K X.mg (bpin N vs) c0 (fg d c.τ c.O) Q → g v c.σ c.H Q)
    {σ : L2.St} {H : Hp} {Q : VK} (hN : σ.length ≤ N) (q : tM X.K X.mg W (ExV X.K X.mg) (lcM vs fi fg fb fe) σ H Q) :
    tLc wi g (tM X.K X.mg W0 BV fb) (tM X.K X.mg W0 (DatV X.K X.mg) fe) vs σ H Q := by
  refine hwi σ H _ ?_
  obtain ⟨τ, O, F, μ, r, hp⟩ := q
  refine ⟨τ, O, F, μ, r, ?_⟩
  unfold lcM at hp
  rw [bind_app] at hp
  cases e : fi τ O with
  | ex cl fs τ1 O1 => rw [e] at hp; exact hp
  | bad => rw [e] at hp; exact hp.elim
  | ok ds τ1 O1 =>
    rw [e] at hp
    intro J H1 F1 μ1 a1 hJ L hL
    let c1 : Cf := ⟨τ1, O1, F1, μ1, σ, H1⟩
    have rc1 : Rl X.K X.mg c1 := a1.rl
    let c1w : Cf := { c1 with τ := wipeT c1.τ vs, σ := L2.wipe c1.σ vs }
    have rw1 : Rl X.K X.mg c1w := rc1.wipe vs
    have a1w : Aft X.K X.mg c1 c1w := aft_wipe (Aft.refl rc1) vs
    have hFL : F1 L = none := by
      cases z : F1 L with
      | none => rfl
      | some o =>
        have z' : H1 L = some o := a1.rl.sub L o z
        rw [z'] at hL; cases hL
    have nML : ¬ Mine c1w L := not_mine_new rw1 hL
    have hp' : ∃ acc τ' O', compM vs fg fb fe [] ds (wipeT τ1 vs) O1 = .ok acc τ' O' ∧ Post X.K X.mg W (ExV X.K X.mg) ⟨τ, O, F, μ, σ, H⟩ (.ok ⟨.tmp, .lst acc⟩ (backT τ1 τ' vs) O') Q := by
      have hp2 : Post X.K X.mg W (ExV X.K X.mg) ⟨τ, O, F, μ, σ, H⟩ (lcK vs fg fb fe ds τ1 O1) Q := hp
      unfold lcK at hp2
      cases e2 : compM vs fg fb fe [] ds (wipeT τ1 vs) O1 with
      | ok acc τ' O' => simp only [e2] at hp2; exact ⟨acc, τ', O', rfl, hp2⟩
      | ex cl fs τ' O' => simp only [e2] at hp2; exact hp2.elim
      | bad => simp only [e2] at hp2; exact hp2.elim
    obtain ⟨accE, τE, OE, hE, hQ⟩ := hp'
    -- what holds of the new list while the rest runs
    have keepL : ∀ {c c' : Cf} {us : List V}, Aft X.K X.mg c c' → c.H L = some (.lst us) → c.F L = none → ¬ Mine c L → c'.H L = some (.lst us) ∧ c'.F L = none ∧ ¬ Mine c' L := fun {c c' us} a h1 h2 h3 => by
      obtain ⟨k1, k2⟩ := a.fr L _ h1 h3
      refine ⟨k1, k2.trans h2, fun m => ?_⟩
      rcases a.mi L m with z | z
      · exact h3 z
      · rw [h1] at z; cases z
    let St1 : Nat → Hp → Prop := fun i H' => ∃ τ' O' F' μ' σ' acc us, Aft X.K X.mg c1w ⟨τ', O', F', μ', σ', H'⟩ ∧ L2.wipe σ' vs = L2.wipe σ vs ∧ compM vs fg fb fe acc (ds.drop i) τ' O' = .ok accE τE OE ∧
        H' L = some (.lst us) ∧ F' L = none ∧ ¬ Mine ⟨τ', O', F', μ', σ', H'⟩ L ∧ DatL X.K X.mg F' μ' us acc
    refine ⟨fun i m H' => m = ds.length - i ∧ i ≤ ds.length ∧ St1 i H', ⟨ds.length, by simp, Nat.zero_le _, ?_⟩, ?_⟩
    · have aN : Aft X.K X.mg c1w { c1w with H := upd c1w.H L (.lst []) } := aft_newT (Aft.refl rw1) hL
      refine ⟨wipeT τ1 vs, O1, F1, μ1, L2.wipe σ vs, [], [], aN, ?_, ?_, upd_same, hFL, fun m => nML m, .nil⟩
      · exact wipe_same (N := N) (σ := σ) (σ2 := L2.wipe σ vs) hN (Pin.refl _ _)
      · rw [List.drop_zero]; exact hE
    · rintro i m H' ⟨hm, hile, τ', O', F', μ', σ', acc, us, aA, hw, hE', hHL, hFL', hML', hacc⟩
      have aB : Aft X.K X.mg c1w ⟨wipeT τ' vs, O', F', μ', L2.wipe σ vs, H'⟩ := by
        have := aft_wipe aA vs
        rw [← hw]
        exact this
      by_cases hil : i < ds.length
      · right
        obtain ⟨hgo, hy⟩ := hJ.go ⟨wipeT τ' vs, O', F', μ', L2.wipe σ vs, H'⟩ i ds[i] (a1w.trans aB) (List.getElem?_eq_getElem hil)
        refine ⟨hgo, fun H2 => St1 (i + 1) H2, fun H2 s2 => ⟨ds.length - (i + 1), by omega, rfl, hil, s2⟩, fun x H3 hx => ?_⟩
        obtain ⟨F3, a3, hd⟩ := hy x H3 hx
        have aC := aB.trans a3
        have mB : ¬ Mine ⟨wipeT τ' vs, O', F', μ', L2.wipe σ vs, H'⟩ L := fun z => by
          have z' : Mine { (⟨τ', O', F', μ', σ', H'⟩ : Cf) with τ := wipeT τ' vs, σ := L2.wipe σ' vs } L := by
            rw [← hw] at z
            exact z
          exact hML' (mine_wipe z')
        obtain ⟨hL3, fL3, mL3⟩ := keepL a3 hHL hFL' mB
        have hacc3 : DatL X.K X.mg F3 μ' us acc := hacc.mono (a3.subF aB.rl) (Pfx.refl _)
        rw [List.drop_eq_getElem_cons hil] at hE'
        have hE2 : (turnM vs fg fb fe ds[i] >>= fun o => (match o with
          | some y => if small (acc.length + 1) then compM vs fg fb fe (acc ++ [y]) (ds.drop (i + 1)) else bad
          | none => compM vs fg fb fe acc (ds.drop (i + 1)))) τ' O' = .ok accE τE OE := hE'
        rw [bind_app] at hE2
        unfold turnM at hE2
        rw [bind_app, show wipM vs τ' O' = .ok () (wipeT τ' vs) O' from rfl] at hE2
        simp only [bind_app] at hE2
        refine hg ⟨wipeT τ' vs, O', F3, μ', L2.wipe σ vs, H3⟩ ⟨wipeT τ' vs, O', F3, μ', L2.wipe σ vs, H3⟩ x ds[i] _ (Aft.refl a3.rl) (Pin.refl _ _) hd ?_
        show PostU X.K X.mg (bpin N vs) _ (fg ds[i] (wipeT τ' vs) O') _
        cases eg : fg ds[i] (wipeT τ' vs) O' with
        | ex cl fs τ3 O3 => exact absurd eg (hgx _ _ _ _ _ _ _)
        | bad => simp only [eg] at hE2; cases hE2
        | ok u τ3 O3 =>
          simp only [eg] at hE2
          intro σ4 H4 F4 μ4 a4 p4
          have w4 : L2.wipe σ4 vs = L2.wipe σ vs := wipe_same hN p4
          refine ⟨w4, τ3, O3, F4, μ4, a4.rl, ?_⟩
          obtain ⟨hL4, fL4, mL4⟩ := keepL a4 hL3 fL3 mL3
          have hacc4 : DatL X.K X.mg F4 μ4 us acc := hacc3.mono (a4.subF a3.rl) a4.mu
          cases eb : fb τ3 O3 with
          | ex cl fs τ4 O4 => simp only [eb] at hE2; cases hE2
          | bad => simp only [eb] at hE2; cases hE2
          | ok b τ4 O4 =>
            simp only [eb] at hE2
            intro y H5 F5 μ5 a5 hby
            have hby' : b = y := hby
            subst hby'
            obtain ⟨hL5, fL5, mL5⟩ := keepL a5 hL4 fL4 mL4
            have hacc5 : DatL X.K X.mg F5 μ5 us acc := hacc4.mono (a5.subF a4.rl) a5.mu
            cases b with
            | false =>
              rw [if_neg Bool.false_ne_true]
              exact ⟨τ4, O4, F5, μ5, σ4, acc, us, (aC.trans a4).trans a5, w4, hE2, hL5, fL5, mL5, hacc5⟩
            | true =>
              rw [if_pos rfl]
              refine ⟨τ4, O4, F5, μ5, a5.rl, ?_⟩
              simp only [if_true, bind_app] at hE2
              cases ee : fe τ4 O4 with
              | ex cl fs τ5 O5 => simp only [ee] at hE2; cases hE2
              | bad => simp only [ee] at hE2; cases hE2
              | ok yd τ5 O5 =>
                simp only [ee] at hE2
                intro yv H6 F6 μ6 a6 hyd
                obtain ⟨hL6, fL6, mL6⟩ := keepL a6 hL5 fL5 mL5
                have hacc6 : DatL X.K X.mg F6 μ6 us acc := hacc5.mono (a6.subF a5.rl) a6.mu
                have hE3 : (if small (acc.length + 1) then compM vs fg fb fe (acc ++ [yd]) (ds.drop (i + 1)) else bad) τ5 O5 = .ok accE τE OE := hE2
                cases hs : small (acc.length + 1) with
                | false => rw [hs] at hE3; cases hE3
                | true =>
                  rw [hs] at hE3
                  have hz := small_le hs
                  refine ⟨us, hL6, by rw [hacc6.length]; exact hz, ?_⟩
                  have aF := ((aC.trans a4).trans a5).trans a6
                  exact ⟨τ5, O5, F6, μ6, σ4, acc ++ [yd], us ++ [yv], aft_setT aF hL fL6 mL6, w4, hE3, upd_same, fL6, fun m => mL6 m, hacc6.append (DatL.one hyd)⟩
      · left
        have hi : i = ds.length := by omega
        subst hi
        refine ⟨hJ.stop _ (a1w.trans aB), ?_⟩
        rw [List.drop_length] at hE'
        have hE2 : (Res.ok acc τ' O' : Res (List D)) = .ok accE τE OE := hE'
        cases hE2
        have ab := aft_back rc1 aA hw
        refine hQ (.ref L) H' F' μ' (a1.trans ab) ⟨L, rfl, hFL', ⟨us, hHL, hacc⟩, fun m => ?_, none_start a1 hL⟩
        rcases m with ⟨j, d, h1, h2⟩ | m
        · have h2' : σ[j]? = some (some (.ref L)) := h2
          rcases backT_get (show (backT τ1 τE vs)[j]? = _ from h1) with ⟨j1, w1⟩ | ⟨j1, w1⟩
          · obtain ⟨o, ho⟩ := own_back (vs := vs) rc1 w1 h2'
            have ho' : H1 L = some o := ho
            rw [hL] at ho'; cases ho'
          · refine hML' (.inl ⟨j, d, w1, ?_⟩)
            show σ'[j]? = _
            rw [← wipe_off (α := Unit) (σ := σ') j1, hw, wipe_off (α := Unit) j1]
            exact h2'
        · exact hML' (.inr m)
end
end DV
namespace DV
open PySem PySem.Spec PyProof.Rows L2
theorem PE.impI {X : Cx} {e : Expr} {t t' : TE} (h : PE X e t) (k : ∀ (s : Shared) σ H Q, σ.length = X.N.length → t' σ H Q → t σ H Q) : PE X e t' := ⟨fun pins s σ H Q I q => h.run pins s σ H Q I (k s _ _ _ I.len q)⟩
theorem PS.impI {X : Cx} {e : Stmt} {t t' : TS} (h : PS X e t) (k : ∀ (s : Shared) D σ H, σ.length = X.N.length → t' D σ H → t D σ H) : PS X e t' := ⟨fun pins s σ H D I q => h.run pins s σ H D I (k s _ _ _ I.len q)⟩
section
variable {X : Cx} {W : WX}
theorem de_lc {elt tg iter : Expr} {ifs : List Expr} {scope : Scope} {pos : Pos} {fi : Mm (List D)} {fg : D → Mm Unit} {g : TG} {fb : Mm Bool} {fe : Mm D} (own : List (Str × Nat)) (hc : X.calm = true) (hN : X.N.Nodup) (hi : DI X W tg iter fi) (ok : BlkOk X.N X.env.scope scope own)
    (hg : ∀ (s : Shared) (H : Hp) (C : Addr) (cl : List (Str × Addr)) (fp : List Addr), DG (X.blk s H scope (compEnvC scope cl C X.env) fp) (bpin X.N.length (own.map (·.2))) tg fg g)
    (ht : ∀ (s : Shared) (H : Hp) (C : Addr) (cl : List (Str × Addr)) (fp : List Addr), PTs (X.blk s H scope (compEnvC scope cl C X.env) fp) ifs (tM X.K X.mg W0 BV fb))
    (he : ∀ (s : Shared) (H : Hp) (C : Addr) (cl : List (Str × Addr)) (fp : List Addr), DF (X.blk s H scope (compEnvC scope cl C X.env) fp) W0 elt fe) (hs : ∀ x, foldedSetIterable iter X.env x = pure x := by intro _; rfl) :
    DE X W (.ListComp elt [⟨tg, iter, ifs, 0⟩] scope pos) (lcM (own.map (·.2)) fi fg fb fe) := by
  obtain ⟨wi, hPI, hwi⟩ := hi
  refine PE.impI (pe_lc (te := tM X.K X.mg W0 (DatV X.K X.mg) fe) hc hN hPI ok (fun s H C cl fp => (hg s H C cl fp).1) ht (fun s H C cl fp => he s H C cl fp) hs) fun s σ H Q hl q => ?_
  obtain ⟨_, x1, u1⟩ := hg s H 0 [] []
  exact tLc_of (tg := tg) (iter := iter) hwi x1 u1 (Nat.le_of_eq hl) q
theorem ds_setLc (i : Nat) {pin : List Nat} {y : Str} {py : Pos} {elt tg iter : Expr} {ifs : List Expr} {scope : Scope} {pos spos : Pos} {fi : Mm (List D)} {fg : D → Mm Unit} {g : TG} {fb : Mm Bool} {fe : Mm D} (own : List (Str × Nat)) (hc : X.calm = true) (hN : X.N.Nodup)
    (hi : DI X W tg iter fi) (ok : BlkOk X.N X.env.scope scope own)
    (hg : ∀ (s : Shared) (H : Hp) (C : Addr) (cl : List (Str × Addr)) (fp : List Addr), DG (X.blk s H scope (compEnvC scope cl C X.env) fp) (bpin X.N.length (own.map (·.2))) tg fg g)
    (ht : ∀ (s : Shared) (H : Hp) (C : Addr) (cl : List (Str × Addr)) (fp : List Addr), PTs (X.blk s H scope (compEnvC scope cl C X.env) fp) ifs (tM X.K X.mg W0 BV fb))
    (he : ∀ (s : Shared) (H : Hp) (C : Addr) (cl : List (Str × Addr)) (fp : List Addr), DF (X.blk s H scope (compEnvC scope cl C X.env) fp) W0 elt fe)
    (hsw : swapsWith (.ListComp elt [⟨tg, iter, ifs, 0⟩] scope pos) (some (.Name y py)) spos.line X.env = pure true) (hy : X.N[i]? = some y := by rfl) (hyl : X.env.scope.names.lookup y = some .local := by rfl) (hp : i ∉ pin := by decide)
    (hs : ∀ x, foldedSetIterable iter X.env x = pure x := by intro _; rfl) :
    DS X W pin (.Assign [.Name y py] (.ListComp elt [⟨tg, iter, ifs, 0⟩] scope pos) spos) (lcM (own.map (·.2)) fi fg fb fe >>= fun x => stX i x >>= fun _ => pure .nx) := by
  obtain ⟨wi, hPI, hwi⟩ := hi
  refine PS.impI (ps_setLc (te := tM X.K X.mg W0 (DatV X.K X.mg) fe) hc hN hy hyl hsw hPI ok (fun s H C cl fp => (hg s H C cl fp).1) ht (fun s H C cl fp => he s H C cl fp) hs) fun s D σ H hl q => ?_
  obtain ⟨_, x1, u1⟩ := hg s H 0 [] []
  refine tLc_of (tg := tg) (iter := iter) hwi x1 u1 (Nat.le_of_eq hl) ?_
  refine posts_fst q fun c x c2 v r hσ hH a2 hσ2 hx hpp => ?_
  have h := stX_ok (g := pure .nx) a2 (Pin.of_eq hσ2) hx hp hpp
  rw [hσ2, hσ] at h
  obtain ⟨τ, O, F, μ, r', h'⟩ := h
  exact h' _ _ F μ (Aft.refl r') (Pin.refl _ _)
end

/-! ### a def's body -/
def ioOf (io : Option Nat) (τ : Sto) : Option D := match io with
  | none => some .non
  | some j => match τ[j]? with
    | some (some (true, d)) => some d
    | _ => none
def finO (io : Option Nat) (x : Ex) (τ : Sto) (O : Ob) : Out :=
  match ioOf io τ with
  | none => .bad
  | some d' => match x.k with
    | .frz => .ret false x.d d' O
    | .tmp => .ret true x.d d' O
    | .slot i => if io = some i then .bad else match τ[i]? with
      | some (some (b, d)) => .ret b d d' O
      | _ => .bad
/-- what a body with nN slots makes of its arguments -/
def bodyO (io : Option Nat) (nN : Nat) (g : Mm Fl) (ds : List D) (O : Ob) : Out :=
  match g (argS io ds ++ List.replicate (nN - ds.length) none) O with
  | .ok .nx τ' O' => finO io (fl .non) τ' O'
  | .ok (.rt x) τ' O' => finO io x τ' O'
  | .ex c fs τ' O' => (match ioOf io τ' with
    | some d' => .exc c fs d' O'
    | none => .bad)
  | _ => .bad
def pinOf : Option Nat → List Nat
  | none => []
  | some j => [j]
/-- how a def's body stands -/
structure Std' (X : Cx) (W : WX) (k : Nat) : Prop where
  std : Std X W k
  po : PassesOwn (model X.prog X.w) X.A X.env X.xe
  calm : X.calm = true
section
variable {K : PySem.W.Frag} {mg : Str → Option Value} {W : WX}
theorem app_get {α : Type} {l : List (Option α)} {n i : Nat} {x : α} (h : (l ++ List.replicate n none)[i]? = some (some x)) : l[i]? = some (some x) ∧ i < l.length := by
  by_cases hi : i < l.length
  · rw [List.getElem?_append_left hi] at h
    exact ⟨h, hi⟩
  · rw [List.getElem?_append_right (by omega), List.getElem?_replicate] at h
    split at h <;> cases h
/-- the start of a body -/
theorem rl_start {io : Option Nat} {ds : List D} {O : Ob} {F : Hp} {μ : List Addr} {vs : List V} {H : Hp} {n : Nat} (r : Rl K mg ⟨argS io ds, O, F, μ, vs.map some, H⟩) :
    Rl K mg ⟨argS io ds ++ List.replicate n none, O, F, μ, vs.map some ++ List.replicate n none, H⟩ := by
  have hl : (argS io ds).length = (vs.map some).length := r.len
  have left : ∀ (i : Nat), i < (argS io ds).length → (vs.map some ++ List.replicate n none)[i]? = (vs.map some)[i]? := fun i hi => List.getElem?_append_left (by omega)
  refine ⟨r.sub, by simp only [List.length_append, List.length_replicate]; omega, fun i b d e => ?_, fun i j d e a hij h1 h2 h3 => ?_, fun i d a h1 h2 => ?_, r.ol, r.nd, r.ob⟩
  · obtain ⟨e1, hi⟩ := app_get e
    obtain ⟨v, e2, e3⟩ := r.sl i b d e1
    exact ⟨v, (left i hi).trans e2, e3⟩
  · obtain ⟨e1, hi⟩ := app_get h1
    obtain ⟨e2, hj⟩ := app_get h2
    have h3' : (vs.map some ++ List.replicate n none)[i]? = some (some (.ref a)) := h3
    rw [left i hi] at h3'
    show (vs.map some ++ List.replicate n none)[j]? ≠ _
    rw [left j hj]
    exact r.dj i j d e a hij e1 e2 h3'
  · obtain ⟨e1, hi⟩ := app_get h1
    have h2' : (vs.map some ++ List.replicate n none)[i]? = some (some (.ref a)) := h2
    rw [left i hi] at h2'
    exact r.om i d a e1 h2'
theorem mine_start {io : Option Nat} {ds : List D} {O : Ob} {F : Hp} {μ : List Addr} {vs : List V} {H : Hp} {n : Nat} (r : Rl K mg ⟨argS io ds, O, F, μ, vs.map some, H⟩) {a : Addr}
    (h : Mine ⟨argS io ds ++ List.replicate n none, O, F, μ, vs.map some ++ List.replicate n none, H⟩ a) : Mine ⟨argS io ds, O, F, μ, vs.map some, H⟩ a := by
  have hl : (argS io ds).length = (vs.map some).length := r.len
  rcases h with ⟨i, d, h1, h2⟩ | h
  · obtain ⟨e1, hi⟩ := app_get h1
    have h2' : (vs.map some ++ List.replicate n none)[i]? = some (some (.ref a)) := h2
    rw [List.getElem?_append_left (by omega)] at h2'
    exact .inl ⟨i, d, e1, h2'⟩
  · exact .inr h
/-- the end of a body: what the caller sees -/
theorem aft_end {io : Option Nat} {ds : List D} {O O' : Ob} {F F' : Hp} {μ μ' : List Addr} {vs : List V} {H H' : Hp} {n : Nat} {τ' : Sto} {σ' : L2.St} {d' : D} (r : Rl K mg ⟨argS io ds, O, F, μ, vs.map some, H⟩)
    (a : Aft K mg ⟨argS io ds ++ List.replicate n none, O, F, μ, vs.map some ++ List.replicate n none, H⟩ ⟨τ', O', F', μ', σ', H'⟩) (p : Pin (pinOf io) (vs.map some ++ List.replicate n none) σ')
    (hio : ioOf io τ' = some d') (hlt : ∀ j, io = some j → j < ds.length) : Aft K mg ⟨argS io ds, O, F, μ, vs.map some, H⟩ ⟨argS io (setIo io ds d'), O', F', μ', vs.map some, H'⟩ := by
  have r' := a.rl
  have hl : (argS io ds).length = (vs.map some).length := r.len
  rw [argS_len, List.length_map] at hl
  have sF : Sub F F' := fun b o e => by
    have n : ¬ Mine ⟨argS io ds ++ List.replicate n none, O, F, μ, vs.map some ++ List.replicate n none, H⟩ b := fun m => by
      have := r.mineF (mine_start r m)
      have this' : F b = none := this
      rw [this'] at e; cases e
    have z : F' b = F b := (a.fr b o (r.sub b o e) n).2
    show F' b = _
    rw [z]
    exact e
  have frame : ∀ b o, H b = some o → ¬ Mine ⟨argS io ds, O, F, μ, vs.map some, H⟩ b → H' b = some o ∧ F' b = F b := fun b o h n => a.fr b o h fun m => n (mine_start r m)
  -- the one that was lent
  have lent : ∀ j, io = some j → ∃ q, vs[j]? = some (V.ref q) ∧ τ'[j]? = some (some (true, d')) ∧ σ'[j]? = some (some (V.ref q)) := fun j hj => by
    subst hj
    have hj' : j < ds.length := hlt j rfl
    have e1 : (argS (some j) ds)[j]? = some (some (true, ds[j])) := by
      rw [argS_get, List.getElem?_eq_getElem hj']
      simp
    obtain ⟨v, e2, q, rfl, _⟩ := r.sl j true _ e1
    have e2' : (vs.map some)[j]? = some (some (V.ref q)) := e2
    rw [List.getElem?_map] at e2'
    cases ev : vs[j]? with
    | none => rw [ev] at e2'; cases e2'
    | some w =>
      rw [ev] at e2'
      have ew := Option.some.inj (Option.some.inj e2')
      subst ew
      refine ⟨q, rfl, ?_, ?_⟩
      · unfold ioOf at hio
        simp only at hio
        split at hio
        · rename_i d e
          cases hio
          exact e
        · cases hio
      · rw [p.2 j (by simp [pinOf]), List.getElem?_append_left (by rw [List.length_map]; omega), List.getElem?_map, ev]
        rfl
  have get' : ∀ (i : Nat) (b : Bool) (d : D), (argS io (setIo io ds d'))[i]? = some (some (b, d)) → (io = some i ∧ b = true ∧ d = d') ∨ (io ≠ some i ∧ b = false ∧ ds[i]? = some d) := fun i b d e => by
    rw [argS_get] at e
    by_cases hi : io = some i
    · left
      subst hi
      have hj' : i < ds.length := hlt i rfl
      have e1 : (setIo (some i) ds d')[i]? = some d' := List.getElem?_set_self hj'
      rw [e1] at e
      simp only [Option.map_some, decide_true, Option.some.injEq, Prod.mk.injEq] at e
      exact ⟨rfl, e.1.symm, e.2.symm⟩
    · right
      have e1 : (setIo io ds d')[i]? = ds[i]? := by
        cases io with
        | none => rfl
        | some j => exact List.getElem?_set_ne fun z => hi (by rw [z])
      rw [e1] at e
      cases q : ds[i]? with
      | none => rw [q] at e; cases e
      | some x =>
        rw [q] at e
        simp only [Option.map_some, Option.some.injEq, Prod.mk.injEq, decide_eq_false hi] at e
        exact ⟨hi, e.1.symm, by rw [e.2]⟩
  have len' : (setIo io ds d').length = ds.length := by
    cases io with
    | none => rfl
    | some j => exact List.length_set
  refine ⟨⟨r'.sub, by rw [argS_len, len', List.length_map]; exact hl, fun i b d e => ?_, fun i j d e b hij h1 h2 h3 => ?_, fun i d b h1 h2 => ?_, r'.ol, r'.nd, r'.ob⟩, frame, fun b m => ?_, a.mu, a.tr⟩
  · rcases get' i b d e with ⟨h1, rfl, rfl⟩ | ⟨h1, rfl, h3⟩
    · obtain ⟨q, e1, e2, e3⟩ := lent i h1
      obtain ⟨v, e4, e5⟩ := r'.sl i true _ e2
      have e4' : σ'[i]? = some (some v) := e4
      rw [e3] at e4'
      have ev := Option.some.inj (Option.some.inj e4')
      subst ev
      refine ⟨.ref q, ?_, e5⟩
      show (vs.map some)[i]? = _
      rw [List.getElem?_map, e1]
      rfl
    · have e1 : (argS io ds)[i]? = some (some (false, d)) := by
        rw [argS_get, h3]
        simp only [Option.map_some, decide_eq_false h1]
      obtain ⟨v, e2, e3⟩ := r.sl i false d e1
      exact ⟨v, e2, Dat.mono sF a.mu _ _ e3⟩
  · rcases get' i true d h1 with ⟨z1, _, _⟩ | ⟨_, z, _⟩
    · rcases get' j true e h2 with ⟨z2, _, _⟩ | ⟨_, z, _⟩
      · rw [z1] at z2
        exact absurd (Option.some.inj z2) hij
      · cases z
    · cases z
  · rcases get' i true d h1 with ⟨z1, _, _⟩ | ⟨_, z, _⟩
    · obtain ⟨q, e1, e2, e3⟩ := lent i z1
      have h2' : (vs.map some)[i]? = some (some (V.ref b)) := h2
      rw [List.getElem?_map, e1] at h2'
      cases h2'
      exact r'.om i d' _ e2 e3
    · cases z
  · rcases m with ⟨i, d, h1, h2⟩ | m
    · rcases get' i true d h1 with ⟨z1, _, _⟩ | ⟨_, z, _⟩
      · subst z1
        have hj' : i < ds.length := hlt i rfl
        refine .inl (.inl ⟨i, ds[i], ?_, h2⟩)
        show (argS (some i) ds)[i]? = _
        rw [argS_get, List.getElem?_eq_getElem hj']
        simp
      · cases z
    · rcases a.mi b (.inr m) with z | z
      · exact .inl (mine_start r z)
      · exact .inr z
end
end DV
namespace DV
open PySem PySem.Spec PyProof.Rows L2
section
variable {K : PySem.W.Frag} {mg : Str → Option Value}
theorem mine_end {io : Option Nat} {ds : List D} {O O' : Ob} {F F' : Hp} {μ μ' : List Addr} {vs : List V} {H H' : Hp} {n : Nat} {τ' : Sto} {σ' : L2.St} {d' : D} (r : Rl K mg ⟨argS io ds, O, F, μ, vs.map some, H⟩)
    (p : Pin (pinOf io) (vs.map some ++ List.replicate n none) σ') (hio : ioOf io τ' = some d') {a : Addr} (m : Mine ⟨argS io (setIo io ds d'), O', F', μ', vs.map some, H'⟩ a) : (∃ j, io = some j ∧ τ'[j]? = some (some (true, d')) ∧ σ'[j]? = some (some (V.ref a)) ∧ Mine ⟨argS io ds, O, F, μ, vs.map some, H⟩ a) ∨ a ∈ μ' := by
  rcases m with ⟨i, d, h1, h2⟩ | m
  · have h1' : (argS io (setIo io ds d'))[i]? = some (some (true, d)) := h1
    have h2' : (vs.map some)[i]? = some (some (V.ref a)) := h2
    rw [argS_get] at h1'
    cases q : (setIo io ds d')[i]? with
    | none => rw [q] at h1'; cases h1'
    | some x =>
      rw [q] at h1'
      simp only [Option.map_some, Option.some.injEq, Prod.mk.injEq, decide_eq_true_eq] at h1'
      obtain ⟨hi, rfl⟩ := h1'
      subst hi
      have hl : i < ds.length := by
        have := (List.getElem?_eq_some_iff.mp q).1
        rw [show (setIo (some i) ds d').length = ds.length from List.length_set] at this
        exact this
      refine .inl ⟨i, rfl, ?_, ?_, .inl ⟨i, ds[i], ?_, h2⟩⟩
      · unfold ioOf at hio
        simp only at hio
        split at hio
        · rename_i d0 e
          cases hio
          exact e
        · cases hio
      · rw [p.2 i (by simp [pinOf]), List.getElem?_append_left (List.getElem?_eq_some_iff.mp h2').1]
        exact h2'
      · show (argS (some i) ds)[i]? = _
        rw [argS_get, List.getElem?_eq_getElem hl]
        simp
  · exact .inr m
theorem exv_end {io : Option Nat} {ds : List D} {O O' : Ob} {F F' : Hp} {μ μ' : List Addr} {vs : List V} {H H' : Hp} {n : Nat} {τ' : Sto} {σ' : L2.St} {d' d : D} {own : Bool} {x : Ex} {v : V} (r : Rl K mg ⟨argS io ds, O, F, μ, vs.map some, H⟩)
    (a : Aft K mg ⟨argS io ds ++ List.replicate n none, O, F, μ, vs.map some ++ List.replicate n none, H⟩ ⟨τ', O', F', μ', σ', H'⟩) (p : Pin (pinOf io) (vs.map some ++ List.replicate n none) σ')
    (hio : ioOf io τ' = some d') (hx : ExV K mg ⟨argS io ds ++ List.replicate n none, O, F, μ, vs.map some ++ List.replicate n none, H⟩ ⟨τ', O', F', μ', σ', H'⟩ x v) (hf : finO io x τ' O' = .ret own d d' O') :
    ExV K mg ⟨argS io ds, O, F, μ, vs.map some, H⟩ ⟨argS io (setIo io ds d'), O', F', μ', vs.map some, H'⟩ (rEx own d) v := by
  obtain ⟨k, dx⟩ := x
  unfold finO at hf
  rw [hio] at hf
  cases k with
  | frz =>
    cases hf
    exact hx
  | tmp =>
    cases hf
    obtain ⟨q, rfl, h1, h2, h3, h4⟩ := hx
    refine ⟨q, rfl, h1, h2, fun m => ?_, h4⟩
    rcases mine_end r p hio m with ⟨j, _, e1, e2, _⟩ | m
    · exact h3 (.inl ⟨j, d', e1, e2⟩)
    · exact h3 (.inr m)
  | slot i =>
    simp only at hf
    split at hf
    · cases hf
    · rename_i hne
      split at hf
      · rename_i b d0 e
        cases hf
        obtain ⟨v', e1, e2⟩ := a.rl.sl i _ _ e
        have hx' : σ'[i]? = some (some v) := hx
        have e1' : σ'[i]? = some (some v') := e1
        rw [hx'] at e1'
        have ev := Option.some.inj (Option.some.inj e1')
        subst ev
        cases own with
        | false => exact e2
        | true =>
          obtain ⟨q, rfl, h1, h2⟩ := e2
          have nm : ∀ j, io = some j → σ'[j]? = some (some (V.ref q)) → τ'[j]? = some (some (true, d')) → False := fun j hj z1 z2 => a.rl.dj i j d d' q (fun z => hne (by rw [hj, z])) e z2 hx' z1
          have nO : q ∉ μ' := a.rl.om i d q e hx'
          refine ⟨q, rfl, h1, h2, fun m => ?_, ?_⟩
          · rcases mine_end r p hio m with ⟨j, z0, z1, z2, _⟩ | m
            · exact nm j z0 z2 z1
            · exact nO m
          · rcases a.mi q (.inl ⟨i, d, e, hx'⟩) with m | z
            · exfalso
              rcases m with ⟨j, dj, z1, z2⟩ | m
              · obtain ⟨f1, f2⟩ := app_get z1
                rw [argS_get] at f1
                cases w : ds[j]? with
                | none => rw [w] at f1; cases f1
                | some y =>
                  rw [w] at f1
                  simp only [Option.map_some, Option.some.injEq, Prod.mk.injEq, decide_eq_true_eq] at f1
                  have z2' : (vs.map some ++ List.replicate n none)[j]? = some (some (V.ref q)) := z2
                  refine nm j f1.1 ?_ ?_
                  · rw [p.2 j (by rw [f1.1]; simp [pinOf])]
                    exact z2'
                  · have hj := f1.1
                    subst hj
                    unfold ioOf at hio
                    simp only at hio
                    split at hio
                    · rename_i d0 e
                      cases hio
                      exact e
                    · cases hio
              · obtain ⟨w, hw⟩ := List.getElem?_of_mem m
                exact nO (List.mem_of_getElem? (a.mu w q hw))
            · exact z
      · cases hf
end
section
variable {P : Program} {w : World} {K : PySem.W.Frag} {mg : Str → Option Value} {base : Heap} {k : Nat} {f : Addr} {fd : FuncData}
/-- what a body does, from what it makes -/
theorem body_of {X : Cx} {E : XK} {sts : List Stmt} {ps N : List Str} {m : Mir} {g : Nat → Mm Fl} {vs : List V} {H : Hp} {Q : VK} (har : m.ar = ps.length) (hio : ∀ j, m.io = some j → j < ps.length)
    (body : ∀ n, DSs X (fun cls d _ H => E cls d H) (pinOf m.io) sts (g n)) (hg : ∀ ds O, ds.length = m.ar → m.fn ds O ≠ .bad → ∃ n, bodyO m.io N.length (g n) ds O = m.fn ds O) (hsp : spM X.K X.mg m vs H Q E) :
    ∃ t, PSs X sts t ∧ t { nx := fun _ H' => Q .non H', rt := Q } (start N vs) H := by
  obtain ⟨hl, ds, O, F, μ, r, hq⟩ := hsp
  have hld : ds.length = m.ar := by
    have e : (argS m.io ds).length = (vs.map some).length := r.len
    rw [argS_len, List.length_map] at e
    exact e.trans hl
  have hlt : ∀ j, m.io = some j → j < ds.length := fun j e => by rw [hld, har]; exact hio j e
  have nb : m.fn ds O ≠ .bad := fun e => by rw [e] at hq; exact hq
  obtain ⟨n, hn⟩ := hg ds O hld nb
  refine ⟨_, body n, ?_⟩
  refine ⟨argS m.io ds ++ List.replicate (N.length - vs.length) none, O, F, μ, rl_start r, ?_⟩
  unfold bodyO at hn
  rw [show N.length - ds.length = N.length - vs.length by rw [hld, hl]] at hn
  show PostS X.K X.mg _ _ ⟨_, O, F, μ, start N vs, H⟩ (g n _ O) _
  have key : ∀ (x : Ex) (τ' : Sto) (O' : Ob) (v : V) σ' H' F' μ', finO m.io x τ' O' = m.fn ds O → Aft X.K X.mg ⟨argS m.io ds ++ List.replicate (N.length - vs.length) none, O, F, μ, vs.map some ++ List.replicate (N.length - vs.length) none, H⟩ ⟨τ', O', F', μ', σ', H'⟩ →
      Pin (pinOf m.io) (vs.map some ++ List.replicate (N.length - vs.length) none) σ' → ExV X.K X.mg ⟨argS m.io ds ++ List.replicate (N.length - vs.length) none, O, F, μ, vs.map some ++ List.replicate (N.length - vs.length) none, H⟩ ⟨τ', O', F', μ', σ', H'⟩ x v → Q v H' := fun x τ' O' v σ' H' F' μ' hf a p hx => by
    rw [← hf] at hq nb
    cases hi : ioOf m.io τ' with
    | none => exact absurd (by unfold finO; rw [hi]) nb
    | some d' =>
      cases e : finO m.io x τ' O' with
      | bad => exact absurd e nb
      | exc c fs d O => unfold finO at e; rw [hi] at e; simp only at e; split at e <;> (try cases e); split at e; cases e; split at e <;> cases e
      | ret own d d2 O2 =>
        have ed : d2 = d' ∧ O2 = O' := by
          unfold finO at e
          rw [hi] at e
          simp only at e
          split at e
          · cases e; exact ⟨rfl, rfl⟩
          · cases e; exact ⟨rfl, rfl⟩
          · split at e
            · cases e
            · split at e
              · cases e; exact ⟨rfl, rfl⟩
              · cases e
        obtain ⟨rfl, rfl⟩ := ed
        rw [e] at hq
        exact hq v H' F' μ' (aft_end r a p hi hlt) (exv_end r a p hi hx e)
  cases e : g n (argS m.io ds ++ List.replicate (N.length - vs.length) none) O with
  | bad => rw [e] at hn; exact absurd hn.symm nb
  | ok fl τ' O' =>
    rw [e] at hn
    cases fl with
    | bk => exact absurd hn.symm nb
    | ct => exact absurd hn.symm nb
    | nx => exact fun σ' H' F' μ' a p => key (fl .non) τ' O' .non σ' H' F' μ' hn a p .non
    | rt x => exact fun v σ' H' F' μ' a p hx => key x τ' O' v σ' H' F' μ' hn a p hx
  | ex c fs τ' O' =>
    rw [e] at hn
    intro C d σ' H' F' μ' a p hc hd
    simp only at hn
    cases hi : ioOf m.io τ' with
    | none => rw [hi] at hn; exact absurd hn.symm nb
    | some d' =>
      rw [hi] at hn
      rw [← hn] at hq
      exact hq C d H' F' μ' (aft_end r a p hi hlt) hc hd
/-- a def by what its body makes -/
theorem fn_mir {x qual : Str} {st : Stmt} {ps N : List Str} {m : Mir} {g : Nat → Mm Fl} {dvs : List V} {kws : List (Str × V)} (Fu : FunD K x qual (defArgs st) (defBody st) (defScope st) dvs kws f fd) (S : FnScope N ps (defScope st)) (har : m.ar = ps.length) (hio : ∀ j, m.io = some j → j < ps.length)
    (body : ∀ (cdv : Value) (A : Around) (outer : List Env) (s : Shared) (H : Hp) (E : XK), Std' (cxOf (L2.CX P w) P w K mg base N qual (defScope st) f cdv A outer s H E) (fun cls d _ H => E cls d H) k →
      ∀ n, DSs (cxOf (L2.CX P w) P w K mg base N qual (defScope st) f cdv A outer s H E) (fun cls d _ H => E cls d H) (pinOf m.io) (defBody st) (g n))
    (hg : ∀ ds O, ds.length = m.ar → m.fn ds O ≠ .bad → ∃ n, bodyO m.io N.length (g n) ds O = m.fn ds O) : FnG P w K mg base (k + 1) f fd ps (spM K mg m) :=
  fn_body Fu S (fun vs H Q E h => h.1.trans har) fun cdv A outer s H vs Q E hr hgd hsp => body_of har hio (body cdv A outer s H E ⟨⟨hr, hgd, takes_of rfl rfl rfl rfl⟩, passes_of rfl, rfl⟩) hg hsp
theorem callee_mir {x qual : Str} {st : Stmt} {ps N : List Str} {m : Mir} {g : Nat → Mm Fl} {dvs : List V} {kws : List (Str × V)} (Fu : FunD K x qual (defArgs st) (defBody st) (defScope st) dvs kws f fd) (hm : mg x = some (.ref f)) (hk : PySem.W.keepIn K (.ref f) = true) (hb : Binds K fd ps []) (S : FnScope N ps (defScope st)) (har : m.ar = ps.length) (hio : ∀ j, m.io = some j → j < ps.length)
    (body : ∀ (cdv : Value) (A : Around) (outer : List Env) (s : Shared) (H : Hp) (E : XK), Std' (cxOf (L2.CX P w) P w K mg base N qual (defScope st) f cdv A outer s H E) (fun cls d _ H => E cls d H) k →
      ∀ n, DSs (cxOf (L2.CX P w) P w K mg base N qual (defScope st) f cdv A outer s H E) (fun cls d _ H => E cls d H) (pinOf m.io) (defBody st) (g n))
    (hg : ∀ ds O, ds.length = m.ar → m.fn ds O ≠ .bad → ∃ n, bodyO m.io N.length (g n) ds O = m.fn ds O) : Callee P w K mg base x (k + 1) m :=
  ⟨f, fd, ps, hm, hk, fn_mir Fu S har hio body hg, hb⟩
end
end DV
namespace DV
open PySem PySem.Spec PyProof.Rows L2

/-! ### reading values -/
section
variable {K : PySem.W.Frag} {mg : Str → Option Value} {W : WX} {c0 c cc : Cf} {v : V}
theorem RdV.int {i : Int} (h : RdV K mg c v (.int i)) : v = .int i := by cases h.frz (fun _ => nofun) (fun _ => nofun); rfl
theorem RdV.str {i : Str} (h : RdV K mg c v (.str i)) : v = .str i := by cases h.frz (fun _ => nofun) (fun _ => nofun); rfl
theorem RdV.bl {i : Bool} (h : RdV K mg c v (.bl i)) : v = .bl i := by cases h.frz (fun _ => nofun) (fun _ => nofun); rfl
theorem RdV.non (h : RdV K mg c v .non) : v = .non := by cases h.frz (fun _ => nofun) (fun _ => nofun); rfl
theorem RdV.scr {ns : List Int} (h : RdV K mg c v (.scr ns)) (r : Rl K mg c) : ∃ a, v = .ref a ∧ SqL K c.H a (ns.map V.int) := by
  cases h.frz (fun _ => nofun) (fun _ => nofun) with
  | scr h1 => exact ⟨_, rfl, r.sub.seqL h1⟩
def isNonD : D → Bool
  | .non => true
  | _ => false
theorem dat_non {F : Hp} {μ : List Addr} {d : D} (h : Dat K mg F μ v d) : decide (v = V.non) = isNonD d := by
  cases h <;> rfl
theorem post_fl {d : D} {Q : VK} (a : Aft K mg c0 c) (hσ : c.σ = c0.σ) (h : Post K mg W (ExV K mg) c0 ((pure (fl d) : Mm Ex) c.τ c.O) Q) (hf : flat d = true) : Q (vof d) c.H := post_flat (γ := Unit) a hσ h hf
/-- an Option end -/
theorem opt_ok {d : D} {o : Option D} {Q : VK} (h : Post K mg W (ExV K mg) cc ((opt o >>= fun d => pure (fl d)) c.τ c.O) Q) : ∃ d, o = some d ∧ Post K mg W (ExV K mg) cc ((pure (fl d) : Mm Ex) c.τ c.O) Q := post_opt h
end
def Bi (X : Cx) (W : WX) (f : Value → Value → Sem Value) (op : D → D → Mm Ex) : Prop := ∃ r, OpR X f r ∧ Op2 X W r op
section
variable {X : Cx} {W : WX}
theorem de_bi {op : Operator} {f : D → D → Mm Ex} {a b : Expr} {pos : Pos} {fa fb : Mm Ex} (h : Bi X W (binaryOp op) f) (ha : DE X W a fa) (hb : DE X W b fb) : DE X W (.BinOp a op b pos) (bin fa fb f) := let ⟨_, h1, h2⟩ := h; de_bin h1 h2 ha hb
theorem de_ci {op : CmpOp} {f : D → D → Mm Ex} {a b : Expr} {pos : Pos} {fa fb : Mm Ex} (h : Bi X W (compareOp op) f) (ha : DE X W a fa) (hb : DE X W b fb) (hm : behindInMarks op b = false := by first | rfl | exact nomark _) :
    DE X W (.Compare a [op] [b] pos) (bin fa fb f) := let ⟨_, h1, h2⟩ := h; de_cmp h1 h2 ha hb hm
theorem dt_ci {op : CmpOp} {f : D → D → Mm Ex} {a b : Expr} {pos : Pos} {fa fb : Mm Ex} (h : Bi X W (compareOp op) f) (ha : DE X W a fa) (hb : DE X W b fb) (hm : behindInMarks op b = false := by first | rfl | exact nomark _) :
    DT X W (.Compare a [op] [b] pos) (bin fa fb f >>= asB) := let ⟨_, h1, h2⟩ := h; dt_cmp h1 h2 ha hb hm

/-! ### arithmetic -/
def blE (b : Bool) : Mm Ex := pure (fl (.bl b))
def addD (x y : D) : Mm Ex := match x, y with
  | .int i, .int j => pure (fl (.int (i + j)))
  | .str i, .str j => if small (i.length + j.length) then pure (fl (.str (i ++ j))) else bad
  | .lst xs, .lst ys => if small (xs.length + ys.length) then pure ⟨.tmp, .lst (xs ++ ys)⟩ else bad
  | .tup xs, .tup ys => if small (xs.length + ys.length) then pure (fl (.tup (xs ++ ys))) else bad
  | _, _ => bad
theorem bi_add : Bi X W (binaryOp .Add) addD := ⟨_, op_add.or (op_add_str.or (op_cat.or op_catA)), fun c0 c u v dx dy Q a hσ ru rv h => by
  unfold addD at h
  split at h
  · exact .inl ⟨_, _, ru.int, rv.int, post_fl a hσ h rfl⟩
  · obtain ⟨hz, h⟩ := post_small h
    exact .inr (.inl ⟨_, _, ru.str, rv.str, hz, post_fl a hσ h rfl⟩)
  · obtain ⟨hz, h⟩ := post_small h
    obtain ⟨p, vs, e1, h1, k1⟩ := ru.lst a.rl
    obtain ⟨q, ws, e2, h2, k2⟩ := rv.lst a.rl
    exact .inr (.inr (.inl ⟨p, q, vs, ws, e1, e2, h1, h2, by rw [k1.length, k2.length]; exact hz, fun l hl => new_lst a hσ (k1.append k2) h hl⟩))
  · obtain ⟨hz, h⟩ := post_small h
    obtain ⟨p, vs, e1, h1, k1⟩ := ru.tup a.rl
    obtain ⟨q, ws, e2, h2, k2⟩ := rv.tup a.rl
    refine .inr (.inr (.inr ⟨p, q, vs, ws, e1, e2, h1, h2, by rw [k1.length, k2.length]; exact hz, fun z => ?_, fun _ z => ?_, fun _ _ l hl => new_tup a hσ (k1.append k2) h hl⟩))
    · subst z
      cases k1
      rw [← e2]
      exact post_ok a hσ h (rv.frz (fun _ => nofun) (fun _ => nofun))
    · subst z
      cases k2
      rw [List.append_nil] at h
      rw [← e1]
      exact post_ok a hσ h (ru.frz (fun _ => nofun) (fun _ => nofun))
  · exact h.elim⟩
def subD (x y : D) : Mm Ex := match x, y with
  | .int i, .int j => pure (fl (.int (i - j)))
  | _, _ => bad
theorem bi_sub : Bi X W (binaryOp .Sub) subD := ⟨_, op_sub, fun c0 c u v dx dy Q a hσ ru rv h => by
  unfold subD at h
  split at h
  · exact ⟨_, _, ru.int, rv.int, post_fl a hσ h rfl⟩
  · exact h.elim⟩
def okMul (i j : Int) : Bool := decide (i.natAbs.log2 + j.natAbs.log2 < 1000000)
def mulD (x y : D) : Mm Ex := match x, y with
  | .int i, .int j => if okMul i j then pure (fl (.int (i * j))) else bad
  | .lst xs, .int k => if decide (-(2 ^ 63) ≤ k ∧ k < 2 ^ 63) && small (xs.length * k.toNat) then pure ⟨.tmp, .lst (List.replicate k.toNat xs).flatten⟩ else bad
  | .tup xs, .int k => if decide (0 < xs.length ∧ 2 ≤ k ∧ k ≤ 1000 ∧ xs.length ≤ 1000) then pure (fl (.tup (List.replicate k.toNat xs).flatten)) else bad
  | _, _ => bad
theorem DatL.repd {K : PySem.W.Frag} {mg : Str → Option Value} {F : Hp} {μ : List Addr} {vs : List V} {ds : List D} (h : DatL K mg F μ vs ds) : ∀ n : Nat, DatL K mg F μ (List.replicate n vs).flatten (List.replicate n ds).flatten
  | 0 => .nil
  | n + 1 => by
    rw [List.replicate_succ, List.replicate_succ, List.flatten_cons, List.flatten_cons]
    exact h.append (h.repd n)
theorem bi_mul : Bi X W (binaryOp .Mult) mulD := ⟨_, op_mulW.or (op_rep.or op_repT), fun c0 c u v dx dy Q a hσ ru rv h => by
  unfold mulD at h
  split at h
  · split at h
    · rename_i hm
      unfold okMul at hm
      have hk := of_decide_eq_true hm
      exact .inl ⟨_, _, ru.int, rv.int, hk, post_fl a hσ h rfl⟩
    · exact h.elim
  · split at h
    · rename_i hm
      rw [Bool.and_eq_true] at hm
      obtain ⟨p, vs, e1, h1, k1⟩ := ru.lst a.rl
      have hk := of_decide_eq_true hm.1
      exact .inr (.inl ⟨p, _, vs, e1, rv.int, h1, hk.1, hk.2, by rw [k1.length]; exact small_le hm.2, fun l hl => new_lst a hσ (k1.repd _) h hl⟩)
    · exact h.elim
  · split at h
    · rename_i hm
      obtain ⟨p, vs, e1, h1, k1⟩ := ru.tup a.rl
      have hk := of_decide_eq_true hm
      have hl1 := k1.length
      exact .inr (.inr ⟨p, _, vs, e1, rv.int, h1, fun z => by subst z; rw [← hl1] at hk; exact absurd hk.1 (by decide), hk.2.1, hk.2.2.1, by rw [hl1]; exact hk.2.2.2, fun l hl => new_tup a hσ (k1.repd _) h hl⟩)
    · exact h.elim
  · exact h.elim⟩
def okDiv (j : Int) : Bool := decide (0 < j ∧ j.natAbs.log2 < 9000)
def fdivD (x y : D) : Mm Ex := match x, y with
  | .int i, .int j => if okDiv j then pure (fl (.int (i / j))) else bad
  | _, _ => bad
theorem bi_fdiv : Bi X W (binaryOp .FloorDiv) fdivD := ⟨_, op_fdivW, fun c0 c u v dx dy Q a hσ ru rv h => by
  unfold fdivD at h
  split at h
  · split at h
    · rename_i hm
      try unfold okDiv at hm
      have hk := of_decide_eq_true hm
      exact ⟨_, _, ru.int, rv.int, hk, post_fl a hσ h rfl⟩
    · exact h.elim
  · exact h.elim⟩
def modD (x y : D) : Mm Ex := match x, y with
  | .int i, .int j => if decide (0 < j) then pure (fl (.int (i % j))) else bad
  | _, _ => bad
theorem bi_mod : Bi X W (binaryOp .Mod) modD := ⟨_, op_mod, fun c0 c u v dx dy Q a hσ ru rv h => by
  unfold modD at h
  split at h
  · split at h
    · rename_i hm
      try unfold okDiv at hm
      have hk := of_decide_eq_true hm
      exact ⟨_, _, ru.int, rv.int, hk, post_fl a hσ h rfl⟩
    · exact h.elim
  · exact h.elim⟩
def powD (x y : D) : Mm Ex := match x, y with
  | .int i, .int j => if decide (0 ≤ j ∧ j ≤ 1000000 ∧ i.natAbs < 2 ^ 64) then pure (fl (.int (i ^ j.toNat))) else bad
  | _, _ => bad
theorem bi_pow : Bi X W (binaryOp .Pow) powD := ⟨_, op_pow, fun c0 c u v dx dy Q a hσ ru rv h => by
  unfold powD at h
  split at h
  · split at h
    · rename_i hm
      try unfold okDiv at hm
      have hk := of_decide_eq_true hm
      exact ⟨_, _, ru.int, rv.int, hk, post_fl a hσ h rfl⟩
    · exact h.elim
  · exact h.elim⟩

/-! ### order -/
def ltD (x y : D) : Mm Ex := match x, y with
  | .int i, .int j => blE (decide (i < j))
  | _, _ => bad
def leD (x y : D) : Mm Ex := match x, y with
  | .int i, .int j => blE (decide (i ≤ j))
  | _, _ => bad
def gtD (x y : D) : Mm Ex := match x, y with
  | .int i, .int j => blE (decide (j < i))
  | _, _ => bad
def geD (x y : D) : Mm Ex := match x, y with
  | .int i, .int j => blE (decide (j ≤ i))
  | _, _ => bad
theorem bi_lt : Bi X W (compareOp .Lt) ltD := ⟨_, op_lt, fun c0 c u v dx dy Q a hσ ru rv h => by
  unfold ltD at h
  split at h
  · exact ⟨_, _, ru.int, rv.int, post_fl a hσ h rfl⟩
  · exact h.elim⟩
theorem bi_le : Bi X W (compareOp .LtE) leD := ⟨_, op_le, fun c0 c u v dx dy Q a hσ ru rv h => by
  unfold leD at h
  split at h
  · exact ⟨_, _, ru.int, rv.int, post_fl a hσ h rfl⟩
  · exact h.elim⟩
theorem bi_gt : Bi X W (compareOp .Gt) gtD := ⟨_, op_gt, fun c0 c u v dx dy Q a hσ ru rv h => by
  unfold gtD at h
  split at h
  · exact ⟨_, _, ru.int, rv.int, post_fl a hσ h rfl⟩
  · exact h.elim⟩
theorem bi_ge : Bi X W (compareOp .GtE) geD := ⟨_, op_ge, fun c0 c u v dx dy Q a hσ ru rv h => by
  unfold geD at h
  split at h
  · exact ⟨_, _, ru.int, rv.int, post_fl a hσ h rfl⟩
  · exact h.elim⟩

/-! ### == at any depth -/
mutual
def toPy : D → Option PyData
  | .non => some .none
  | .bl b => some (.bool b)
  | .int i => some (.int i)
  | .str s => some (.str s)
  | .lst ds => match toPys ds with
    | some xs => some (.list xs)
    | none => none
  | .tup ds => match toPys ds with
    | some xs => some (.tuple xs)
    | none => none
  | _ => none
def toPys : List D → Option (List PyData)
  | [] => some []
  | d :: ds => match toPy d, toPys ds with
    | some x, some xs => some (x :: xs)
    | _, _ => none
end
section
variable {K : PySem.W.Frag} {mg : Str → Option Value} {H : Hp} {μ : List Addr}
mutual
theorem dp_of : ∀ (d : D) {v : V} {pd : PyData}, Dat K mg H μ v d → toPy d = some pd → Dp K H v pd
  | .non, v, pd, h, e => by cases h; cases e; exact .non
  | .bl b, v, pd, h, e => by cases h; cases e; exact .bl b
  | .int i, v, pd, h, e => by cases h; cases e; exact .int i
  | .str s, v, pd, h, e => by cases h; cases e; exact .str s
  | .lst ds, v, pd, h, e => by
    cases h with
    | lst h1 h2 =>
      rw [toPy] at e
      split at e
      · rename_i xs q
        cases e
        exact .lst (.inl (.inl h1)) (dps_of ds h2 q)
      · cases e
  | .tup ds, v, pd, h, e => by
    cases h with
    | tup h1 h2 =>
      rw [toPy] at e
      split at e
      · rename_i xs q
        cases e
        exact .tup (SqT.of h1) (dps_of ds h2 q)
      · cases e
  | .dct _ _, v, pd, h, e => by cases e
  | .obj _ _, v, pd, h, e => by cases e
  | .ref _, v, pd, h, e => by cases e
  | .fn _, v, pd, h, e => by cases e
  | .scr _, v, pd, h, e => by cases e
theorem dps_of : ∀ (ds : List D) {vs : List V} {ps : List PyData}, DatL K mg H μ vs ds → toPys ds = some ps → DpAll K H vs ps
  | [], vs, ps, h, e => by cases h; cases e; exact .nil
  | d :: ds, vs, ps, h, e => by
    cases h with
    | cons h1 h2 =>
      rw [toPys] at e
      split at e
      · rename_i x xs q1 q2
        cases e
        exact .cons (dp_of d h1 q1) (dps_of ds h2 q2)
      · cases e
end
end
def okPy (d : D) : Option PyData := match toPy d with
  | some x => if SeqAt.shaped x then some x else none
  | none => none
theorem okPy_of {d : D} {x : PyData} (h : okPy d = some x) : toPy d = some x ∧ SeqAt.shaped x = true := by
  unfold okPy at h
  split at h
  · rename_i y e
    split at h
    · rename_i s
      cases h
      exact ⟨e, s⟩
    · cases h
  · cases h
/-- == : scalars at once, the rest as data -/
def eqO (x y : D) : Option Bool := match x, y with
  | .int i, .int j => some (i == j)
  | .str i, .str j => some (i == j)
  | .bl i, .bl j => some (i == j)
  | .non, .non => some true
  | .non, .int _ => some false
  | .int _, .non => some false
  | .non, .str _ => some false
  | .str _, .non => some false
  | .int _, .str _ => some false
  | .str _, .int _ => some false
  | .non, .bl _ => some false
  | .bl _, .non => some false
  | .bl _, .str _ => some false
  | .str _, .bl _ => some false
  | x, y => match okPy x, okPy y with
    | some a, some b => some (PyData.eqv a b)
    | _, _ => none
def eqD (x y : D) : Mm Ex := opt (eqO x y) >>= fun k => blE k
def neD (x y : D) : Mm Ex := opt (eqO x y) >>= fun k => blE (!k)
theorem eqO_of {K : PySem.W.Frag} {mg : Str → Option Value} {c : Cf} (r : Rl K mg c) {u v : V} {dx dy : D} {k : Bool} (ru : RdV K mg c u dx) (rv : RdV K mg c v dy) (e : eqO dx dy = some k) :
    (scal u v = true ∧ decide (u = v) = k) ∨ ∃ d e, Dp K c.H u d ∧ Dp K c.H v e ∧ SeqAt.shaped d = true ∧ SeqAt.shaped e = true ∧ PyData.eqv d e = k := by
  unfold eqO at e
  split at e
  · left; rw [ru.int, rv.int]; cases e; exact ⟨rfl, dec_int⟩
  · left; rw [ru.str, rv.str]; cases e; exact ⟨rfl, dec_str⟩
  · left; rw [ru.bl, rv.bl]; cases e; exact ⟨rfl, dec_bl⟩
  · left; rw [ru.non, rv.non]; cases e; exact ⟨rfl, rfl⟩
  · left; rw [ru.non, rv.int]; cases e; exact ⟨rfl, rfl⟩
  · left; rw [ru.int, rv.non]; cases e; exact ⟨rfl, rfl⟩
  · left; rw [ru.non, rv.str]; cases e; exact ⟨rfl, rfl⟩
  · left; rw [ru.str, rv.non]; cases e; exact ⟨rfl, rfl⟩
  · left; rw [ru.int, rv.str]; cases e; exact ⟨rfl, rfl⟩
  · left; rw [ru.str, rv.int]; cases e; exact ⟨rfl, rfl⟩
  · left; rw [ru.non, rv.bl]; cases e; exact ⟨rfl, rfl⟩
  · left; rw [ru.bl, rv.non]; cases e; exact ⟨rfl, rfl⟩
  · left; rw [ru.bl, rv.str]; cases e; exact ⟨rfl, rfl⟩
  · left; rw [ru.str, rv.bl]; cases e; exact ⟨rfl, rfl⟩
  · right
    split at e
    · rename_i a b e1 e2
      cases e
      obtain ⟨p1, s1⟩ := okPy_of e1
      obtain ⟨p2, s2⟩ := okPy_of e2
      exact ⟨a, b, dp_of _ (ru.dat r) p1, dp_of _ (rv.dat r) p2, s1, s2, rfl⟩
    · cases e
theorem Std.un {X : Cx} {W : WX} {k : Nat} (h : Std X W k) : X.A.units + 65 < cLine := by have := h.room.un; omega
theorem bi_eq {k : Nat} (hS : Std X W k) : Bi X W (compareOp .Eq) eqD := ⟨_, op_eq.or (op_eqD (by have := hS.un; omega)), fun c0 c u v dx dy Q a hσ ru rv h => by
  obtain ⟨k, e, h⟩ := post_opt h
  rcases eqO_of a.rl ru rv e with ⟨h1, h2⟩ | ⟨d, e, h1, h2, h3, h4, h5⟩
  · exact .inl ⟨h1, by rw [h2]; exact post_fl a hσ h rfl⟩
  · exact .inr ⟨d, e, h1, h2, h3, h4, by rw [h5]; exact post_fl a hσ h rfl⟩⟩
theorem bi_ne {k : Nat} (hS : Std X W k) : Bi X W (compareOp .NotEq) neD := ⟨_, op_ne.or (op_neD (by have := hS.un; omega)), fun c0 c u v dx dy Q a hσ ru rv h => by
  obtain ⟨k, e, h⟩ := post_opt h
  rcases eqO_of a.rl ru rv e with ⟨h1, h2⟩ | ⟨d, e, h1, h2, h3, h4, h5⟩
  · exact .inl ⟨h1, by rw [h2]; exact post_fl a hσ h rfl⟩
  · exact .inr ⟨d, e, h1, h2, h3, h4, by rw [h5]; exact post_fl a hσ h rfl⟩⟩

/-! ### is None, is True -/
def isO (x y : D) : Option Bool := match y with
  | .non => some (isNonD x)
  | .bl b => match x with
    | .bl a => some (decide (a = b))
    | _ => none
  | _ => none
def isD (x y : D) : Mm Ex := opt (isO x y) >>= fun k => blE k
def isntD (x y : D) : Mm Ex := opt (isO x y) >>= fun k => blE (!k)
theorem isO_of {K : PySem.W.Frag} {mg : Str → Option Value} {c : Cf} (r : Rl K mg c) {u v : V} {dx dy : D} {k : Bool} (ru : RdV K mg c u dx) (rv : RdV K mg c v dy) (e : isO dx dy = some k) :
    (v = .non ∧ decide (u = .non) = k) ∨ ∃ a b, u = .bl a ∧ v = .bl b ∧ decide (a = b) = k := by
  unfold isO at e
  split at e
  · left
    refine ⟨rv.non, ?_⟩
    rw [dat_non (ru.dat r)]
    exact Option.some.inj e
  · split at e
    · right
      exact ⟨_, _, ru.bl, rv.bl, Option.some.inj e⟩
    · cases e
  · cases e
theorem bi_is : Bi X W (compareOp .Is) isD := ⟨_, op_isN.or op_is_bl, fun c0 c u v dx dy Q a hσ ru rv h => by
  obtain ⟨k, e, h⟩ := post_opt h
  rcases isO_of a.rl ru rv e with ⟨h1, h2⟩ | ⟨x, y, h1, h2, h3⟩
  · exact .inl ⟨h1, by rw [h2]; exact post_fl a hσ h rfl⟩
  · exact .inr ⟨x, y, h1, h2, by rw [h3]; exact post_fl a hσ h rfl⟩⟩
theorem bi_isnt : Bi X W (compareOp .IsNot) isntD := ⟨_, op_notN.or op_isnot_bl, fun c0 c u v dx dy Q a hσ ru rv h => by
  obtain ⟨k, e, h⟩ := post_opt h
  rcases isO_of a.rl ru rv e with ⟨h1, h2⟩ | ⟨x, y, h1, h2, h3⟩
  · exact .inl ⟨h1, by rw [h2]; exact post_fl a hσ h rfl⟩
  · exact .inr ⟨x, y, h1, h2, by rw [h3]; exact post_fl a hσ h rfl⟩⟩
end
end DV
namespace DV
open PySem PySem.Spec PyProof.Rows L2

/-! ### in -/
section
variable {K : PySem.W.Frag} {mg : Str → Option Value} {F : Hp} {μ : List Addr}
theorem DatL.flats : ∀ {vs : List V} {ds : List D}, DatL K mg F μ vs ds → ds.all flat = true → vs = ds.map vof
  | _, [], h, _ => by cases h; rfl
  | _, d :: ds, h, e => by
    cases h with
    | cons h1 h2 =>
      rw [List.all_cons, Bool.and_eq_true] at e
      rw [flat_v e.1 h1, h2.flats e.2]
      rfl
theorem flat_vof {d : D} (h : flat d = true) : flatV (vof d) = true := by cases d <;> first | rfl | cases h
theorem flats_vof {ds : List D} (h : ds.all flat = true) : (ds.map vof).all flatV = true := by
  rw [List.all_eq_true] at h ⊢
  intro v hv
  obtain ⟨d, hd, rfl⟩ := List.mem_map.mp hv
  exact flat_vof (h d hd)
end
def eqF (x y : D) : Bool := eqV (vof x) (vof y)
def inS (x : D) (ds : List D) : Option Bool :=
  if flat x && ds.all flat then some (ds.any fun y => eqF y x)
  else match okPy x, okPy (.lst ds) with
    | some d, some (.list ps) => some (ps.any fun z => PyData.eqv z d)
    | _, _ => none
def inO (x y : D) : Option Bool := match y with
  | .str j => match x with
    | .str i => some (!(Builtin.Str.occurrences j i 0 j.length 1).isEmpty)
    | _ => none
  | .lst ds => inS x ds
  | .tup ds => inS x ds
  | _ => none
def inD (x y : D) : Mm Ex := opt (inO x y) >>= fun k => blE k
def ninD (x y : D) : Mm Ex := opt (inO x y) >>= fun k => blE (!k)
def rInT (K : PySem.W.Frag) (neg : Bool) : R2 := fun x y H Q => ∃ d ds a xs, Dp K H x d ∧ y = .ref a ∧ SqT K H a xs ∧ DpAll K H xs ds ∧ SeqAt.shaped d = true ∧ SeqAt.shaped (.list ds) = true ∧ Q (.bl (if neg then !ds.any fun z => PyData.eqv z d else ds.any fun z => PyData.eqv z d)) H
section
variable {X : Cx} {W : WX}
theorem op_inT (hu : X.A.units + 65 < cLine) : OpR X (compareOp .In) (rInT X.K false) := by
  intro pins s σ H x y v u Q I rx ry h
  obtain ⟨d, ds, a, xs, hd, rfl, ha, hs, sd, se, q⟩ := h
  obtain ⟨as, r1⟩ := Dp.reads I d x v hd rx
  obtain ⟨bs, r2⟩ := Dp.reads I (.tuple ds) (.ref a) u (.tup ha hs) ry
  exact SeqAt.in_tuple_reads r2 r1 (SeqAt.canLay_of_shaped se) (SeqAt.canLay_of_shaped sd) (room_in_shaped sd hu) ⟨.bl _, H, I, rfl, q⟩
theorem op_ninT (hu : X.A.units + 65 < cLine) : OpR X (compareOp .NotIn) (rInT X.K true) := by
  intro pins s σ H x y v u Q I rx ry h
  obtain ⟨d, ds, a, xs, hd, rfl, ha, hs, sd, se, q⟩ := h
  obtain ⟨as, r1⟩ := Dp.reads I d x v hd rx
  obtain ⟨bs, r2⟩ := Dp.reads I (.tuple ds) (.ref a) u (.tup ha hs) ry
  exact SeqAt.notIn_tuple_reads r2 r1 (SeqAt.canLay_of_shaped se) (SeqAt.canLay_of_shaped sd) (room_in_shaped sd hu) ⟨.bl _, H, I, rfl, q⟩
theorem toPy_lst {ds : List D} {x : PyData} (h : toPy (.lst ds) = some x) : ∃ ps, x = .list ps ∧ toPys ds = some ps := by
  rw [toPy] at h
  split at h
  · rename_i xs e
    exact ⟨xs, (Option.some.inj h).symm, e⟩
  · cases h
theorem inS_of {K : PySem.W.Frag} {mg : Str → Option Value} {c : Cf} {dx : D} {ds : List D} {k : Bool} (e : inS dx ds = some k) :
    (flat dx = true ∧ ds.all flat = true ∧ inV (vof dx) (ds.map vof) = k) ∨ ∃ d ps, toPy dx = some d ∧ toPys ds = some ps ∧ SeqAt.shaped d = true ∧ SeqAt.shaped (.list ps) = true ∧ (ps.any fun z => PyData.eqv z d) = k := by
  unfold inS at e
  split at e
  · rename_i hf
    rw [Bool.and_eq_true] at hf
    refine .inl ⟨hf.1, hf.2, ?_⟩
    unfold inV
    rw [List.any_map]
    exact Option.some.inj e
  · split at e
    · rename_i d ps e1 e2
      obtain ⟨p1, s1⟩ := okPy_of e1
      obtain ⟨p2, s2⟩ := okPy_of e2
      obtain ⟨ps', z, p3⟩ := toPy_lst p2
      cases z
      exact .inr ⟨d, ps, p1, p3, s1, s2, Option.some.inj e⟩
    · cases e
theorem bi_in {k : Nat} (hS : Std X W k) : Bi X W (compareOp .In) inD := ⟨_, op_in_str.or (op_in_seq.or ((op_inD hS.un).or (op_inT hS.un))), fun c0 c u v dx dy Q a hσ ru rv h => by
  obtain ⟨k, e, h'⟩ := post_opt h
  clear h
  have h := h'
  clear h'
  unfold inO at e
  split at e
  · split at e
    · refine .inl ⟨_, _, ru.str, rv.str, ?_⟩
      rw [show _ = k from Option.some.inj e]
      exact post_fl a hσ h rfl
    · cases e
  · obtain ⟨p, vs, rfl, h1, h2⟩ := rv.lst a.rl
    rcases inS_of (K := X.K) (mg := X.mg) (c := c) e with ⟨f1, f2, f3⟩ | ⟨d, ps, e1, e2, e3, e4, e5⟩
    · have ev := h2.flats f2
      have eu := flat_v f1 (ru.dat a.rl)
      subst ev
      subst eu
      refine .inr (.inl ⟨p, _, rfl, .inl (.inl (.inl h1)), flat_vof f1, flats_vof f2, ?_⟩)
      rw [if_neg Bool.false_ne_true, f3]
      exact post_fl a hσ h rfl
    · refine .inr (.inr (.inl ⟨d, ps, dp_of _ (ru.dat a.rl) e1, .lst (.inl (.inl h1)) (dps_of _ (h2.mono a.rl.sub (Pfx.refl _)) e2), e3, e4, ?_⟩))
      rw [e5]
      exact post_fl a hσ h rfl
  · obtain ⟨p, vs, rfl, h1, h2⟩ := rv.tup a.rl
    rcases inS_of (K := X.K) (mg := X.mg) (c := c) e with ⟨f1, f2, f3⟩ | ⟨d, ps, e1, e2, e3, e4, e5⟩
    · have ev := h2.flats f2
      have eu := flat_v f1 (ru.dat a.rl)
      subst ev
      subst eu
      refine .inr (.inl ⟨p, _, rfl, .inr h1, flat_vof f1, flats_vof f2, ?_⟩)
      rw [if_neg Bool.false_ne_true, f3]
      exact post_fl a hσ h rfl
    · refine .inr (.inr (.inr ⟨d, ps, p, vs, dp_of _ (ru.dat a.rl) e1, rfl, h1, dps_of _ (h2.mono a.rl.sub (Pfx.refl _)) e2, e3, e4, ?_⟩))
      rw [if_neg Bool.false_ne_true, e5]
      exact post_fl a hσ h rfl
  · cases e⟩
theorem bi_nin {k : Nat} (hS : Std X W k) : Bi X W (compareOp .NotIn) ninD := ⟨_, op_notin_str.or (op_notIn_seq.or ((op_notInD hS.un).or (op_ninT hS.un))), fun c0 c u v dx dy Q a hσ ru rv h => by
  obtain ⟨k, e, h'⟩ := post_opt h
  clear h
  have h := h'
  clear h'
  unfold inO at e
  split at e
  · split at e
    · refine .inl ⟨_, _, ru.str, rv.str, ?_⟩
      rw [show _ = k from Option.some.inj e]
      exact post_fl a hσ h rfl
    · cases e
  · obtain ⟨p, vs, rfl, h1, h2⟩ := rv.lst a.rl
    rcases inS_of (K := X.K) (mg := X.mg) (c := c) e with ⟨f1, f2, f3⟩ | ⟨d, ps, e1, e2, e3, e4, e5⟩
    · have ev := h2.flats f2
      have eu := flat_v f1 (ru.dat a.rl)
      subst ev
      subst eu
      refine .inr (.inl ⟨p, _, rfl, .inl (.inl (.inl h1)), flat_vof f1, flats_vof f2, ?_⟩)
      rw [if_pos rfl, f3]
      exact post_fl a hσ h rfl
    · refine .inr (.inr (.inl ⟨d, ps, dp_of _ (ru.dat a.rl) e1, .lst (.inl (.inl h1)) (dps_of _ (h2.mono a.rl.sub (Pfx.refl _)) e2), e3, e4, ?_⟩))
      rw [e5]
      exact post_fl a hσ h rfl
  · obtain ⟨p, vs, rfl, h1, h2⟩ := rv.tup a.rl
    rcases inS_of (K := X.K) (mg := X.mg) (c := c) e with ⟨f1, f2, f3⟩ | ⟨d, ps, e1, e2, e3, e4, e5⟩
    · have ev := h2.flats f2
      have eu := flat_v f1 (ru.dat a.rl)
      subst ev
      subst eu
      refine .inr (.inl ⟨p, _, rfl, .inr h1, flat_vof f1, flats_vof f2, ?_⟩)
      rw [if_pos rfl, f3]
      exact post_fl a hσ h rfl
    · refine .inr (.inr (.inr ⟨d, ps, p, vs, dp_of _ (ru.dat a.rl) e1, rfl, h1, dps_of _ (h2.mono a.rl.sub (Pfx.refl _)) e2, e3, e4, ?_⟩))
      rw [if_pos rfl, e5]
      exact post_fl a hσ h rfl
  · cases e⟩

/-! ### a[i] -/
def Ix (X : Cx) (W : WX) (op : D → D → Mm Ex) : Prop := ∃ r, IxR X r ∧ Op2 X W r op
theorem de_ixi {f : D → D → Mm Ex} {a b : Expr} {pos : Pos} {fa fb : Mm Ex} (h : Ix X W f) (ha : DE X W a fa) (hb : DE X W b fb) (hs : PlainIx b := by intro _ _; rfl) : DE X W (.Subscript a b pos) (bin fa fb f) := let ⟨_, h1, h2⟩ := h; de_ix h1 h2 ha hb hs
def ixO (x y : D) : Option D := match x, y with
  | .lst ds, .int i => atI ds i
  | .tup ds, .int i => atI ds i
  | .scr ns, .int i => (atI ns i).map D.int
  | .str z, .int i => if small z.length then (atI z.cps.toList i).map fun c => .str ⟨#[c]⟩ else none
  | _, _ => none
def ixD (x y : D) : Mm Ex := opt (ixO x y) >>= fun d => pure (fl d)
theorem DatL.at {K : PySem.W.Frag} {mg : Str → Option Value} {F : Hp} {μ : List Addr} {vs : List V} {ds : List D} {i : Int} {d : D} (h : DatL K mg F μ vs ds) (e : atI ds i = some d) : ∃ v, atI vs i = some v ∧ Dat K mg F μ v d := by
  unfold atI at e ⊢
  rw [h.length]
  cases q : ixN ds.length i with
  | none => rw [q] at e; cases e
  | some j =>
    rw [q] at e
    exact h.get e
theorem ix_std : Ix X W ixD := ⟨_, ix_seq, fun c0 c u v dx dy Q a hσ ru rv h => by
  obtain ⟨d, e, h'⟩ := post_opt h
  clear h
  have h := h'
  clear h'
  unfold ixO at e
  split at e
  · obtain ⟨p, vs, rfl, h1, h2⟩ := ru.lst a.rl
    obtain ⟨w, e1, e2⟩ := h2.at e
    exact .inl ⟨p, vs, _, w, rfl, rv.int, .inl (.inl h1), e1, post_ok a hσ h e2⟩
  · obtain ⟨p, vs, rfl, h1, h2⟩ := ru.tup a.rl
    obtain ⟨w, e1, e2⟩ := h2.at e
    exact .inr (.inl ⟨p, vs, _, w, rfl, rv.int, h1, e1, post_ok a hσ h e2⟩)
  · obtain ⟨p, rfl, h1⟩ := ru.scr a.rl
    rename_i ns i
    cases q : atI ns i with
    | none => rw [q] at e; cases e
    | some j =>
      rw [q] at e
      cases e
      refine .inl ⟨p, _, _, .int j, rfl, rv.int, h1, ?_, post_ok a hσ h (.int j)⟩
      unfold atI at q ⊢
      rw [List.length_map]
      cases w : ixN ns.length i with
      | none => rw [w] at q; cases q
      | some m =>
        rw [w] at q
        show (ns.map V.int)[m]? = _
        rw [List.getElem?_map, show ns[m]? = some j from q]
        rfl
  · split at e
    · rename_i z i hz
      cases q : atI z.cps.toList i with
      | none => rw [q] at e; cases e
      | some j =>
        rw [q] at e
        cases e
        exact .inr (.inr ⟨z, i, j, ru.str, rv.int, small_le hz, q, post_fl a hσ h rfl⟩)
    · cases e
  · cases e⟩

/-! ### a[lo:hi] -/
abbrev DO (X : Cx) (W : WX) (e : Option Expr) (f : Mm (Option Int)) : Prop := PO X e (tM X.K X.mg W (fun _ _ a b => a = b) f)
theorem PO.imp {e : Option Expr} {t t' : TO} (h : PO X e t) (k : ∀ σ H Q, t' σ H Q → t σ H Q) : PO X e t' := ⟨fun pins s σ H Q I q => h.run pins s σ H Q I (k _ _ _ q)⟩
theorem do_none : DO X W none (pure none) := PO.imp po_none fun σ H Q ⟨τ, O, F, μ, r, h⟩ => h none H F μ (Aft.refl r) rfl
def asI (x : Ex) : Mm (Option Int) := rd x >>= fun d => match d with
  | .int i => pure (some i)
  | _ => bad
theorem do_some {e : Expr} {f : Mm Ex} (h : DE X W e f) : DO X W (some e) (f >>= asI) := PO.imp (po_some h) fun σ H Q q =>
  post_fst q fun c x c2 u rl hσ hH a2 hσ2 hx hp => by
    obtain ⟨d, rx, hp2⟩ := rd_okS a2.rl hx hp
    cases d with
    | int i => exact ⟨i, rx.int, post_ok (x := some i) a2 hσ2 hp2 rfl⟩
    | _ => exact hp2.elim
def cutA {α : Type} (xs : List α) (lo hi : Option Int) : List α := (xs.drop (HT.sIx xs.length 0 lo)).take (HT.sIx xs.length xs.length hi - HT.sIx xs.length 0 lo)
def slE (x : D) (lo hi : Option Int) : Mm Ex := match x with
  | .lst ds => pure ⟨.tmp, .lst (cutA ds lo hi)⟩
  | .tup ds => pure (fl (.tup (cutA ds lo hi)))
  | .scr ns => pure ⟨.tmp, .lst ((cutA ns lo hi).map D.int)⟩
  | .str z => if small z.length then pure (fl (.str (cutS z lo hi))) else bad
  | _ => bad
theorem DatL.cut {K : PySem.W.Frag} {mg : Str → Option Value} {F : Hp} {μ : List Addr} {vs : List V} {ds : List D} (h : DatL K mg F μ vs ds) (lo hi : Option Int) : DatL K mg F μ (cutV vs lo hi) (cutA ds lo hi) := by
  unfold cutV cutA
  rw [h.length]
  exact (h.drop _).take _
theorem cutV_map {α : Type} {f : α → V} {ns : List α} {lo hi : Option Int} : cutV (ns.map f) lo hi = (cutA ns lo hi).map f := by
  unfold cutV cutA
  rw [List.length_map, List.map_take, List.map_drop]
theorem de_slice {e : Expr} {lo hi : Option Expr} {p2 pos : Pos} {f : Mm Ex} {fl fh : Mm (Option Int)} (he : DE X W e f) (hl : DO X W lo fl) (hh : DO X W hi fh) :
    DE X W (.Subscript e (.Slice lo hi none p2) pos) (f >>= fun x => fl >>= fun l => fh >>= fun h => rd x >>= fun d => slE d l h) := by
  refine PE.imp (pe_slice (sl_list.or (sl_tupA.or sl_str)) he hl hh) fun σ H Q q => ?_
  refine post_fst q fun c x c2 u rl hσ hH a2 hσ2 hx hp => ?_
  rw [← hσ]
  refine post_seq a2 hσ2 hp fun l c3 l' a3 hσ3 hl hp3 => ?_
  cases hl
  refine post_seq (a2.trans a3) hσ3 hp3 fun h c4 h' a4 hσ4 hh hp4 => ?_
  cases hh
  have a := (a2.trans a3).trans a4
  have hx4 := (hx.aft a2.rl a3 (hσ3.trans hσ2.symm)).aft a3.rl a4 (hσ4.trans hσ3.symm)
  obtain ⟨d, ru, hp5⟩ := rd_okS a.rl hx4 hp4
  unfold slE at hp5
  split at hp5
  · obtain ⟨p, vs, rfl, h1, h2⟩ := ru.lst a.rl
    exact .inl ⟨p, vs, rfl, .inl (.inl h1), fun z hz => new_lst a hσ4 (h2.cut _ _) hp5 hz⟩
  · obtain ⟨p, vs, rfl, h1, h2⟩ := ru.tup a.rl
    refine .inr (.inl ⟨p, vs, rfl, h1, fun hw => ?_, fun hw z hz => new_tup a hσ4 (h2.cut _ _) hp5 hz⟩)
    rw [h2.length] at hw
    rename_i ds
    have e : cutA ds l h = ds := by
      unfold cutA
      rw [hw.1, hw.2]
      simp
    rw [e] at hp5
    exact post_ok a hσ4 hp5 (ru.frz (fun _ => nofun) (fun _ => nofun))
  · obtain ⟨p, rfl, h1⟩ := ru.scr a.rl
    refine .inl ⟨p, _, rfl, h1, fun z hz => ?_⟩
    rw [cutV_map]
    exact new_lst a hσ4 (DatL.of_ints _) hp5 hz
  · split at hp5
    · rename_i hz
      exact .inr (.inr ⟨_, ru.str, small_le hz, post_fl a hσ4 hp5 rfl⟩)
    · exact hp5.elim
  · exact hp5.elim
end
end DV
namespace DV
open PySem PySem.Spec PyProof.Rows L2

/-! ### not, and, or, if, chains -/
section
variable {K : PySem.W.Frag} {mg : Str → Option Value} {W : WX} {c c1 : Cf}
theorem post_fromV {α β : Type} {VR : Cf → Cf → α → β → Prop} {r : Res α} {Q : β → Hp → Prop} (hv : ∀ c' x y, VR c1 c' x y → VR c c' x y) (a : Aft K mg c c1) (hσ : c1.σ = c.σ) (h : Post K mg W VR c r Q) : Post K mg W VR c1 r Q := by
  obtain ⟨τ1, O1, F1, μ1, σ1, H1⟩ := c1
  have hσ' : σ1 = c.σ := hσ
  subst hσ'
  cases r with
  | ok x τ O => exact fun y H' F' μ' b v => h y H' F' μ' (a.trans b) (hv _ _ _ v)
  | ex cl fs τ O => exact fun C d H' F' μ' b hc hd => h C d H' F' μ' (a.trans b) hc hd
  | bad => exact h
theorem post_from {r : Res Bool} {Q : Bool → Hp → Prop} (a : Aft K mg c c1) (hσ : c1.σ = c.σ) (h : Post K mg W BV c r Q) : Post K mg W BV c1 r Q := post_fromV (c := c) (c1 := c1) (fun _ _ _ v => v) a hσ h
theorem post_fromE {r : Res Ex} {Q : VK} (a : Aft K mg c c1) (hσ : c1.σ = c.σ) (h : Post K mg W (ExV K mg) c r Q) : Post K mg W (ExV K mg) c1 r Q := post_fromV (fun _ _ _ v => ExV.from v a) a hσ h
theorem post_fromD {r : Res D} {Q : VK} (a : Aft K mg c c1) (hσ : c1.σ = c.σ) (h : Post K mg W (DatV K mg) c r Q) : Post K mg W (DatV K mg) c1 r Q := post_fromV (c := c) (c1 := c1) (fun _ _ _ v => v) a hσ h
end
section
variable {X : Cx} {W : WX}
def negD (d : D) : Mm Ex := match d with
  | .int i => pure (fl (.int (-i)))
  | _ => bad
theorem de_neg {a : Expr} {pos : Pos} {f : Mm Ex} (h : DE X W a f) : DE X W (.UnaryOp .USub a pos) (f >>= fun x => rd x >>= fun d => negD d) := by
  refine PE.imp (pe_un un_neg h) fun σ H Q q => ?_
  refine post_fst q fun c x c2 u rl hσ hH a2 hσ2 hx hp => ?_
  obtain ⟨d, rx, hp2⟩ := rd_okS a2.rl hx hp
  cases d with
  | int i => exact ⟨i, rx.int, post_fl a2 hσ2 hp2 rfl⟩
  | _ => exact hp2.elim
/-- a negative constant, as the parser leaves it -/
def truV (x : Ex) : Mm Bool := rd x >>= fun d => opt (truD d)
theorem truV_of {K : PySem.W.Frag} {mg : Str → Option Value} {c : Cf} (r : Rl K mg c) {v : V} {d : D} {k : Bool} (rx : RdV K mg c v d) (e : truD d = some k) : TruV K v c.H k := by
  cases d with
  | non => cases rx.dat r; exact (Option.some.inj e).symm
  | bl b => cases rx.dat r; exact (Option.some.inj e).symm
  | int i => cases rx.dat r; exact (Option.some.inj e).symm
  | str y =>
    cases rx.dat r
    cases hs : small y.length with
    | true =>
      simp only [truD, hs, if_true] at e
      exact ⟨small_le hs, (Option.some.inj e).symm⟩
    | false =>
      simp only [truD, hs] at e
      cases e
  | lst xs =>
    obtain ⟨a, vs, rfl, h1, h2⟩ := rx.lst r
    exact .inl ⟨vs, SqL.of h1, by rw [← Option.some.inj e, empty_of h2]⟩
  | tup xs =>
    obtain ⟨a, vs, rfl, h1, h2⟩ := rx.tup r
    exact .inr (.inl ⟨vs, h1, by rw [← Option.some.inj e, empty_of h2]⟩)
  | _ => cases e
theorem de_notB {t : TT} {a : Expr} {pos : Pos} {f : Mm Ex} (h : DE X W a f) : DE X W (.UnaryOp .Not a pos) (f >>= fun x => rd x >>= fun d => opt (truD d) >>= fun k => blE (!k)) := by
  refine PE.imp (pe_notT h) fun σ H Q q => ?_
  refine post_fst q fun c x c2 u rl hσ hH a2 hσ2 hx hp => ?_
  obtain ⟨d, rx, hp2⟩ := rd_okS a2.rl hx hp
  obtain ⟨k, e, hp3⟩ := post_opt hp2
  exact ⟨k, truV_of a2.rl rx e, post_fl a2 hσ2 hp3 rfl⟩
theorem de_not {a : Expr} {pos : Pos} {f : Mm Ex} (h : DE X W a f) : DE X W (.UnaryOp .Not a pos) (f >>= fun x => rd x >>= fun d => opt (truD d) >>= fun k => blE (!k)) := de_notB (t := fun _ _ _ => True) h
theorem dt_not {a : Expr} {pos : Pos} {f : Mm Bool} (h : DT X W a f) : DT X W (.UnaryOp .Not a pos) (f >>= fun k => pure (!k)) := by
  refine PT.imp (pt_not h) fun σ H Q q => ?_
  refine post_fst q fun c x c2 y rl hσ hH a2 hσ2 hx hp => ?_
  cases hx
  exact post_ok (x := !x) a2 hσ2 hp rfl
def andC (f g : Mm Bool) : Mm Bool := f >>= fun k => if k then g else pure false
def orC (f g : Mm Bool) : Mm Bool := f >>= fun k => if k then pure true else g
theorem dw_and1 {a : Expr} {pos : Pos} {f : Mm Bool} (h : DT X W a f) : DW X W (.BoolOp .And [a] pos) f := pw_and1 h
theorem dw_or1 {a : Expr} {pos : Pos} {f : Mm Bool} (h : DT X W a f) : DW X W (.BoolOp .Or [a] pos) f := pw_or1 h
theorem dw_and {a b : Expr} {rest : List Expr} {pos : Pos} {f g : Mm Bool} (h : DT X W a f) (hb : DW X W (.BoolOp .And (b :: rest) pos) g) : DW X W (.BoolOp .And (a :: b :: rest) pos) (andC f g) := by
  refine PW.imp (pw_and h hb) fun σ H Q q => ?_
  refine post_fst q fun c x c2 y rl hσ hH a2 hσ2 hx hp => ?_
  cases hx
  cases x with
  | true =>
    rw [if_pos rfl] at hp ⊢
    rw [← hσ, ← hσ2]
    exact ⟨_, _, _, _, a2.rl, post_from a2 hσ2 hp⟩
  | false =>
    rw [if_neg Bool.false_ne_true] at hp ⊢
    exact post_ok (x := false) a2 hσ2 hp rfl
theorem dw_or {a b : Expr} {rest : List Expr} {pos : Pos} {f g : Mm Bool} (h : DT X W a f) (hb : DW X W (.BoolOp .Or (b :: rest) pos) g) : DW X W (.BoolOp .Or (a :: b :: rest) pos) (orC f g) := by
  refine PW.imp (pw_or h hb) fun σ H Q q => ?_
  refine post_fst q fun c x c2 y rl hσ hH a2 hσ2 hx hp => ?_
  cases hx
  cases x with
  | false =>
    rw [if_neg Bool.false_ne_true] at hp ⊢
    rw [← hσ, ← hσ2]
    exact ⟨_, _, _, _, a2.rl, post_from a2 hσ2 hp⟩
  | true =>
    rw [if_pos rfl] at hp ⊢
    exact post_ok (x := true) a2 hσ2 hp rfl
/-- .. as values -/
def andV (f g : Mm Ex) : Mm Ex := f >>= fun x => rd x >>= fun d => opt (truD d) >>= fun k => if k then g else pure x
def orV (f g : Mm Ex) : Mm Ex := f >>= fun x => rd x >>= fun d => opt (truD d) >>= fun k => if k then pure x else g
theorem de_one {op : BoolOp} {a : Expr} {pos : Pos} {f : Mm Ex} (h : DE X W a f) : DE X W (.BoolOp op [a] pos) f := pe_one h
theorem de_and {a b : Expr} {rest : List Expr} {pos : Pos} {f g : Mm Ex} (h : DE X W a f) (hb : DE X W (.BoolOp .And (b :: rest) pos) g) : DE X W (.BoolOp .And (a :: b :: rest) pos) (andV f g) := by
  refine PE.imp (pe_andT h hb) fun σ H Q q => ?_
  refine post_fst q fun c x c2 y rl hσ hH a2 hσ2 hx hp => ?_
  obtain ⟨d, rx, hp2⟩ := rd_okS a2.rl hx hp
  obtain ⟨k, e, hp3⟩ := post_opt hp2
  refine ⟨k, truV_of a2.rl rx e, ?_⟩
  cases k with
  | true =>
    rw [if_pos rfl] at hp3 ⊢
    rw [← hσ, ← hσ2]
    exact ⟨_, _, _, _, a2.rl, post_fromE a2 hσ2 hp3⟩
  | false =>
    rw [if_neg Bool.false_ne_true] at hp3 ⊢
    exact post_ok a2 hσ2 hp3 hx
theorem de_or {a b : Expr} {rest : List Expr} {pos : Pos} {f g : Mm Ex} (h : DE X W a f) (hb : DE X W (.BoolOp .Or (b :: rest) pos) g) : DE X W (.BoolOp .Or (a :: b :: rest) pos) (orV f g) := by
  refine PE.imp (pe_orT h hb) fun σ H Q q => ?_
  refine post_fst q fun c x c2 y rl hσ hH a2 hσ2 hx hp => ?_
  obtain ⟨d, rx, hp2⟩ := rd_okS a2.rl hx hp
  obtain ⟨k, e, hp3⟩ := post_opt hp2
  refine ⟨k, truV_of a2.rl rx e, ?_⟩
  cases k with
  | false =>
    rw [if_neg Bool.false_ne_true] at hp3 ⊢
    rw [← hσ, ← hσ2]
    exact ⟨_, _, _, _, a2.rl, post_fromE a2 hσ2 hp3⟩
  | true =>
    rw [if_pos rfl] at hp3 ⊢
    exact post_ok a2 hσ2 hp3 hx
def ifM {α : Type} (t : Mm Bool) (f g : Mm α) : Mm α := t >>= fun k => if k then f else g
theorem de_ifx {c a b : Expr} {pos : Pos} {t : Mm Bool} {f g : Mm Ex} (hc : DT X W c t) (ha : DE X W a f) (hb : DE X W b g) : DE X W (.IfExp c a b pos) (ifM t f g) := by
  refine PE.imp (pe_ifExp hc ha hb) fun σ H Q q => ?_
  refine post_fst q fun c x c2 y rl hσ hH a2 hσ2 hx hp => ?_
  cases hx
  cases x with
  | true =>
    rw [if_pos rfl] at hp ⊢
    rw [← hσ, ← hσ2]
    exact ⟨_, _, _, _, a2.rl, post_fromE a2 hσ2 hp⟩
  | false =>
    rw [if_neg Bool.false_ne_true] at hp ⊢
    rw [← hσ, ← hσ2]
    exact ⟨_, _, _, _, a2.rl, post_fromE a2 hσ2 hp⟩
/-- a op b op' c -/
def chainM (fa fb fc : Mm Ex) (o o' : D → D → Mm Ex) : Mm Ex := fa >>= fun x => fb >>= fun y => rd x >>= fun dx => rd y >>= fun dy => o dx dy >>= fun z => rd z >>= fun dz => match dz with
  | .bl true => fc >>= fun w => rd y >>= fun dy => rd w >>= fun dw => o' dy dw
  | .bl false => blE false
  | _ => bad
theorem post_assoc {α β γ δ : Type} {K : PySem.W.Frag} {mg : Str → Option Value} {VR : Cf → Cf → γ → δ → Prop} {f : Mm α} {g : α → Mm β} {h : β → Mm γ} {c : Cf} {τ : Sto} {O : Ob} {Q : δ → Hp → Prop} :
    Post K mg W VR c (((f >>= g) >>= h) τ O) Q ↔ Post K mg W VR c ((f >>= fun x => g x >>= h) τ O) Q := by
  have e : ((f >>= g) >>= h) = (f >>= fun x => g x >>= h) := by
    funext τ O
    simp only [bind_app]
    cases f τ O <;> rfl
  rw [e]
/-- a Bi operation, then the rest -/
def Op3 (X : Cx) (W : WX) (r : R2) (op : D → D → Mm Ex) : Prop :=
  ∀ (c0 c : Cf) (u v : V) (dx dy : D) (k : Ex → Mm Ex) (Q Q' : VK), Aft X.K X.mg c0 c → c.σ = c0.σ → RdV X.K X.mg c u dx → RdV X.K X.mg c v dy → Post X.K X.mg W (ExV X.K X.mg) c0 ((op dx dy >>= k) c.τ c.O) Q →
    (∀ x c2 y, Aft X.K X.mg c c2 → c2.σ = c.σ → ExV X.K X.mg c c2 x y → Post X.K X.mg W (ExV X.K X.mg) c0 (k x c2.τ c2.O) Q → Q' y c2.H) → r u v c.H Q'
theorem op3_of {r : R2} {op : D → D → Mm Ex} (h : Op2 X W r op) : Op3 X W r op := fun c0 c u v dx dy k Q Q' a hσ ru rv hp hk => by
  rw [bind_app] at hp
  refine h c c u v dx dy Q' (Aft.refl a.rl) rfl ru rv ?_
  cases e : op dx dy c.τ c.O with
  | ok x τ O =>
    rw [e] at hp
    exact fun y H' F' μ' b vx => hk x ⟨τ, O, F', μ', c.σ, H'⟩ y b rfl vx hp
  | ex cl fs τ O =>
    rw [e] at hp
    intro C d H' F' μ' b hc hd
    have := hp C d H' F' μ' (by have := a.trans b; rw [← hσ]; exact this) hc (by rw [← hσ]; exact hd)
    rw [hσ]
    exact this
  | bad =>
    rw [e] at hp
    exact hp
theorem tChain_of {r r' : R2} {o o' : D → D → Mm Ex} {fa fb fc : Mm Ex} (h : Op2 X W r o) (h' : Op2 X W r' o') {σ : L2.St} {H : Hp} {Q : VK} (q : tM X.K X.mg W (ExV X.K X.mg) (chainM fa fb fc o o') σ H Q) :
    tChain r r' (tM X.K X.mg W (ExV X.K X.mg) fa) (tM X.K X.mg W (ExV X.K X.mg) fb) (tM X.K X.mg W (ExV X.K X.mg) fc) σ H Q := by
  refine post_fst q fun c x c2 u rl hσ hH a2 hσ2 hx hp => ?_
  rw [← hσ]
  refine post_seq a2 hσ2 hp fun y c3 v a3 hσ3 hy hp3 => ?_
  have hx3 := hx.aft a2.rl a3 (hσ3.trans hσ2.symm)
  obtain ⟨dx, rx, hp4⟩ := rd_okS a3.rl hx3 hp3
  obtain ⟨dy, ry, hp5⟩ := rd_okS a3.rl hy hp4
  refine op3_of h c c3 u v dx dy _ Q _ (a2.trans a3) hσ3 rx ry hp5 fun z c4 vz a4 hσ4 hz hp6 => ?_
  have a24 := (a2.trans a3).trans a4
  obtain ⟨dz, rz, hp7⟩ := rd_okS a24.rl hz hp6
  clear hp6
  cases dz with
  | bl k =>
    refine ⟨k, rz.bl, ?_⟩
    cases k with
    | true =>
      rw [if_pos rfl]
      refine post_seq a24 (hσ4.trans hσ3) hp7 fun w c5 vw a5 hσ5 hw hp8 => ?_
      have hy5 := (hy.aft a3.rl a4 hσ4).aft a4.rl a5 (hσ5.trans (hσ4.trans hσ3).symm)
      obtain ⟨dy', ry', hp9⟩ := rd_okS (a24.trans a5).rl hy5 hp8
      obtain ⟨dw, rw', hp10⟩ := rd_okS (a24.trans a5).rl hw hp9
      exact h' c c5 v vw dy' dw Q (a24.trans a5) hσ5 ry' rw' hp10
    | false =>
      rw [if_neg Bool.false_ne_true]
      exact post_fl a24 (hσ4.trans hσ3) hp7 rfl
  | _ => exact hp7.elim
theorem de_chain {op op' : CmpOp} {o o' : D → D → Mm Ex} {a b e : Expr} {pos : Pos} {fa fb fc : Mm Ex} (ho : Bi X W (compareOp op) o) (ho' : Bi X W (compareOp op') o') (ha : DE X W a fa) (hb : DE X W b fb) (hc : DE X W e fc)
    (hm : lastMarks [op, op'] [b, e] = false := by with_unfolding_all rfl) : DE X W (.Compare a [op, op'] [b, e] pos) (chainM fa fb fc o o') := by
  obtain ⟨r, h1, h2⟩ := ho
  obtain ⟨r', h1', h2'⟩ := ho'
  exact PE.imp (pe_chain h1 h1' ha hb hc hm) fun σ H Q q => tChain_of h2 h2' q
theorem dt_chain {op op' : CmpOp} {o o' : D → D → Mm Ex} {a b e : Expr} {pos : Pos} {fa fb fc : Mm Ex} (ho : Bi X W (compareOp op) o) (ho' : Bi X W (compareOp op') o') (ha : DE X W a fa) (hb : DE X W b fb) (hc : DE X W e fc)
    (hm : lastMarks [op, op'] [b, e] = false := by with_unfolding_all rfl) : DT X W (.Compare a [op, op'] [b, e] pos) (chainM fa fb fc o o' >>= asB) := by
  obtain ⟨r, h1, h2⟩ := ho
  obtain ⟨r', h1', h2'⟩ := ho'
  exact PT.imp (pt_chain h1 h1' ha hb hc hm) fun σ H Q q => tChain_of h2 h2' (asB_of q)
end

/-! ### calls of built-ins -/
def rds : List Ex → Mm (List D)
  | [] => pure []
  | x :: xs => rd x >>= fun d => rds xs >>= fun ds => pure (d :: ds)
inductive RdVs (K : PySem.W.Frag) (mg : Str → Option Value) (c : Cf) : List V → List D → Prop
  | nil : RdVs K mg c [] []
  | cons {v : V} {d : D} {vs : List V} {ds : List D} : RdV K mg c v d → RdVs K mg c vs ds → RdVs K mg c (v :: vs) (d :: ds)
theorem rds_ok {γ δ : Type} {K : PySem.W.Frag} {mg : Str → Option Value} {W : WX} {c0 c cc : Cf} {VRc : Cf → Cf → γ → δ → Prop} (r : Rl K mg c) : ∀ {xs : List Ex} {vs : List V} {g : List D → Mm γ} {Q : δ → Hp → Prop}, ExVs K mg c0 c xs vs → Post K mg W VRc cc ((rds xs >>= g) c.τ c.O) Q →
    ∃ ds, RdVs K mg c vs ds ∧ Post K mg W VRc cc (g ds c.τ c.O) Q
  | _, _, _, _, .nil, h => ⟨[], .nil, h⟩
  | _, _, g, Q, .cons (x := x) (xs := xs) hx ht _, h => by
    have h' : Post K mg W VRc cc ((rd x >>= fun d => rds xs >>= fun ds => g (d :: ds)) c.τ c.O) Q := by
      have e : (rds (x :: xs) >>= g) = (rd x >>= fun d => rds xs >>= fun ds => g (d :: ds)) := by
        funext τ O
        simp only [rds, bind_app]
        cases rd x τ O with
        | ok d τ O =>
          simp only
          cases rds xs τ O <;> rfl
        | _ => rfl
      rw [← e]
      exact h
    obtain ⟨d, rx, h2⟩ := rd_okS r hx h'
    obtain ⟨ds, rs, h3⟩ := rds_ok r ht h2
    exact ⟨d :: ds, .cons rx rs, h3⟩
/-- a built-in function by what it does to data -/
def Cr (X : Cx) (W : WX) (f : Value) (op : List D → Mm Ex) : Prop := ∃ r, CallR X f r ∧ ∀ (c0 c : Cf) (us : List V) (ds : List D) (Q : VK), Aft X.K X.mg c0 c → c.σ = c0.σ → RdVs X.K X.mg c us ds → Post X.K X.mg W (ExV X.K X.mg) c0 (op ds c.τ c.O) Q → r us c.H Q
def blt (f : Mm (List Ex)) (op : List D → Mm Ex) : Mm Ex := f >>= fun xs => rds xs >>= op
section
variable {X : Cx} {W : WX}
theorem de_bltB {id : String} {x : Str} {p pos : Pos} {e : Expr} {es : List Expr} {f : Mm (List Ex)} {op : List D → Mm Ex} (h : Cr X W (.builtin id) op) (ha : DAs X W (e :: es) f) (hm : X.mg x = none) (hv : bootBuiltins x = some (.builtin id)) (hg : Gl X x := by rfl) (hn : x ≠ "__name__" := by decide) (hdb : (x == ("__debug__" : Str)) = false := by decide)
    (he : starEach (e :: es) X.env = (false, eval e X.env) :: starEach es X.env := by rfl) (hpl : (backTo pos (starEach es X.env)).any (·.1) = false := by rfl) : DE X W (.Call (.Name x p) (e :: es) [] pos) (blt f op) := by
  obtain ⟨r, hc, h⟩ := h
  refine PE.imp (pe_callB hc hg hm hv ha hn hdb he hpl) fun σ H Q q => ?_
  refine post_fst q fun c xs c2 us rl hσ hH a2 hσ2 hx hp => ?_
  obtain ⟨ds, rs, hp2⟩ := rds_ok a2.rl hx hp
  exact h c c2 us ds Q a2 hσ2 rs hp2
theorem de_bltT {T : String} {x : Str} {p pos : Pos} {e : Expr} {es : List Expr} {f : Mm (List Ex)} {op : List D → Mm Ex} (h : Cr X W (.type T) op) (ha : DAs X W (e :: es) f) (hm : X.mg x = none) (hv : bootBuiltins x = some (.type T)) (hg : Gl X x := by rfl) (hn : x ≠ "__name__" := by decide) (hdb : (x == ("__debug__" : Str)) = false := by decide)
    (he : starEach (e :: es) X.env = (false, eval e X.env) :: starEach es X.env := by rfl) (hpl : (backTo pos (starEach es X.env)).any (·.1) = false := by rfl) : DE X W (.Call (.Name x p) (e :: es) [] pos) (blt f op) := by
  obtain ⟨r, hc, h⟩ := h
  refine PE.imp (pe_callTy hc hg hm hv ha hn hdb he hpl) fun σ H Q q => ?_
  refine post_fst q fun c xs c2 us rl hσ hH a2 hσ2 hx hp => ?_
  obtain ⟨ds, rs, hp2⟩ := rds_ok a2.rl hx hp
  exact h c c2 us ds Q a2 hσ2 rs hp2
end
end DV
namespace DV
open PySem PySem.Spec PyProof.Rows L2
section
variable {K : PySem.W.Frag} {mg : Str → Option Value} {c : Cf}
theorem RdVs.one {us : List V} {d : D} (h : RdVs K mg c us [d]) : ∃ u, us = [u] ∧ RdV K mg c u d := by
  cases h with
  | cons h1 h2 => cases h2; exact ⟨_, rfl, h1⟩
theorem RdVs.two {us : List V} {d e : D} (h : RdVs K mg c us [d, e]) : ∃ u v, us = [u, v] ∧ RdV K mg c u d ∧ RdV K mg c v e := by
  cases h with
  | cons h1 h2 =>
    cases h2 with
    | cons h2 h3 => cases h3; exact ⟨_, _, rfl, h1, h2⟩
end
/-! ### rows of ints, bools, texts -/
def asInts : List D → Option (List Int)
  | [] => some []
  | .int i :: ds => match asInts ds with
    | some ns => some (i :: ns)
    | none => none
  | _ => none
def asBls : List D → Option (List Bool)
  | [] => some []
  | .bl i :: ds => match asBls ds with
    | some ns => some (i :: ns)
    | none => none
  | _ => none
def asStrs : List D → Option (List Str)
  | [] => some []
  | .str i :: ds => match asStrs ds with
    | some ns => some (i :: ns)
    | none => none
  | _ => none
theorem asInts_of : ∀ {ds : List D} {ns : List Int}, asInts ds = some ns → ds = ns.map D.int
  | [], ns, h => by cases h; rfl
  | d :: ds, ns, h => by
    cases d with
    | int i =>
      rw [asInts] at h
      split at h
      · rename_i ms e
        cases h
        rw [asInts_of e]
        rfl
      · cases h
    | _ => cases h
theorem asBls_of : ∀ {ds : List D} {ns : List Bool}, asBls ds = some ns → ds = ns.map D.bl
  | [], ns, h => by cases h; rfl
  | d :: ds, ns, h => by
    cases d with
    | bl i =>
      rw [asBls] at h
      split at h
      · rename_i ms e
        cases h
        rw [asBls_of e]
        rfl
      · cases h
    | _ => cases h
theorem asStrs_of : ∀ {ds : List D} {ns : List Str}, asStrs ds = some ns → ds = ns.map D.str
  | [], ns, h => by cases h; rfl
  | d :: ds, ns, h => by
    cases d with
    | str i =>
      rw [asStrs] at h
      split at h
      · rename_i ms e
        cases h
        rw [asStrs_of e]
        rfl
      · cases h
    | _ => cases h
theorem asInts_map : ∀ ns : List Int, asInts (ns.map D.int) = some ns
  | [] => rfl
  | n :: ns => by rw [List.map_cons, asInts, asInts_map ns]
theorem asBls_map : ∀ ns : List Bool, asBls (ns.map D.bl) = some ns
  | [] => rfl
  | n :: ns => by rw [List.map_cons, asBls, asBls_map ns]
theorem asStrs_map : ∀ ns : List Str, asStrs (ns.map D.str) = some ns
  | [] => rfl
  | n :: ns => by rw [List.map_cons, asStrs, asStrs_map ns]
section
variable {X : Cx} {W : WX}
def lenO : D → Option Int
  | .str z => if small z.length then some z.length else none
  | .lst ds => some ds.length
  | .tup ds => some ds.length
  | .scr ns => some ns.length
  | _ => none
def lenB (ds : List D) : Mm Ex := match ds with
  | [d] => opt (lenO d) >>= fun n => pure (fl (.int n))
  | _ => bad
theorem cr_len : Cr X W (.builtin "len") lenB := ⟨_, call_len, fun c0 c us ds Q a hσ rs h => by
  unfold lenB at h
  split at h
  · obtain ⟨u, rfl, ru⟩ := rs.one
    obtain ⟨n, e, h'⟩ := post_opt h
    clear h
    rename_i d
    refine ⟨u, n.toNat, rfl, ?_⟩
    cases d with
    | str z =>
      have e : (if small z.length then some (z.length : Int) else none) = some n := e
      split at e
      · rename_i hz
        cases e
        rw [ru.str]
        exact ⟨⟨small_le hz, rfl⟩, post_fl a hσ h' rfl⟩
      · cases e
    | lst xs =>
      cases e
      obtain ⟨p, vs, rfl, h1, h2⟩ := ru.lst a.rl
      refine ⟨.inl ⟨vs, .inl (.inl h1), ?_⟩, post_fl a hσ h' rfl⟩
      exact h2.length.symm
    | tup xs =>
      cases e
      obtain ⟨p, vs, rfl, h1, h2⟩ := ru.tup a.rl
      exact ⟨.inr ⟨vs, h1, h2.length.symm⟩, post_fl a hσ h' rfl⟩
    | scr ns =>
      cases e
      obtain ⟨p, rfl, h1⟩ := ru.scr a.rl
      refine ⟨.inl ⟨_, h1, ?_⟩, post_fl a hσ h' rfl⟩
      rw [List.length_map]
      rfl
    | _ => cases e
  · exact h.elim⟩
def intB (ds : List D) : Mm Ex := match ds with
  | [.int i] => pure (fl (.int i))
  | [.bl k] => pure (fl (.int (if k then 1 else 0)))
  | [.str z] => if decide (z.length ≤ 640) then opt (PySem.intText? z) >>= fun n => pure (fl (.int n)) else bad
  | _ => bad
theorem cr_int : Cr X W (.type "int") intB := ⟨_, call_int1.or call_int_str, fun c0 c us ds Q a hσ rs h => by
  unfold intB at h
  split at h
  · obtain ⟨u, rfl, ru⟩ := rs.one
    exact .inl (.inl ⟨_, by rw [ru.int], post_fl a hσ h rfl⟩)
  · obtain ⟨u, rfl, ru⟩ := rs.one
    exact .inl (.inr ⟨_, by rw [ru.bl], post_fl a hσ h rfl⟩)
  · obtain ⟨u, rfl, ru⟩ := rs.one
    split at h
    · rename_i hz
      obtain ⟨n, e, h'⟩ := post_opt h
      exact .inr ⟨_, n, by rw [ru.str], e, of_decide_eq_true hz, post_fl a hσ h' rfl⟩
    · exact h.elim
  · exact h.elim⟩
def strB (ds : List D) : Mm Ex := match ds with
  | [.int i] => if decide (i.natAbs.log2 < 1920) then pure (fl (.str (toString i))) else bad
  | [.str z] => pure (fl (.str z))
  | _ => bad
theorem cr_str : Cr X W (.type "str") strB := ⟨_, call_str_int.or SkE.call_str_str, fun c0 c us ds Q a hσ rs h => by
  unfold strB at h
  split at h
  · obtain ⟨u, rfl, ru⟩ := rs.one
    split at h
    · rename_i hz
      exact .inl ⟨_, by rw [ru.int], of_decide_eq_true hz, post_fl a hσ h rfl⟩
    · exact h.elim
  · obtain ⟨u, rfl, ru⟩ := rs.one
    exact .inr ⟨_, by rw [ru.str], post_fl a hσ h rfl⟩
  · exact h.elim⟩
def boolB (ds : List D) : Mm Ex := match ds with
  | [.int i] => blE (i != 0)
  | [.bl k] => blE k
  | _ => bad
theorem cr_bool : Cr X W (.type "bool") boolB := ⟨_, call_bool1, fun c0 c us ds Q a hσ rs h => by
  unfold boolB at h
  split at h
  · obtain ⟨u, rfl, ru⟩ := rs.one
    exact .inl ⟨_, by rw [ru.int], post_fl a hσ h rfl⟩
  · obtain ⟨u, rfl, ru⟩ := rs.one
    exact .inr ⟨_, by rw [ru.bl], post_fl a hσ h rfl⟩
  · exact h.elim⟩
def absB (ds : List D) : Mm Ex := match ds with
  | [.int i] => pure (fl (.int (if i < 0 then -i else i)))
  | _ => bad
theorem cr_abs : Cr X W (.builtin "abs") absB := ⟨_, call_abs, fun c0 c us ds Q a hσ rs h => by
  unfold absB at h
  split at h
  · obtain ⟨u, rfl, ru⟩ := rs.one
    exact ⟨_, by rw [ru.int], post_fl a hσ h rfl⟩
  · exact h.elim⟩
def divmodB (ds : List D) : Mm Ex := match ds with
  | [.int i, .int j] => if okDiv j then pure (fl (.tup [.int (i / j), .int (i % j)])) else bad
  | _ => bad
theorem cr_divmod : Cr X W (.builtin "divmod") divmodB := ⟨_, call_divmodW, fun c0 c us ds Q a hσ rs h => by
  unfold divmodB at h
  split at h
  · obtain ⟨u, v, rfl, ru, rv⟩ := rs.two
    split at h
    · rename_i hm
      unfold okDiv at hm
      have hk := of_decide_eq_true hm
      exact ⟨_, _, by rw [ru.int, rv.int], ⟨hk.1, PyProof.noPylong_of_log2 hk.2⟩, fun p hp => new_tup a hσ (.cons (.int _) (.cons (.int _) .nil)) h hp⟩
    · exact h.elim
  · exact h.elim⟩
def maxI : Int → List Int → Int
  | m, [] => m
  | m, n :: ns => maxI (if n > m then n else m) ns
def minI : Int → List Int → Int
  | m, [] => m
  | m, n :: ns => minI (if n < m then n else m) ns
theorem maxI_mem : ∀ (ns : List Int) (m : Int), maxI m ns ∈ m :: ns
  | [], m => by simp [maxI]
  | n :: ns, m => by
    have h := maxI_mem ns (if n > m then n else m)
    rw [maxI]
    rcases List.mem_cons.mp h with h | h
    · rw [h]
      split
      · exact List.mem_cons_of_mem _ (List.mem_cons_self ..)
      · exact List.mem_cons_self ..
    · exact List.mem_cons_of_mem _ (List.mem_cons_of_mem _ h)
theorem maxI_le : ∀ (ns : List Int) (m : Int), m ≤ maxI m ns ∧ ∀ y ∈ ns, y ≤ maxI m ns
  | [], m => ⟨by simp [maxI], fun y h => by cases h⟩
  | n :: ns, m => by
    obtain ⟨h1, h2⟩ := maxI_le ns (if n > m then n else m)
    rw [maxI]
    refine ⟨?_, fun y hy => ?_⟩
    · split at h1 <;> simp only [*, if_true, if_false] <;> omega
    · rcases List.mem_cons.mp hy with rfl | hy
      · split at h1 <;> simp only [*, if_true, if_false] <;> omega
      · exact h2 y hy
theorem minI_mem : ∀ (ns : List Int) (m : Int), minI m ns ∈ m :: ns
  | [], m => by simp [minI]
  | n :: ns, m => by
    have h := minI_mem ns (if n < m then n else m)
    rw [minI]
    rcases List.mem_cons.mp h with h | h
    · rw [h]
      split
      · exact List.mem_cons_of_mem _ (List.mem_cons_self ..)
      · exact List.mem_cons_self ..
    · exact List.mem_cons_of_mem _ (List.mem_cons_of_mem _ h)
theorem minI_le : ∀ (ns : List Int) (m : Int), minI m ns ≤ m ∧ ∀ y ∈ ns, minI m ns ≤ y
  | [], m => ⟨by simp [minI], fun y h => by cases h⟩
  | n :: ns, m => by
    obtain ⟨h1, h2⟩ := minI_le ns (if n < m then n else m)
    rw [minI]
    refine ⟨?_, fun y hy => ?_⟩
    · split at h1 <;> simp only [*, if_true, if_false] <;> omega
    · rcases List.mem_cons.mp hy with rfl | hy
      · split at h1 <;> simp only [*, if_true, if_false] <;> omega
      · exact h2 y hy
def maxB (ds : List D) : Mm Ex := match ds with
  | [.int i, .int j] => pure (fl (.int (if j > i then j else i)))
  | [.lst xs] => match asInts xs with
    | some (n :: ns) => pure (fl (.int (maxI n ns)))
    | _ => bad
  | _ => bad
def minB (ds : List D) : Mm Ex := match ds with
  | [.int i, .int j] => pure (fl (.int (if j < i then j else i)))
  | [.lst xs] => match asInts xs with
    | some (n :: ns) => pure (fl (.int (minI n ns)))
    | _ => bad
  | _ => bad
theorem cr_maxB (hc : X.calm = true) : Cr X W (.builtin "max") maxB := ⟨_, (call_max2 hc).or (cr_max hc), fun c0 c us ds Q a hσ rs h => by
  unfold maxB at h
  split at h
  · obtain ⟨u, v, rfl, ru, rv⟩ := rs.two
    exact .inl ⟨_, _, by rw [ru.int, rv.int], post_fl a hσ h rfl⟩
  · obtain ⟨u, rfl, ru⟩ := rs.one
    rename_i xs
    cases e : asInts xs with
    | none => simp only [e] at h; exact h.elim
    | some l =>
     cases l with
     | nil => simp only [e] at h; exact h.elim
     | cons n ns =>
      simp only [e] at h
      have e' := asInts_of e
      subst e'
      obtain ⟨p, vs, rfl, h1, h2⟩ := ru.lst a.rl
      have ev := h2.ints
      subst ev
      refine .inr ⟨p, n :: ns, rfl, .inl (.inl h1), Nat.succ_pos _, fun m hm hy => ?_⟩
      have e : m = maxI n ns := by
        have k1 := hy _ (maxI_mem ns n)
        have k2 := maxI_le ns n
        rcases List.mem_cons.mp hm with rfl | hm
        · omega
        · have := k2.2 m hm
          omega
      rw [e]
      exact post_fl a hσ h rfl
  · exact h.elim⟩
theorem cr_minB (hc : X.calm = true) : Cr X W (.builtin "min") minB := ⟨_, (call_min2 hc).or (cr_min hc), fun c0 c us ds Q a hσ rs h => by
  unfold minB at h
  split at h
  · obtain ⟨u, v, rfl, ru, rv⟩ := rs.two
    exact .inl ⟨_, _, by rw [ru.int, rv.int], post_fl a hσ h rfl⟩
  · obtain ⟨u, rfl, ru⟩ := rs.one
    rename_i xs
    cases e : asInts xs with
    | none => simp only [e] at h; exact h.elim
    | some l =>
     cases l with
     | nil => simp only [e] at h; exact h.elim
     | cons n ns =>
      simp only [e] at h
      have e' := asInts_of e
      subst e'
      obtain ⟨p, vs, rfl, h1, h2⟩ := ru.lst a.rl
      have ev := h2.ints
      subst ev
      refine .inr ⟨p, n :: ns, rfl, .inl (.inl h1), Nat.succ_pos _, fun m hm hy => ?_⟩
      have e : m = minI n ns := by
        have k1 := hy _ (minI_mem ns n)
        have k2 := minI_le ns n
        rcases List.mem_cons.mp hm with rfl | hm
        · omega
        · have := k2.2 m hm
          omega
      rw [e]
      exact post_fl a hσ h rfl
  · exact h.elim⟩
def sumB (ds : List D) : Mm Ex := match ds with
  | [.lst xs] => opt (asInts xs) >>= fun ns => pure (fl (.int ns.sum))
  | _ => bad
theorem cr_sumB (hc : X.calm = true) : Cr X W (.builtin "sum") sumB := ⟨_, cr_sum hc, fun c0 c us ds Q a hσ rs h => by
  unfold sumB at h
  split at h
  · obtain ⟨u, rfl, ru⟩ := rs.one
    obtain ⟨ns, e, h'⟩ := post_opt h
    have e' := asInts_of e
    subst e'
    obtain ⟨p, vs, rfl, h1, h2⟩ := ru.lst a.rl
    have ev := h2.ints
    subst ev
    exact ⟨p, ns, rfl, .inl (.inl h1), post_fl a hσ h' rfl⟩
  · exact h.elim⟩
def allB (ds : List D) : Mm Ex := match ds with
  | [.lst xs] => opt (asBls xs) >>= fun bs => blE (bs.all id)
  | _ => bad
def anyB (ds : List D) : Mm Ex := match ds with
  | [.lst xs] => opt (asBls xs) >>= fun bs => blE (bs.any id)
  | _ => bad
theorem cr_allB (hc : X.calm = true) : Cr X W (.builtin "all") allB := ⟨_, cr_all hc, fun c0 c us ds Q a hσ rs h => by
  unfold allB at h
  split at h
  · obtain ⟨u, rfl, ru⟩ := rs.one
    obtain ⟨ns, e, h'⟩ := post_opt h
    have e' := asBls_of e
    subst e'
    obtain ⟨p, vs, rfl, h1, h2⟩ := ru.lst a.rl
    have ev := h2.bls
    subst ev
    exact ⟨p, ns, rfl, .inl (.inl h1), post_fl a hσ h' rfl⟩
  · exact h.elim⟩
theorem cr_anyB (hc : X.calm = true) : Cr X W (.builtin "any") anyB := ⟨_, cr_any hc, fun c0 c us ds Q a hσ rs h => by
  unfold anyB at h
  split at h
  · obtain ⟨u, rfl, ru⟩ := rs.one
    obtain ⟨ns, e, h'⟩ := post_opt h
    have e' := asBls_of e
    subst e'
    obtain ⟨p, vs, rfl, h1, h2⟩ := ru.lst a.rl
    have ev := h2.bls
    subst ev
    exact ⟨p, ns, rfl, .inl (.inl h1), post_fl a hσ h' rfl⟩
  · exact h.elim⟩
def tupB (ds : List D) : Mm Ex := match ds with
  | [.lst xs] => pure (fl (.tup xs))
  | [.tup xs] => pure (fl (.tup xs))
  | _ => bad
theorem cr_tup : Cr X W (.type "tuple") tupB := ⟨_, call_tuple_of, fun c0 c us ds Q a hσ rs h => by
  unfold tupB at h
  split at h
  · obtain ⟨u, rfl, ru⟩ := rs.one
    obtain ⟨p, vs, rfl, h1, h2⟩ := ru.lst a.rl
    exact ⟨p, vs, rfl, .inl ⟨.inl (.inl h1), fun l hl => new_tup a hσ h2 h hl⟩⟩
  · obtain ⟨u, rfl, ru⟩ := rs.one
    obtain ⟨p, vs, rfl, h1, h2⟩ := ru.tup a.rl
    exact ⟨p, vs, rfl, .inr ⟨h1, post_ok a hσ h (ru.frz (fun _ => nofun) (fun _ => nofun))⟩⟩
  · exact h.elim⟩
def lstB (ds : List D) : Mm Ex := match ds with
  | [.lst xs] => pure ⟨.tmp, .lst xs⟩
  | [.tup xs] => pure ⟨.tmp, .lst xs⟩
  | [.scr ns] => pure ⟨.tmp, .lst (ns.map D.int)⟩
  | _ => bad
theorem cr_lst : Cr X W (.type "list") lstB := ⟨_, call_list_of, fun c0 c us ds Q a hσ rs h => by
  unfold lstB at h
  split at h
  · obtain ⟨u, rfl, ru⟩ := rs.one
    obtain ⟨p, vs, rfl, h1, h2⟩ := ru.lst a.rl
    exact ⟨p, vs, rfl, .inl (.inl (.inl h1)), fun l hl => new_lst a hσ h2 h hl⟩
  · obtain ⟨u, rfl, ru⟩ := rs.one
    obtain ⟨p, vs, rfl, h1, h2⟩ := ru.tup a.rl
    exact ⟨p, vs, rfl, .inr h1, fun l hl => new_lst a hσ h2 h hl⟩
  · obtain ⟨u, rfl, ru⟩ := rs.one
    obtain ⟨p, rfl, h1⟩ := ru.scr a.rl
    exact ⟨p, _, rfl, .inl h1, fun l hl => new_lst a hσ (DatL.of_ints _) h hl⟩
  · exact h.elim⟩
end
end DV
namespace DV
open PySem PySem.Spec PyProof.Rows L2

/-! ### an owned object is changed -/
section
variable {K : PySem.W.Frag} {mg : Str → Option Value} {W : WX} {c0 c : Cf}
theorem aft_mut (a : Aft K mg c0 c) {i : Nat} {d d' : D} {l : Addr} {o' : HO} (ht : c.τ[i]? = some (some (true, d))) (hs : c.σ[i]? = some (some (.ref l)))
    (ho : OwnAt K mg { c with H := upd c.H l o' } l d') : Aft K mg c0 { c with τ := c.τ.set i (some (true, d')), H := upd c.H l o' } := by
  have r := a.rl
  have hF : c.F l = none := r.mineF (.inl ⟨i, d, ht, hs⟩)
  have hil : i < c.τ.length := (List.getElem?_eq_some_iff.mp ht).1
  have own : ∀ (n : Nat) (e : D), (c.τ.set i (some (true, d')))[n]? = some (some (true, e)) → ∃ e', c.τ[n]? = some (some (true, e')) := fun n e h => by
    rcases set_get h with ⟨z, _⟩ | z
    · exact ⟨d, by rw [z]; exact ht⟩
    · exact ⟨e, z.2⟩
  refine ⟨⟨fun b u e => ?_, by simpa using r.len, fun n b e h => ?_, fun n m e e' p hnm h1 h2 h3 => ?_, fun n e p h1 h2 => ?_, r.ol, r.nd, fun n q cl fs h1 h2 => ?_⟩, fun b u h hn => ?_, fun b m => ?_, a.mu, fun b u h => ?_⟩
  · have : b ≠ l := fun z => by rw [z, hF] at e; cases e
    exact (upd_ne this).trans (r.sub _ _ e)
  · rcases set_get (show (c.τ.set i (some (true, d')))[n]? = some (some (b, e)) from h) with ⟨hn, z⟩ | ⟨hn, z⟩
    · cases z
      subst hn
      exact ⟨.ref l, hs, l, rfl, hF, ho⟩
    · obtain ⟨v, e1, e2⟩ := r.sl n b e z
      refine ⟨v, e1, ?_⟩
      cases b with
      | false => exact e2
      | true =>
        obtain ⟨q, rfl, h1, h2⟩ := e2
        have : q ≠ l := fun w => r.dj i n d e l (Ne.symm hn) ht z hs (by rw [← w]; exact e1)
        exact ⟨q, rfl, h1, h2.keep (upd_ne this) (Sub.refl _) (Pfx.refl _)⟩
  · obtain ⟨e1, k1⟩ := own n e h1
    obtain ⟨e2, k2⟩ := own m e' h2
    exact r.dj n m e1 e2 p hnm k1 k2 h3
  · obtain ⟨e1, k1⟩ := own n e h1
    exact r.om n e1 p k1 h2
  · obtain ⟨h3, h4⟩ := r.ob n q cl fs h1 h2
    have : q ≠ l := fun z => r.om i d l ht hs (by rw [← z]; exact List.mem_of_getElem? h1)
    exact ⟨h3, h4.keep (upd_ne this) (Sub.refl _) (Pfx.refl _)⟩
  · obtain ⟨k1, k2⟩ := a.fr b u h hn
    have : b ≠ l := fun z => by
      rcases a.mi l (.inl ⟨i, d, ht, hs⟩) with z2 | z2
      · exact hn (by rw [z]; exact z2)
      · rw [z, z2] at h; cases h
    exact ⟨(upd_ne this).trans k1, k2⟩
  · refine a.mi b ?_
    rcases m with ⟨n, e, h1, h2⟩ | m
    · obtain ⟨e1, k1⟩ := own n e h1
      exact .inl ⟨n, e1, k1, h2⟩
    · exact .inr m
  · obtain ⟨o2, h2⟩ := a.tr b u h
    by_cases z : b = l
    · exact ⟨o', by show upd c.H l o' b = _; rw [z, upd_same]⟩
    · exact ⟨o2, (upd_ne z).trans h2⟩
end

/-! ### methods that change a list -/
def mutL (i : Nat) (op : List D → List D → Option (D × List D)) (args : List D) : Mm Ex := fun τ O => match τ[i]? with
  | some (some (true, .lst ds)) => match op ds args with
    | some (r, ds') => .ok (fl r) (τ.set i (some (true, .lst ds'))) O
    | none => .bad
  | _ => .bad
def mutM (i : Nat) (fa : Mm (List D)) (op : List D → List D → Option (D × List D)) : Mm Ex := fun τ O => match τ[i]? with
  | some (some (true, .lst _)) => (fa >>= mutL i op) τ O
  | _ => .bad
def MutR (K : PySem.W.Frag) (mg : Str → Option Value) (r : V → List V → Hp → VK → Prop) (op : List D → List D → Option (D × List D)) : Prop :=
  ∀ (F H : Hp) (μ : List Addr) (l : Addr) (xs vs : List V) (ds args : List D) (rd : D) (ds' : List D) (Q : VK), Sub F H → H l = some (.lst xs) → DatL K mg F μ xs ds → DatL K mg F μ vs args → op ds args = some (rd, ds') →
    (∀ v xs', Dat K mg F μ v rd → DatL K mg F μ xs' ds' → Q v (upd H l (.lst xs'))) → r (.ref l) vs H Q
section
variable {X : Cx} {W : WX}
theorem own_lst {K : PySem.W.Frag} {mg : Str → Option Value} {c : Cf} (r : Rl K mg c) {i : Nat} {ds : List D} (h : c.τ[i]? = some (some (true, .lst ds))) : ∃ l vs, c.σ[i]? = some (some (.ref l)) ∧ c.H l = some (.lst vs) ∧ DatL K mg c.F c.μ vs ds := by
  obtain ⟨v, e1, l, rfl, hF, vs, h1, h2⟩ := r.sl i true _ h
  exact ⟨l, vs, e1, h1, h2⟩
theorem mutL_ok {r : V → List V → Hp → VK → Prop} {op : List D → List D → Option (D × List D)} (hr : MutR X.K X.mg r op) {i : Nat} {l : Addr} {args : List D} {vs : List V} {c0 c : Cf} {Q : VK} (a : Aft X.K X.mg c0 c) (hσ : c.σ = c0.σ) (hs : c.σ[i]? = some (some (.ref l)))
    (ha : DatL X.K X.mg c.F c.μ vs args) (h : Post X.K X.mg W (ExV X.K X.mg) c0 (mutL i op args c.τ c.O) Q) : r (.ref l) vs c.H Q := by
  unfold mutL at h
  split at h
  · rename_i ds ht
    split at h
    · rename_i rd ds' e
      obtain ⟨l', xs, e1, h1, h2⟩ := own_lst a.rl ht
      rw [hs] at e1
      cases e1
      refine hr c.F c.H c.μ l xs vs ds args rd ds' Q a.rl.sub h1 h2 ha e fun v xs' hv hx => ?_
      have a' := aft_mut a (o' := .lst xs') (d' := .lst ds') ht hs ⟨xs', upd_same, hx⟩
      have h' : Post X.K X.mg W (ExV X.K X.mg) c0 ((pure (fl rd) : Mm Ex) (c.τ.set i (some (true, .lst ds'))) c.O) Q := h
      exact post_ok (x := fl rd) a' hσ h' hv
    · exact h.elim
  · exact h.elim
theorem de_mut (i : Nat) {id : String} {r : V → List V → Hp → VK → Prop} {op : List D → List D → Option (D × List D)} {x name : Str} {e : Expr} {es : List Expr} {p apos cpos : Pos} {fa : Mm (List D)} (hm : MtR X id r) (hr : MutR X.K X.mg r op) (slot : Slot "list" name id)
    (hty : typeOf (.builtin id) = pure (.type "method_descriptor")) (ha : DFs X W (e :: es) fa) (hN : X.N[i]? = some x := by rfl) (hv : Vis X.env.scope x := by first | exact Or.inl rfl | exact Or.inr (Or.inl rfl) | exact Or.inr (Or.inr rfl)) (hd : (x == ("__debug__" : Str)) = false := by decide)
    (hcd : (x == ("__classdict__" : Str)) = false := by decide) (hbase : attributeBase (.Name x p) name X.env (eval (.Name x p) X.env) = eval (.Name x p) X.env := by rfl)
    (hfew : ((backTo cpos (starEach (e :: es) X.env)).all (fun x => !x.1) && (backToKw cpos (keywordEach [] X.env)).all (fun x => x.1.isSome)
      && decide ((e :: es).length + ([] : List Keyword).length + (if ([] : List Keyword).isEmpty then 0 else 1) < 30)) = true := by rfl)
    (hline : (apos.endLine == cpos.line) = true := by rfl) (hs : starEach (e :: es) X.env = (false, eval e X.env) :: starEach es X.env := by rfl) (hplain : (backTo cpos (starEach es X.env)).any (·.1) = false := by rfl) :
    DE X W (.Call (.Attribute (.Name x p) name apos) (e :: es) [] cpos) (mutM i fa op) := by
  refine PE.imp (pe_bm PySem.F.plainAttrs_list slot hty hm (pe_var (i := i) hN hv hd hcd) ha hbase hfew hline hs hplain) fun σ H Q ⟨τ, O, F, μ, rl, hp⟩ => ?_
  unfold mutM at hp
  cases ht : τ[i]? with
  | none => simp only [ht] at hp; exact hp.elim
  | some w =>
    rcases w with _ | ⟨b, d⟩
    · simp only [ht] at hp; exact hp.elim
    · cases b with
      | false => simp only [ht] at hp; exact hp.elim
      | true =>
        cases d with
        | lst ds =>
          simp only [ht] at hp
          obtain ⟨l, xs, e1, h1, h2⟩ := own_lst rl ht
          refine ⟨.ref l, e1, .inl ⟨rfl, xs, .inl (.inl h1)⟩, ?_⟩
          refine post_seq (c := ⟨τ, O, F, μ, σ, H⟩) (Aft.refl rl) rfl hp fun args c2 vs a2 hσ hv hp2 => ?_
          refine mutL_ok hr a2 hσ ?_ hv hp2
          rw [hσ]
          exact e1
        | _ => simp only [ht] at hp; exact hp.elim
theorem de_mut0 (i : Nat) {id : String} {r : V → List V → Hp → VK → Prop} {op : List D → List D → Option (D × List D)} {x name : Str} {p apos cpos : Pos} (hm : MtR X id r) (hr : MutR X.K X.mg r op) (slot : Slot "list" name id)
    (hty : typeOf (.builtin id) = pure (.type "method_descriptor")) (hN : X.N[i]? = some x := by rfl) (hv : Vis X.env.scope x := by first | exact Or.inl rfl | exact Or.inr (Or.inl rfl) | exact Or.inr (Or.inr rfl)) (hd : (x == ("__debug__" : Str)) = false := by decide)
    (hcd : (x == ("__classdict__" : Str)) = false := by decide) (hbase : attributeBase (.Name x p) name X.env (eval (.Name x p) X.env) = eval (.Name x p) X.env := by rfl) (hline : (apos.endLine == cpos.line) = true := by rfl) :
    DE X W (.Call (.Attribute (.Name x p) name apos) [] [] cpos) (mutM i (pure []) op) := by
  refine PE.imp (pe_bm0 PySem.F.plainAttrs_list slot hty hm (pe_var (i := i) hN hv hd hcd) hbase hline) fun σ H Q ⟨τ, O, F, μ, rl, hp⟩ => ?_
  unfold mutM at hp
  cases ht : τ[i]? with
  | none => simp only [ht] at hp; exact hp.elim
  | some w =>
    rcases w with _ | ⟨b, d⟩
    · simp only [ht] at hp; exact hp.elim
    · cases b with
      | false => simp only [ht] at hp; exact hp.elim
      | true =>
        cases d with
        | lst ds =>
          simp only [ht] at hp
          obtain ⟨l, xs, e1, h1, h2⟩ := own_lst rl ht
          exact ⟨.ref l, e1, .inl ⟨rfl, xs, .inl (.inl h1)⟩, mutL_ok (c := ⟨τ, O, F, μ, σ, H⟩) (args := []) hr (Aft.refl rl) rfl e1 .nil hp⟩
        | _ => simp only [ht] at hp; exact hp.elim
def smallS (n : Nat) : Bool := decide (n < 16777216)
theorem smallS_lt {n : Nat} (h : smallS n = true) : n < sizeLine := by
  rw [sizeLine_eq]
  exact of_decide_eq_true h
def appD (ds args : List D) : Option (D × List D) := match args with
  | [d] => if smallS ds.length then some (.non, ds ++ [d]) else none
  | _ => none
theorem mutr_append {K : PySem.W.Frag} {mg : Str → Option Value} : MutR K mg rAppend appD := fun F H μ l xs vs ds args rd ds' Q s hl hx hv e k => by
  unfold appD at e
  split at e
  · split at e
    · rename_i hz
      cases e
      cases hv with
      | cons h1 h2 =>
        cases h2
        exact ⟨l, xs, _, rfl, rfl, hl, by rw [hx.length]; exact smallS_lt hz, k _ _ .non (hx.append (DatL.one h1))⟩
    · cases e
  · cases e
def extD (ds args : List D) : Option (D × List D) := match args with
  | [.lst es] => if small (ds.length + es.length) then some (.non, ds ++ es) else none
  | _ => none
theorem mutr_extend {K : PySem.W.Frag} {mg : Str → Option Value} : MutR K mg rExtend extD := fun F H μ l xs vs ds args rd ds' Q s hl hx hv e k => by
  unfold extD at e
  split at e
  · split at e
    · rename_i hz
      cases e
      cases hv with
      | cons h1 h2 =>
        cases h2
        cases h1 with
        | lst h3 h4 => exact ⟨l, _, xs, _, rfl, rfl, hl, s _ _ h3, by rw [hx.length, h4.length]; exact small_le hz, k _ _ .non (hx.append h4)⟩
    · cases e
  · cases e
def popD (ds args : List D) : Option (D × List D) := match args with
  | [] => match ds[ds.length - 1]? with
    | some d => some (d, ds.dropLast)
    | none => none
  | _ => none
theorem mutr_pop {K : PySem.W.Frag} {mg : Str → Option Value} : MutR K mg rPop popD := fun F H μ l xs vs ds args rd ds' Q s hl hx hv e k => by
  unfold popD at e
  split at e
  · split at e
    · rename_i d q
      cases e
      cases hv
      obtain ⟨v, e1, e2⟩ := hx.get q
      exact ⟨l, xs, v, rfl, rfl, hl, by rw [hx.length]; exact e1, k _ _ e2 hx.dropLast⟩
    · cases e
  · cases e
def clearD (ds args : List D) : Option (D × List D) := match args with
  | [] => some (.non, [])
  | _ => none
theorem mutr_clear {K : PySem.W.Frag} {mg : Str → Option Value} : MutR K mg rClear clearD := fun F H μ l xs vs ds args rd ds' Q s hl hx hv e k => by
  unfold clearD at e
  split at e
  · cases e
    cases hv
    exact ⟨l, xs, rfl, rfl, hl, k _ _ .non .nil⟩
  · cases e

/-! ### methods that read -/
/-- of what built-in type -/
def tyM (T : String) (d : D) : Prop := match d with
  | .str _ => T = "str"
  | .lst _ => T = "list"
  | .scr _ => T = "list"
  | _ => False
theorem tyM_of {K : PySem.W.Frag} {mg : Str → Option Value} {c : Cf} (r : Rl K mg c) {v : V} {d : D} {T : String} (rx : RdV K mg c v d) (h : tyM T d) : tyV K T v c.H := by
  cases d with
  | str z => rw [rx.str]; exact h
  | lst ds => obtain ⟨p, vs, rfl, h1, h2⟩ := rx.lst r; exact .inl ⟨h, vs, .inl (.inl h1)⟩
  | scr ns => obtain ⟨p, rfl, h1⟩ := rx.scr r; exact .inl ⟨h, _, h1⟩
  | _ => exact False.elim h
def chk (T : String) (d : D) : Bool := match d with
  | .str _ => T == "str"
  | .lst _ => T == "list"
  | .scr _ => T == "list"
  | _ => false
theorem chk_of {T : String} {d : D} (h : chk T d = true) : tyM T d := by
  cases d <;> first | exact eq_of_beq h | cases h
/-- a method by what it does to data -/
def Mr (X : Cx) (W : WX) (id : String) (op : D → List D → Mm Ex) : Prop := ∃ r, MtR X id r ∧ ∀ (c0 c : Cf) (u : V) (us : List V) (d : D) (ds : List D) (Q : VK), Aft X.K X.mg c0 c → c.σ = c0.σ → RdV X.K X.mg c u d → RdVs X.K X.mg c us ds → Post X.K X.mg W (ExV X.K X.mg) c0 (op d ds c.τ c.O) Q → r u us c.H Q
def methM (T : String) (f : Mm Ex) (fa : Mm (List Ex)) (op : D → List D → Mm Ex) : Mm Ex := f >>= fun x => rd x >>= fun d => if chk T d then fa >>= fun xs => rd x >>= fun d => rds xs >>= op d else bad
theorem de_meth {T id : String} {op : D → List D → Mm Ex} {o e : Expr} {es : List Expr} {name : Str} {apos cpos : Pos} {f : Mm Ex} {fa : Mm (List Ex)} (hm : Mr X W id op) (pa : PlainAttrs T) (slot : Slot T name id) (hty : typeOf (.builtin id) = pure (.type "method_descriptor")) (ho : DE X W o f) (ha : DAs X W (e :: es) fa)
    (hbase : attributeBase o name X.env (eval o X.env) = eval o X.env := by rfl)
    (hfew : ((backTo cpos (starEach (e :: es) X.env)).all (fun x => !x.1) && (backToKw cpos (keywordEach [] X.env)).all (fun x => x.1.isSome)
      && decide ((e :: es).length + ([] : List Keyword).length + (if ([] : List Keyword).isEmpty then 0 else 1) < 30)) = true := by rfl)
    (hline : (apos.endLine == cpos.line) = true := by rfl) (hs : starEach (e :: es) X.env = (false, eval e X.env) :: starEach es X.env := by rfl) (hplain : (backTo cpos (starEach es X.env)).any (·.1) = false := by rfl) :
    DE X W (.Call (.Attribute o name apos) (e :: es) [] cpos) (methM T f fa op) := by
  obtain ⟨r, hr, hk⟩ := hm
  refine PE.imp (pe_bm pa slot hty hr ho ha hbase hfew hline hs hplain) fun σ H Q q => ?_
  refine post_fst q fun c x c2 u rl hσ hH a2 hσ2 hx hp => ?_
  obtain ⟨d, rx, hp2⟩ := rd_okS a2.rl hx hp
  cases hc : chk T d with
  | false => rw [hc] at hp2; exact hp2.elim
  | true =>
    rw [hc, if_pos rfl] at hp2
    refine ⟨tyM_of a2.rl rx (chk_of hc), ?_⟩
    rw [← hσ]
    refine post_seq a2 hσ2 hp2 fun xs c3 us a3 hσ3 hv hp3 => ?_
    have hx3 := hx.aft a2.rl a3 (hσ3.trans hσ2.symm)
    obtain ⟨d', rx', hp4⟩ := rd_okS a3.rl hx3 hp3
    obtain ⟨ds, rs, hp5⟩ := rds_ok a3.rl hv hp4
    exact hk c c3 u us d' ds Q (a2.trans a3) hσ3 rx' rs hp5
theorem de_meth0 {T id : String} {op : D → List D → Mm Ex} {o : Expr} {name : Str} {apos cpos : Pos} {f : Mm Ex} (hm : Mr X W id op) (pa : PlainAttrs T) (slot : Slot T name id) (hty : typeOf (.builtin id) = pure (.type "method_descriptor")) (ho : DE X W o f)
    (hbase : attributeBase o name X.env (eval o X.env) = eval o X.env := by rfl) (hline : (apos.endLine == cpos.line) = true := by rfl) :
    DE X W (.Call (.Attribute o name apos) [] [] cpos) (f >>= fun x => rd x >>= fun d => if chk T d then op d [] else bad) := by
  obtain ⟨r, hr, hk⟩ := hm
  refine PE.imp (pe_bm0 pa slot hty hr ho hbase hline) fun σ H Q q => ?_
  refine post_fst q fun c x c2 u rl hσ hH a2 hσ2 hx hp => ?_
  obtain ⟨d, rx, hp2⟩ := rd_okS a2.rl hx hp
  cases hc : chk T d with
  | false => rw [hc] at hp2; exact hp2.elim
  | true =>
    rw [hc, if_pos rfl] at hp2
    exact ⟨tyM_of a2.rl rx (chk_of hc), hk c c2 u [] d [] Q a2 hσ2 rx .nil hp2⟩
/-- sep.join(texts) -/
def okJoin (a : Str) (ys : List Str) : Bool := decide ((ys.map (·.length)).sum + ys.length * a.length ≤ 16777216)
def joinO (a : Str) (ds : List D) : Option D := match asStrs ds with
  | some ys => if okJoin a ys then some (.str (Txt.join a ys)) else none
  | none => none
def joinB (d : D) (ds : List D) : Mm Ex := match d, ds with
  | .str a, [.lst es] => opt (joinO a es) >>= fun r => pure (fl r)
  | .str a, [.tup es] => opt (joinO a es) >>= fun r => pure (fl r)
  | _, _ => bad
theorem joinO_of {a : Str} {ds : List D} {r : D} (h : joinO a ds = some r) : ∃ ys, ds = ys.map D.str ∧ (ys.map (·.length)).sum + ys.length * a.length ≤ 16777216 ∧ r = .str (Txt.join a ys) := by
  unfold joinO at h
  split at h
  · rename_i ys e
    split at h
    · rename_i hz
      unfold okJoin at hz
      exact ⟨ys, asStrs_of e, of_decide_eq_true hz, (Option.some.inj h).symm⟩
    · cases h
  · cases h
theorem mr_join : Mr X W "str.join" joinB := ⟨_, mt_join, fun c0 c u us d ds Q a hσ ru rs h => by
  unfold joinB at h
  split at h
  · obtain ⟨v, rfl, rv⟩ := rs.one
    obtain ⟨r, e, h'⟩ := post_opt h
    obtain ⟨ys, rfl, hz, rfl⟩ := joinO_of e
    obtain ⟨p, vs, rfl, h1, h2⟩ := rv.lst a.rl
    have ev := h2.strs
    subst ev
    exact ⟨_, p, ys, ru.str, rfl, .inl (.inl (.inl h1)), hz, post_fl a hσ h' rfl⟩
  · obtain ⟨v, rfl, rv⟩ := rs.one
    obtain ⟨r, e, h'⟩ := post_opt h
    obtain ⟨ys, rfl, hz, rfl⟩ := joinO_of e
    obtain ⟨p, vs, rfl, h1, h2⟩ := rv.tup a.rl
    have ev := h2.strs
    subst ev
    exact ⟨_, p, ys, ru.str, rfl, .inr h1, hz, post_fl a hσ h' rfl⟩
  · exact h.elim⟩
def splitB (d : D) (ds : List D) : Mm Ex := match d, ds with
  | .str a, [.str b] => if b.length != 0 && small (a.length + 2) then pure ⟨.tmp, .lst ((Txt.split a b).map D.str)⟩ else bad
  | _, _ => bad
theorem mr_split : Mr X W "str.split" splitB := ⟨_, mt_split, fun c0 c u us d ds Q a hσ ru rs h => by
  unfold splitB at h
  split at h
  · obtain ⟨v, rfl, rv⟩ := rs.one
    split at h
    · rename_i hz
      rw [Bool.and_eq_true] at hz
      refine ⟨_, _, ru.str, by rw [rv.str], ?_, small_le hz.2, fun p hp => new_lst a hσ (DatL.of_strs _) h hp⟩
      have := hz.1
      rw [bne_iff_ne] at this
      exact beq_false_of_ne this
    · exact h.elim
  · exact h.elim⟩

/-! ### x[k] = v -/
def setM (i : Nat) (k d : D) : Mm Unit := fun τ O => match τ[i]? with
  | some (some (true, .lst ds)) => match k with
    | .int n => match ixN ds.length n with
      | some j => .ok () (τ.set i (some (true, .lst (ds.set j d)))) O
      | none => .bad
    | _ => .bad
  | _ => .bad
theorem setM_ok {i : Nat} {k d : D} {kv v : V} {l : V} {c0 c : Cf} {pin : List Nat} {Q : L2.St → Hp → Prop} (a : Aft X.K X.mg c0 c) (p : Pin pin c0.σ c.σ) (hs : c.σ[i]? = some (some l)) (hk : RdV X.K X.mg c kv k) (hd : Dat X.K X.mg c.F c.μ v d)
    (h : PostU X.K X.mg pin c0 (setM i k d c.τ c.O) Q) : rSetL l kv v c.H fun H' => Q c.σ H' := by
  unfold setM at h
  split at h
  · rename_i ds ht
    split at h
    · split at h
      · rename_i n _ j e
        obtain ⟨l', xs, e1, h1, h2⟩ := own_lst a.rl ht
        rw [hs] at e1
        cases e1
        refine ⟨l', xs, n, j, rfl, hk.int, h1, by rw [h2.length]; exact e, ?_⟩
        have a' := aft_mut a (o' := .lst (xs.set j v)) (d' := .lst (ds.set j d)) ht hs ⟨_, upd_same, h2.set j hd⟩
        exact h c.σ _ c.F c.μ a' p
      · exact h.elim
    · exact h.elim
  · exact h.elim
/-- x[k] = e, the index a name or a constant, as a target among others -/
theorem dg_set {pin : List Nat} (i : Nat) {x : Str} {p tpos : Pos} {ix : Expr} {fi : Mm Ex} {W' : WX} (hix : DE X W' ix fi) (hpure : ∀ τ O, (∃ y, fi τ O = .ok y τ O) ∨ fi τ O = .bad) (hN : X.N[i]? = some x := by rfl) (hv : Vis X.env.scope x := by first | exact Or.inl rfl | exact Or.inr (Or.inl rfl) | exact Or.inr (Or.inr rfl))
    (hd : (x == ("__debug__" : Str)) = false := by decide) (hcd : (x == ("__classdict__" : Str)) = false := by decide)
    (ha : ∀ v, assign (.Subscript (.Name x p) ix tpos) X.env v = (do
      let ov ← holding [v] (eval (.Name x p) X.env)
      let iv ← holding [v, ov] (eval ix X.env)
      standAt tpos
      holding [v, ov, iv] (setItem ov iv v)
      release [v, ov, iv] []) := by intro _; rfl) :
    DG X pin (.Subscript (.Name x p) ix tpos) (fun d => fi >>= fun y => rd y >>= fun k => setM i k d) (gSub (tVar i) (tM X.K X.mg W' (ExV X.K X.mg) fi) rSetL) := by
  refine ⟨pg_sub (pe_var (i := i) hN hv hd hcd) hix set_list ha, fun d τ O cl fs τ' O' h => ?_, fun c0 c v d Q a pn hd h => ?_⟩
  · change (fi >>= fun y => rd y >>= fun k => setM i k d) τ O = _ at h
    rw [bind_app] at h
    rcases hpure τ O with ⟨y, e⟩ | e
    · rw [e] at h
      simp only at h
      rw [bind_app] at h
      cases e2 : rd y τ O with
      | ok k τ2 O2 =>
        rw [e2] at h
        simp only [setM] at h
        split at h
        · split at h
          · split at h
            · cases h
            · cases h
          · cases h
        · cases h
      | ex c1 f1 t1 o1 =>
        obtain ⟨kk, dd⟩ := y
        cases kk with
        | slot j =>
          simp only [rd] at e2
          split at e2 <;> cases e2
        | _ => cases e2
      | bad => rw [e2] at h; cases h
    · rw [e] at h; cases h
  · change PostU X.K X.mg pin c0 ((fi >>= fun y => rd y >>= fun k => setM i k d) c.τ c.O) Q at h
    have hslot : ∃ w, c.σ[i]? = some (some w) := by
      rw [bind_app] at h
      rcases hpure c.τ c.O with ⟨y, e⟩ | e
      · rw [e] at h
        simp only at h
        rw [bind_app] at h
        cases e2 : rd y c.τ c.O with
        | ok k τ2 O2 =>
          rw [e2] at h
          have e3 : τ2 = c.τ := by
            obtain ⟨kk, dd⟩ := y
            cases kk with
            | slot j =>
              simp only [rd] at e2
              split at e2 <;> cases e2
              rfl
            | _ => cases e2; rfl
          subst e3
          simp only [setM] at h
          split at h
          · rename_i ds ht
            obtain ⟨l', xs, e1, _⟩ := own_lst a.rl ht
            exact ⟨_, e1⟩
          · exact h.elim
        | ex _ _ _ _ => rw [e2] at h; exact h.elim
        | bad => rw [e2] at h; exact h.elim
      · rw [e] at h; exact h.elim
    obtain ⟨w, hw⟩ := hslot
    refine ⟨w, hw, ?_⟩
    refine ⟨c.τ, c.O, c.F, c.μ, a.rl, ?_⟩
    rw [bind_app] at h
    rcases hpure c.τ c.O with ⟨y, e⟩ | e
    · rw [e] at h ⊢
      intro kv H' F' μ' b hy
      obtain ⟨τ2, O2, F2, μ2, σ2, H2⟩ := c
      have hp : PostU X.K X.mg pin c0 ((rd y >>= fun k => setM i k d) τ2 O2) Q := h
      have key : ∃ k, RdV X.K X.mg ⟨τ2, O2, F', μ', σ2, H'⟩ kv k ∧ PostU X.K X.mg pin c0 (setM i k d τ2 O2) Q := by
        obtain ⟨kk, dd⟩ := y
        cases kk with
        | frz => exact ⟨dd, ⟨false, hy⟩, hp⟩
        | tmp =>
          obtain ⟨q, rfl, hf, ho, _, _⟩ := hy
          exact ⟨dd, ⟨true, q, rfl, hf, ho⟩, hp⟩
        | slot j =>
          have hs : σ2[j]? = some (some kv) := hy
          rw [bind_app] at hp
          cases e3 : τ2[j]? with
          | none => simp only [rd, e3] at hp; exact hp.elim
          | some o =>
            cases o with
            | none => simp only [rd, e3] at hp; exact hp.elim
            | some pr =>
              obtain ⟨b', d'⟩ := pr
              simp only [rd, e3] at hp
              obtain ⟨v', e1, e2⟩ := b.rl.sl j b' d' e3
              rw [hs] at e1
              have e' := Option.some.inj (Option.some.inj e1)
              subst e'
              exact ⟨d', ⟨b', e2⟩, hp⟩
      obtain ⟨k, hk, hp2⟩ := key
      exact setM_ok (c := ⟨τ2, O2, F', μ', σ2, H'⟩) (a.trans b) pn hw hk (Dat.mono (b.subF a.rl) b.mu _ _ hd) hp2
    · rw [e] at h; exact h.elim
theorem pure_cst {d : D} (τ : Sto) (O : Ob) : (∃ y, cst d τ O = .ok y τ O) ∨ cst d τ O = .bad := .inl ⟨_, rfl⟩
theorem pure_var {i : Nat} (τ : Sto) (O : Ob) : (∃ y, var i τ O = .ok y τ O) ∨ var i τ O = .bad := by
  unfold var
  split
  · exact .inl ⟨_, rfl⟩
  · exact .inl ⟨_, rfl⟩
  · exact .inr rfl
/-- x[k] = e -/
theorem ds_asg {pin : List Nat} {tg e : Expr} {pos : Pos} {fe : Mm Ex} {fg : D → Mm Unit} {g : TG} (he : DE X W e fe) (hg : DG X pin tg fg g) (hs : swapsWithSole [tg] e pos.line X.env = pure false := by rfl) (hw : swappedStores [tg] e X.env = pure none := by rfl)
    (h1 : (assignEach [tg] X.env).map (·.2) = [assign tg X.env] := by rfl) : DS X W pin (.Assign [tg] e pos) (fe >>= fun x => frzX x >>= fun d => fg d >>= fun _ => pure .nx) := by
  obtain ⟨p1, x1, u1⟩ := hg
  refine PS.imp (ps_asg he p1 hs hw h1) fun D σ H q => ?_
  have q' : tS X.K X.mg W pin ((fe >>= frzX) >>= fun d => fg d >>= fun _ => pure .nx) D σ H := by
    have e : ((fe >>= frzX) >>= fun d => fg d >>= fun _ => (pure .nx : Mm Fl)) = (fe >>= fun x => frzX x >>= fun d => fg d >>= fun _ => pure .nx) := by
      funext τ O
      simp only [bind_app]
      cases fe τ O <;> rfl
    rw [e]
    exact q
  obtain ⟨τ, O, F, μ, r, hp⟩ := q
  refine ⟨τ, O, F, μ, r, ?_⟩
  rw [bind_app] at hp
  cases ee : fe τ O with
  | bad => rw [ee] at hp; exact hp.elim
  | ex cl fs τ2 O2 =>
    rw [ee] at hp
    exact fun C dd H2 F2 μ2 a2 hc hd => hp C dd σ H2 F2 μ2 a2 (Pin.refl _ _) hc hd
  | ok x τ2 O2 =>
    rw [ee] at hp
    intro v H2 F2 μ2 a2 hx
    have hp2 : PostS X.K X.mg W pin ⟨τ, O, F, μ, σ, H⟩ ((frzX x >>= fun d => fg d >>= fun _ => pure .nx) τ2 O2) D := hp
    rw [bind_app] at hp2
    cases e2 : frzX x τ2 O2 with
    | bad => rw [e2] at hp2; exact hp2.elim
    | ex cl fs τ3 O3 =>
      obtain ⟨kk, dd⟩ := x
      cases kk with
      | slot j =>
        simp only [frzX] at e2
        split at e2 <;> cases e2
      | _ => cases e2
    | ok d τ3 O3 =>
      rw [e2] at hp2
      obtain ⟨eO, F', a', hd⟩ := frz_cf a2 hx e2
      refine u1 ⟨τ, O, F, μ, σ, H⟩ ⟨τ3, O3, F', μ2, σ, H2⟩ v d _ a' (Pin.refl _ _) hd ?_
      have hp3 : PostS X.K X.mg W pin ⟨τ, O, F, μ, σ, H⟩ ((fg d >>= fun _ => pure .nx) τ3 O3) D := hp2
      rw [bind_app] at hp3
      cases e3 : fg d τ3 O3 with
      | bad => rw [e3] at hp3; exact hp3.elim
      | ex cl fs τ4 O4 => exact absurd e3 (x1 _ _ _ _ _ _ _)
      | ok u τ4 O4 =>
        rw [e3] at hp3
        exact fun σ' H' F'' μ'' b pn => hp3 σ' H' F'' μ'' b pn
end
end DV
namespace DV
open PySem PySem.Spec PyProof.Rows L2

/-! ### isinstance(x, T), T built in -/
def tyN : D → Option String
  | .non => some "NoneType"
  | .bl _ => some "bool"
  | .int _ => some "int"
  | .str _ => some "str"
  | .lst _ => some "list"
  | .tup _ => some "tuple"
  | .dct false _ => some "dict"
  | .scr _ => some "list"
  | _ => none
def isiT (a b : String) : Bool := a == b || (a == "bool" && b == "int")
def isiO (T : String) (d : D) : Option Bool := match d with
  | .non => some false
  | .bl _ => some (T == "bool" || T == "int")
  | .int _ => some (T == "int")
  | .str _ => some (T == "str")
  | .lst _ => some (T == "list")
  | .scr _ => some (T == "list")
  | .tup _ => some (T == "tuple")
  | .dct false _ => some (T == "dict")
  | _ => none
def tyL : List String := ["int", "str", "bool", "tuple", "list", "dict"]
theorem kitB_tab : (["NoneType", "int", "str", "bool", "tuple", "list", "dict"].all fun a => tyL.all fun b => decide (kitB a b = some (isiT a b))) = true := by decide +kernel
theorem kitB_of {a b : String} (ha : a ∈ ["NoneType", "int", "str", "bool", "tuple", "list", "dict"]) (hb : b ∈ tyL) : kitB a b = some (isiT a b) :=
  of_decide_eq_true (List.all_eq_true.mp (List.all_eq_true.mp kitB_tab a ha) b hb)
section
variable {X : Cx} {W : WX}
theorem tyx_of {c : Cf} (r : Rl X.K X.mg c) {v : V} {d : D} {a : String} (rx : RdV X.K X.mg c v d) (h : tyN d = some a) : TyX X.K c.H v (.type a) := by
  cases d with
  | non => cases h; rw [rx.non]; exact .base .non
  | bl b => cases h; rw [rx.bl]; exact .base (.bl b)
  | int i => cases h; rw [rx.int]; exact .base (.int i)
  | str z => cases h; rw [rx.str]; exact .base (.str z)
  | lst ds => cases h; obtain ⟨p, vs, rfl, h1, h2⟩ := rx.lst r; exact .base (.lst h1)
  | tup ds =>
    cases h
    obtain ⟨p, vs, rfl, h1, h2⟩ := rx.tup r
    rcases h1 with (h1 | ⟨o, h1⟩) | ⟨o, its, n, h1, h2, _⟩
    · exact .base (.tup h1)
    · exact .fTuple h1
    · exact .kTuple h1 h2
  | scr ns =>
    cases h
    obtain ⟨p, rfl, h1⟩ := rx.scr r
    rcases h1 with (h1 | ⟨o, h1⟩) | ⟨o, its, n, h1, h2, _⟩
    · exact .base (.lst h1)
    · exact .base (.frz h1)
    · exact .kList h1 h2
  | dct t kvs =>
    cases t with
    | true => cases h
    | false =>
      cases h
      have hd := rx.dat r
      cases hd with
      | dctK h1 h2 =>
        rcases h1 with h1 | ⟨o, h1⟩
        · exact .base (.dK h1)
        · exact .fDict h1
  | _ => cases h
theorem isiO_of {T : String} {d : D} {k : Bool} (h : isiO T d = some k) (hT : T ∈ tyL) : ∃ a, tyN d = some a ∧ kitB a T = some k := by
  cases d with
  | non => refine ⟨_, rfl, ?_⟩; rw [kitB_of (by decide) hT, ← h]; revert hT; clear h; intro hT; simp [tyL] at hT; rcases hT with rfl | rfl | rfl | rfl | rfl | rfl <;> decide
  | bl b => refine ⟨_, rfl, ?_⟩; rw [kitB_of (by decide) hT]; have h' := Option.some.inj h; subst h'; clear h; simp [tyL] at hT; rcases hT with rfl | rfl | rfl | rfl | rfl | rfl <;> decide
  | int i => refine ⟨_, rfl, ?_⟩; rw [kitB_of (by decide) hT]; have h' := Option.some.inj h; subst h'; clear h; simp [tyL] at hT; rcases hT with rfl | rfl | rfl | rfl | rfl | rfl <;> decide
  | str z => refine ⟨_, rfl, ?_⟩; rw [kitB_of (by decide) hT]; have h' := Option.some.inj h; subst h'; clear h; simp [tyL] at hT; rcases hT with rfl | rfl | rfl | rfl | rfl | rfl <;> decide
  | lst ds => refine ⟨_, rfl, ?_⟩; rw [kitB_of (by decide) hT]; have h' := Option.some.inj h; subst h'; clear h; simp [tyL] at hT; rcases hT with rfl | rfl | rfl | rfl | rfl | rfl <;> decide
  | tup ds => refine ⟨_, rfl, ?_⟩; rw [kitB_of (by decide) hT]; have h' := Option.some.inj h; subst h'; clear h; simp [tyL] at hT; rcases hT with rfl | rfl | rfl | rfl | rfl | rfl <;> decide
  | scr ds => refine ⟨_, rfl, ?_⟩; rw [kitB_of (by decide) hT]; have h' := Option.some.inj h; subst h'; clear h; simp [tyL] at hT; rcases hT with rfl | rfl | rfl | rfl | rfl | rfl <;> decide
  | dct t ds =>
    cases t with
    | true => cases h
    | false => refine ⟨_, rfl, ?_⟩; rw [kitB_of (by decide) hT]; have h' := Option.some.inj h; subst h'; clear h; simp [tyL] at hT; rcases hT with rfl | rfl | rfl | rfl | rfl | rfl <;> decide
  | _ => cases h
theorem de_isi {x T : Str} {Ty : String} {p p2 pos : Pos} {e : Expr} {f : Mm Ex} (ha : DE X W e f) (hT : Ty ∈ tyL) (hx : x = ("isinstance" : Str)) (hm : X.mg x = none) (hm2 : X.mg T = none) (hv2 : bootBuiltins T = some (.type Ty)) (hg : Gl X x := by rfl) (hg2 : Gl X T := by rfl)
    (hn2 : T ≠ "__name__" := by decide) (hdb2 : (T == ("__debug__" : Str)) = false := by decide) (hs : starEach (e :: [.Name T p2]) X.env = (false, eval e X.env) :: starEach [.Name T p2] X.env := by rfl)
    (hs2 : starEach [.Name T p2] X.env = (false, eval (.Name T p2) X.env) :: starEach [] X.env := by rfl) (hpl : (backTo pos (starEach [.Name T p2] X.env)).any (·.1) = false := by rfl) :
    DE X W (.Call (.Name x p) [e, .Name T p2] [] pos) (f >>= fun x => rd x >>= fun d => opt (isiO Ty d) >>= fun k => blE k) := by
  subst hx
  refine PE.imp (pe_callB call_isi hg hm boot_isinstance (pa_cons ha (pa_cons (pe_bltn (v := .ty Ty) hg2 hm2 hv2 rfl hn2 hdb2) pa_nil hs2) hs) (by decide) (by decide) hs hpl) fun σ H Q q => ?_
  refine post_fst q fun c x c2 u rl hσ hH a2 hσ2 hx hp => ?_
  obtain ⟨d, rx, hp2⟩ := rd_okS a2.rl hx hp
  obtain ⟨k, e, hp3⟩ := post_opt hp2
  obtain ⟨a, e1, e2⟩ := isiO_of e hT
  exact ⟨u, .ty Ty, .type a, .type Ty, k, rfl, .ty Ty, tyx_of a2.rl rx e1, kit_ty e2, post_fl a2 hσ2 hp3 rfl⟩

/-! ### repr -/
def rShown (d : D) : Option Str := match toPy d with
  | some p => if SeqAt.shaped p && p.showable && !p.hasDict && small p.shown.length then some p.shown else none
  | none => none
def reprB (ds : List D) : Mm Ex := match ds with
  | [d] => opt (rShown d) >>= fun z => pure (fl (.str z))
  | _ => bad
def rRepr (K : PySem.W.Frag) : List V → Hp → VK → Prop := fun xs H Q => ∃ x p, xs = [x] ∧ Dp K H x p ∧ SeqAt.shaped p = true ∧ p.showable = true ∧ p.hasDict = false ∧ p.shown.length ≤ sizeLine ∧ Q (.str p.shown) H
theorem call_repr {k : Nat} (hS : Std X W k) : CallR X (.builtin "repr") (rRepr X.K) := by
  intro pins s σ H xs us Q I r h
  obtain ⟨x, p, rfl, hd, hs, hw, hh, hz, q⟩ := h
  obtain ⟨u, rfl, ru⟩ := vals1 r
  obtain ⟨as, hr⟩ := Dp.reads I p x u hd ru
  have hu := hS.un
  have hdep := SeqAt.depth_of_shaped hs
  cases hd with
  | non =>
    cases (show u = Value.none from ru)
    exact PySem.P.repr_of_none ⟨.str _, H, I.tok _, ⟨_, rfl⟩, q⟩
  | bl b =>
    cases (show u = Value.bool b from ru)
    exact PySem.P.repr_of_bool ⟨.str _, H, I.tok _, ⟨_, rfl⟩, q⟩
  | int i =>
    obtain ⟨t, rfl⟩ := ru
    exact PySem.P.repr_of_int (of_decide_eq_true hw) ⟨.str _, H, I.tok _, ⟨_, rfl⟩, q⟩
  | str z =>
    obtain ⟨t, rfl⟩ := ru
    exact PySem.P.repr_of_str ⟨.str _, H, I.tok _, ⟨_, rfl⟩, q⟩ hz
  | lst h1 h2 =>
    cases (show u = Value.ref _ from ru)
    exact repr_of_reads' hr hw (PyData.noDict_hsm hh) hS.grd (by omega) (fun _ _ e => e) (fun h' u tk hk => ⟨.str _, H, I.kept hk, ⟨_, rfl⟩, q⟩) hz
  | tup h1 h2 =>
    cases (show u = Value.ref _ from ru)
    exact repr_of_reads' hr hw (PyData.noDict_hsm hh) hS.grd (by omega) (fun _ _ e => e) (fun h' u tk hk => ⟨.str _, H, I.kept hk, ⟨_, rfl⟩, q⟩) hz
theorem cr_repr {k : Nat} (hS : Std X W k) : Cr X W (.builtin "repr") reprB := ⟨_, call_repr hS, fun c0 c us ds Q a hσ rs h => by
  unfold reprB at h
  split at h
  · obtain ⟨u, rfl, ru⟩ := rs.one
    obtain ⟨z, e, h'⟩ := post_opt h
    unfold rShown at e
    split at e
    · rename_i p hp
      split at e
      · rename_i hc
        rw [Bool.and_eq_true, Bool.and_eq_true, Bool.and_eq_true, Bool.not_eq_true'] at hc
        cases e
        exact ⟨u, p, rfl, dp_of _ (ru.dat a.rl) hp, hc.1.1.1, hc.1.1.2, hc.1.2, small_le hc.2, post_fl a hσ h' rfl⟩
      · cases e
    · cases e
  · exact h.elim⟩
end
end DV
namespace DV
open PySem PySem.Spec PyProof.Rows L2
section
variable {X : Cx} {W : WX} {k : Nat}
theorem takes0 {s : Shared} {H : Hp} {scope : Scope} {ce : Env} {fp : List Addr} : Takes (X.blk s H scope ce fp) W0 := fun u s' ⟨a, B, sI, pins, σ, H', cls, d, e, I, nb, up, sky, na, os, ag, w⟩ => w
theorem Std'.blk (h : Std' X W k) (s : Shared) (H : Hp) (scope : Scope) (ce : Env) (fp : List Addr) : Std' (X.blk s H scope ce fp) W0 k :=
  ⟨⟨h.std.room, h.std.grd, takes0⟩, PassesOwn.never, h.calm⟩
/-! ### what has no reading -/
theorem de_bad {e : Expr} : DE X W e bad := ⟨fun _ _ _ _ _ _ ⟨_, _, _, _, _, h⟩ => h.elim⟩
theorem df_bad {e : Expr} : DF X W e bad := ⟨fun _ _ _ _ _ _ ⟨_, _, _, _, _, h⟩ => h.elim⟩
theorem dt_bad {e : Expr} : DT X W e bad := ⟨fun _ _ _ _ _ _ ⟨_, _, _, _, _, h⟩ => h.elim⟩
theorem ds_bad {pin : List Nat} {st : Stmt} : DS X W pin st bad := ⟨fun _ _ _ _ _ _ ⟨_, _, _, _, _, h⟩ => h.elim⟩
theorem das_bad {es : List Expr} : DAs X W es bad := ⟨fun _ _ _ _ _ _ _ ⟨_, _, _, _, _, h⟩ => h.elim⟩
theorem dfs_bad {es : List Expr} : DFs X W es bad := ⟨fun _ _ _ _ _ _ _ ⟨_, _, _, _, _, h⟩ => h.elim⟩
theorem dg_bad {pin : List Nat} {tg : Expr} : DG X pin tg (fun _ => bad) (fun _ _ _ _ => False) := ⟨⟨fun _ _ _ _ _ _ _ _ _ h => h.elim⟩, fun _ _ _ _ _ _ _ h => (by cases h), fun _ _ _ _ _ _ _ _ h => h.elim⟩
/-! ### constants of the module -/
theorem de_gI {x : Str} {i : Int} {pos : Pos} (h : ∃ t, X.mg x = some (.int i t)) (hg : Gl X x := by rfl) (hdb : (x == ("__debug__" : Str)) = false := by decide) : DE X W (.Name x pos) (cst (.int i)) := by
  obtain ⟨t, h⟩ := h
  exact de_glob (v := .int i) h ⟨t, rfl⟩ (fun _ _ => .int i) hg hdb
theorem de_gS {x z : Str} {pos : Pos} (h : ∃ t, X.mg x = some (.str z t)) (hg : Gl X x := by rfl) (hdb : (x == ("__debug__" : Str)) = false := by decide) : DE X W (.Name x pos) (cst (.str z)) := by
  obtain ⟨t, h⟩ := h
  exact de_glob (v := .str z) h ⟨t, rfl⟩ (fun _ _ => .str z) hg hdb
end
end DV
namespace DV
open PySem PySem.Spec PyProof.Rows L2
section
variable {K : PySem.W.Frag} {mg : Str → Option Value} {W : WX} {c : Cf}
theorem post_imp {α β : Type} {VR : Cf → Cf → α → β → Prop} {r : Res α} {Q Q' : β → Hp → Prop} (h : Post K mg W VR c r Q) (k : ∀ y H, Q y H → Q' y H) : Post K mg W VR c r Q' := by
  cases r with
  | ok x τ O => exact fun y H' F' μ' a v => k y H' (h y H' F' μ' a v)
  | ex cl fs τ O => exact h
  | bad => exact h
end
/-! ### several names at once: what is new stays owned -/
def unX (x : Ex) : Mm Ex := match x.k with
  | .slot _ => frzX x >>= fun d => pure (fl d)
  | _ => pure x
def unXs : List Ex → Mm (List Ex)
  | [] => pure []
  | x :: xs => unX x >>= fun y => unXs xs >>= fun ys => pure (y :: ys)
def stK (i : Nat) (x : Ex) : Mm Unit := match x.k with
  | .tmp => st1 i true x.d
  | .frz => st1 i false x.d
  | .slot _ => bad
def stL : List Nat → List Ex → Mm Unit
  | [], [] => pure ()
  | i :: is, x :: xs => stK i x >>= fun _ => stL is xs
  | _, _ => bad
def sets : List Nat → List V → L2.St → L2.St
  | i :: is, v :: vs, σ => sets is vs (σ.set i (some v))
  | _, _, σ => σ
def parM (is : List Nat) (fa : Mm (List Ex)) : Mm Fl := fa >>= fun xs => unXs xs >>= fun ys => stL is ys >>= fun _ => pure .nx
section
variable {K : PySem.W.Frag} {mg : Str → Option Value} {W : WX} {c0 c c1 cc : Cf} {pin : List Nat}
theorem ExVs.aft (r : Rl K mg c) (a : Aft K mg c c1) (hσ : c1.σ = c.σ) : ∀ {xs : List Ex} {vs : List V}, ExVs K mg c0 c xs vs → ExVs K mg c0 c1 xs vs
  | _, _, .nil => .nil
  | _, _, .cons h t n => .cons (h.aft r a hσ) (ExVs.aft r a hσ t) n
theorem unXs_ok : ∀ {xs : List Ex} {vs : List V} {c : Cf} {g : List Ex → Mm Fl} {D : Ends}, Aft K mg c0 c → ExVs K mg c0 c xs vs → PostS K mg W pin cc ((unXs xs >>= g) c.τ c.O) D →
    ∃ ys c', Aft K mg c c' ∧ c'.σ = c.σ ∧ c'.H = c.H ∧ ExVs K mg c0 c' ys vs ∧ (∀ (j : Nat) (y : Ex), ys[j]? = some y → y.k = Kd.tmp → xs[j]? = some y) ∧ PostS K mg W pin cc (g ys c'.τ c'.O) D
  | _, _, c, g, D, a, .nil, h => ⟨[], c, Aft.refl a.rl, rfl, rfl, .nil, fun j y e => by simp at e, h⟩
  | _, _, c, g, D, a, .cons (x := x) (v := v) (xs := xs) (vs := vs) hx ht hn, h => by
    have e0 : (unXs (x :: xs) >>= g) = (unX x >>= fun y => unXs xs >>= fun ys => g (y :: ys)) := by
      funext τ O
      simp only [unXs, bind_app]
      cases unX x τ O with
      | ok d τ O =>
        simp only
        cases unXs xs τ O <;> rfl
      | _ => rfl
    rw [e0] at h
    have key : ∃ y c', Aft K mg c c' ∧ c'.σ = c.σ ∧ c'.H = c.H ∧ ExV K mg c0 c' y v ∧ (y.k = .tmp → y = x) ∧ PostS K mg W pin cc ((unXs xs >>= fun ys => g (y :: ys)) c'.τ c'.O) D := by
      obtain ⟨k, d⟩ := x
      cases k with
      | frz => exact ⟨_, c, Aft.refl a.rl, rfl, rfl, hx, fun _ => rfl, h⟩
      | tmp => exact ⟨_, c, Aft.refl a.rl, rfl, rfl, hx, fun _ => rfl, h⟩
      | slot i =>
        rw [bind_app] at h
        cases e : frzX ⟨.slot i, d⟩ c.τ c.O with
        | ok d' τ' O' =>
          have e2 : unX ⟨.slot i, d⟩ c.τ c.O = .ok (fl d') τ' O' := by
            simp only [unX, bind_app, e]
            rfl
          rw [e2] at h
          obtain ⟨eO, F', a', hd⟩ := frz_cf (c0 := c) (x := ⟨.slot i, d⟩) (v := v) (Aft.refl a.rl) (show ExV K mg c c ⟨.slot i, d⟩ v from hx) e
          exact ⟨fl d', ⟨τ', O', F', c.μ, c.σ, c.H⟩, a', rfl, rfl, hd, (fun z => by cases z), h⟩
        | ex _ _ _ _ =>
          simp only [frzX] at e
          split at e <;> cases e
        | bad =>
          have e2 : unX ⟨.slot i, d⟩ c.τ c.O = .bad := by
            simp only [unX, bind_app, e]
          rw [e2] at h
          exact h.elim
    obtain ⟨y, c1, a1, s1, h1, x1, t1, p1⟩ := key
    obtain ⟨ys, c2, a2, s2, h2, x2, t2, p2⟩ := unXs_ok (a.trans a1) (ht.aft a.rl a1 s1) p1
    refine ⟨y :: ys, c2, a1.trans a2, s2.trans s1, h2.trans h1, .cons (x1.aft a1.rl a2 s2) x2 (fun p hk hv j z hz hzk => ?_), fun j z hz hzk => ?_, p2⟩
    · have e := t1 hk
      subst e
      exact hn p hk hv j z (t2 j z hz hzk) hzk
    · cases j with
      | zero =>
        have e := Option.some.inj hz
        subst e
        rw [t1 hzk]
        rfl
      | succ j => exact t2 j z hz hzk
theorem stL_ok : ∀ {is : List Nat} {xs : List Ex} {vs : List V} {c : Cf} {g : Mm Fl} {D : Ends}, Aft K mg c0 c → ExVs K mg c0 c xs vs → PostS K mg W pin cc ((stL is xs >>= fun _ => g) c.τ c.O) D →
    is.length = vs.length ∧ ∃ τ' O', Aft K mg c0 ⟨τ', O', c.F, c.μ, sets is vs c.σ, c.H⟩ ∧ PostS K mg W pin cc (g τ' O') D
  | [], _, _, c, g, D, a, .nil, h => ⟨rfl, c.τ, c.O, a, h⟩
  | [], _, _, c, g, D, a, .cons hx ht hn, h => h.elim
  | _ :: _, _, _, c, g, D, a, .nil, h => h.elim
  | i :: is, _, _, c, g, D, a, .cons (x := x) (v := v) (xs := xs) (vs := vs) hx ht hn, h => by
    have e0 : (stL (i :: is) (x :: xs) >>= fun _ => g) = (stK i x >>= fun _ => stL is xs >>= fun _ => g) := by
      funext τ O
      simp only [stL, bind_app]
      cases stK i x τ O with
      | ok d τ O => rfl
      | _ => rfl
    rw [e0] at h
    obtain ⟨k, d⟩ := x
    cases k with
    | slot j => exact h.elim
    | frz =>
      have a1 := aft_store a i (v := v) (d := d) hx
      have ht1 : ExVs K mg c0 { c with τ := c.τ.set i (some (false, d)), σ := c.σ.set i (some v) } xs vs ∨ True := .inr trivial
      have conv : ∀ {y : Ex} {w : V}, y.k ≠ .slot i → (∀ j, y.k ≠ .slot j) → ExV K mg c0 c y w → ExV K mg c0 { c with τ := c.τ.set i (some (false, d)), σ := c.σ.set i (some v) } y w := fun {y w} _ hs hy => by
        obtain ⟨ky, dy⟩ := y
        cases ky with
        | slot j => exact absurd rfl (hs j)
        | frz => exact hy
        | tmp =>
          obtain ⟨p, rfl, h1, h2, h3, h4⟩ := hy
          refine ⟨p, rfl, h1, h2, fun m => h3 ?_, h4⟩
          rcases m with ⟨n, e, m1, m2⟩ | m
          · rcases set_get (show (c.τ.set i (some (false, d)))[n]? = some (some (true, e)) from m1) with ⟨_, z⟩ | ⟨hne, z⟩
            · cases z
            · exact .inl ⟨n, e, z, (List.getElem?_set_ne (Ne.symm hne)).symm.trans m2⟩
          · exact .inr m
      have all : ∀ {zs : List Ex} {ws : List V}, ExVs K mg c0 c zs ws → (∃ is' g' D', PostS K mg W pin cc ((stL is' zs >>= fun _ => (g' : Mm Fl)) (c.τ.set i (some (false, d))) c.O) D') ∨ (∀ y ∈ zs, ∀ j, y.k ≠ .slot j) → (∀ y ∈ zs, ∀ j, y.k ≠ .slot j) → ExVs K mg c0 { c with τ := c.τ.set i (some (false, d)), σ := c.σ.set i (some v) } zs ws := by
        intro zs ws hz _ hns
        induction hz with
        | nil => exact .nil
        | cons q1 q2 q3 ih => exact .cons (conv (hns _ List.mem_cons_self i) (hns _ List.mem_cons_self) q1) (ih (.inr fun y hy => hns y (List.mem_cons_of_mem _ hy)) fun y hy => hns y (List.mem_cons_of_mem _ hy)) q3
      have ns : ∀ y ∈ xs, ∀ j, y.k ≠ .slot j := stL_ns (is := is) (τ := c.τ.set i (some (false, d))) (O := c.O) h
      obtain ⟨hl, τ', O', a2, p2⟩ := stL_ok (c := { c with τ := c.τ.set i (some (false, d)), σ := c.σ.set i (some v) }) a1 (all ht (.inr ns) ns) h
      exact ⟨by simp [hl], τ', O', a2, p2⟩
    | tmp =>
      obtain ⟨q, rfl, k1, k2, k3, k4⟩ := hx
      have a1 := aft_storeT a i k1 k2 k3 k4
      have conv : ∀ {y : Ex} {w : V}, (∀ j, y.k ≠ .slot j) → (y.k = .tmp → w ≠ .ref q) → ExV K mg c0 c y w → ExV K mg c0 { c with τ := c.τ.set i (some (true, d)), σ := c.σ.set i (some (.ref q)) } y w := fun {y w} hs hq hy => by
        obtain ⟨ky, dy⟩ := y
        cases ky with
        | slot j => exact absurd rfl (hs j)
        | frz => exact hy
        | tmp =>
          obtain ⟨p, rfl, h1, h2, h3, h4⟩ := hy
          refine ⟨p, rfl, h1, h2, fun m => h3 ?_, h4⟩
          rcases m with ⟨n, e, m1, m2⟩ | m
          · rcases set_get (show (c.τ.set i (some (true, d)))[n]? = some (some (true, e)) from m1) with ⟨hne, z⟩ | ⟨hne, z⟩
            · subst hne
              rcases set_get (show (c.σ.set n (some (V.ref q)))[n]? = some (some (V.ref p)) from m2) with ⟨_, z2⟩ | ⟨z2, _⟩
              · have e2 := Option.some.inj z2
                exact absurd e2 (hq rfl)
              · exact absurd rfl z2
            · exact .inl ⟨n, e, z, (List.getElem?_set_ne (Ne.symm hne)).symm.trans m2⟩
          · exact .inr m
      have all : ∀ {zs : List Ex} {ws : List V}, ExVs K mg c0 c zs ws → (∀ y ∈ zs, ∀ j, y.k ≠ .slot j) → (∀ (j : Nat) (y : Ex), zs[j]? = some y → y.k = .tmp → ws[j]? ≠ some (.ref q)) → ExVs K mg c0 { c with τ := c.τ.set i (some (true, d)), σ := c.σ.set i (some (.ref q)) } zs ws := by
        intro zs ws hz hns hq
        induction hz with
        | nil => exact .nil
        | cons q1 q2 q3 ih => exact .cons (conv (hns _ List.mem_cons_self) (fun hk e => hq 0 _ rfl hk (by rw [e]; rfl)) q1) (ih (fun y hy => hns y (List.mem_cons_of_mem _ hy)) fun j y hy hk => hq (j + 1) y hy hk) q3
      have ns : ∀ y ∈ xs, ∀ j, y.k ≠ .slot j := stL_ns (is := is) (τ := c.τ.set i (some (true, d))) (O := c.O) h
      obtain ⟨hl, τ', O', a2, p2⟩ := stL_ok (c := { c with τ := c.τ.set i (some (true, d)), σ := c.σ.set i (some (.ref q)) }) a1 (all ht ns (hn q rfl rfl)) h
      exact ⟨by simp [hl], τ', O', a2, p2⟩
where
  stL_ns : ∀ {xs : List Ex} {is : List Nat} {τ : Sto} {O : Ob} {g : Mm Fl} {D : Ends}, PostS K mg W pin cc ((stL is xs >>= fun _ => g) τ O) D → ∀ y ∈ xs, ∀ j, y.k ≠ .slot j
  | [], is, τ, O, g, D, h, y, hy, j => by cases hy
  | x :: xs, [], τ, O, g, D, h, y, hy, j => h.elim
  | x :: xs, i :: is, τ, O, g, D, h, y, hy, j => by
    have e0 : (stL (i :: is) (x :: xs) >>= fun _ => g) = (stK i x >>= fun _ => stL is xs >>= fun _ => g) := by
      funext τ O
      simp only [stL, bind_app]
      cases stK i x τ O with
      | ok d τ O => rfl
      | _ => rfl
    rw [e0] at h
    obtain ⟨k, d⟩ := x
    cases k with
    | slot j => exact h.elim
    | frz =>
      rcases List.mem_cons.mp hy with rfl | hy
      · exact fun z => by cases z
      · exact stL_ns (is := is) h y hy j
    | tmp =>
      rcases List.mem_cons.mp hy with rfl | hy
      · exact fun z => by cases z
      · exact stL_ns (is := is) h y hy j
end
section
variable {X : Cx} {W : WX} {pin : List Nat}
theorem parT_of {is : List Nat} {fa : Mm (List Ex)} {D : Ends} {σ : L2.St} {H : Hp} (hp : ∀ i ∈ is, i ∉ pin) (q : tS X.K X.mg W pin (parM is fa) D σ H) :
    tM X.K X.mg W (ExVs X.K X.mg) fa σ H (fun vs H1 => is.length = vs.length ∧ D.nx (sets is vs σ) H1 ∧ ∀ p, H1 p = none → D.nx (sets is vs σ) (upd H1 p (.tup vs))) := by
  refine posts_fst q fun c xs c2 vs r hσ hH a2 hσ2 hx h => ?_
  obtain ⟨ys, c3, a3, s3, h3, x3, _, p3⟩ := unXs_ok a2 hx h
  have e3 : c3.σ = c.σ := s3.trans hσ2
  obtain ⟨hl, τ', O', a4, p4⟩ := stL_ok (a2.trans a3) x3 p3
  have pn : Pin pin c.σ (sets is vs c3.σ) := by
    rw [e3]
    clear p3 p4 a4 hx x3 q h
    have gen : ∀ (is : List Nat) (vs : List V) (σ0 : L2.St), (∀ i ∈ is, i ∉ pin) → Pin pin σ0 (sets is vs σ0) := by
      intro is
      induction is with
      | nil => intro vs σ0 _; exact Pin.refl _ _
      | cons i is ih =>
        intro vs σ0 hp
        cases vs with
        | nil => exact Pin.refl _ _
        | cons v vs => exact (Pin.set (hp i List.mem_cons_self)).trans (ih vs _ fun j hj => hp j (List.mem_cons_of_mem _ hj))
    exact gen is vs c.σ hp
  refine ⟨hl, ?_, fun p hn => ?_⟩
  · have := p4 (sets is vs c3.σ) c3.H c3.F c3.μ a4 pn
    rw [e3, hσ, h3] at this
    exact this
  · have hn' : c3.H p = none := by rw [h3]; exact hn
    have a5 := aft_newT a4 (p := p) (o := .tup vs) hn'
    have := p4 (sets is vs c3.σ) (upd c3.H p (.tup vs)) c3.F c3.μ a5 pn
    rw [e3, hσ, h3] at this
    exact this
theorem ds_par (i j : Nat) {x y : Str} {a b : Expr} {px py pt pos : Pos} {kt k2 pt2} {fa : Mm (List Ex)} (hc : X.calm = true) (hN : X.N.Nodup) (ha : DAs X W [a, b] fa) (hi : X.N[i]? = some x := by rfl) (hj : X.N[j]? = some y := by rfl) (hij : i ≠ j := by decide)
    (hx : X.env.scope.names.lookup x = some .local := by rfl) (hy : X.env.scope.names.lookup y = some .local := by rfl) (hp : ∀ n ∈ [i, j], n ∉ pin := by decide)
    (hw : swappedStores [.Tuple [.Name x px, .Name y py] kt pt] (.Tuple [a, b] k2 pt2) X.env = pure (some [x, y]) := by rfl)
    (hs : swapsWithSole [.Tuple [.Name x px, .Name y py] kt pt] (.Tuple [a, b] k2 pt2) pos.line X.env = pure false := by rfl) :
    DS X W pin (.Assign [.Tuple [.Name x px, .Name y py] kt pt] (.Tuple [a, b] k2 pt2) pos) (parM [i, j] fa) := by
  refine PS.imp (ps_par hc hN hi hj hij hx hy ha hw hs) fun D σ H q => ?_
  obtain ⟨τ, O, F, μ, r, h⟩ := parT_of hp q
  refine ⟨τ, O, F, μ, r, post_imp h fun vs H1 ⟨h1, h2, _⟩ => ?_⟩
  match vs, h1 with
  | [v, w], _ => exact ⟨v, w, rfl, h2⟩
theorem ds_par3 (i j l : Nat) {x y z : Str} {a b c : Expr} {px py pz pt pos : Pos} {kt k2 pt2} {fa : Mm (List Ex)} (hc : X.calm = true) (hN : X.N.Nodup) (ha : DAs X W [a, b, c] fa) (hi : X.N[i]? = some x := by rfl) (hj : X.N[j]? = some y := by rfl) (hl : X.N[l]? = some z := by rfl)
    (hij : i ≠ j := by decide) (hil : i ≠ l := by decide) (hjl : j ≠ l := by decide)
    (hx : X.env.scope.names.lookup x = some .local := by rfl) (hy : X.env.scope.names.lookup y = some .local := by rfl) (hz : X.env.scope.names.lookup z = some .local := by rfl) (hp : ∀ n ∈ [i, j, l], n ∉ pin := by decide)
    (hw : swappedStores [.Tuple [.Name x px, .Name y py, .Name z pz] kt pt] (.Tuple [a, b, c] k2 pt2) X.env = pure (some [x, y, z]) := by rfl)
    (hs : swapsWithSole [.Tuple [.Name x px, .Name y py, .Name z pz] kt pt] (.Tuple [a, b, c] k2 pt2) pos.line X.env = pure false := by rfl) :
    DS X W pin (.Assign [.Tuple [.Name x px, .Name y py, .Name z pz] kt pt] (.Tuple [a, b, c] k2 pt2) pos) (parM [i, j, l] fa) := by
  refine PS.imp (ps_par3 hc hN hi hj hl hij hil hjl hx hy hz ha hw hs) fun D σ H q => ?_
  obtain ⟨τ, O, F, μ, r, h⟩ := parT_of hp q
  refine ⟨τ, O, F, μ, r, post_imp h fun vs H1 ⟨h1, h2, _⟩ => ?_⟩
  match vs, h1 with
  | [u, v, w], _ => exact ⟨u, v, w, rfl, h2⟩
/-- names as targets, by their slots -/
def gN : List Nat → TGs
  | [] => gNil
  | i :: is => gCons (gName i) (gN is)
theorem gN_of : ∀ {is : List Nat} {vs : List V} {σ : L2.St} {H : Hp} {Q : L2.St → Hp → Prop}, is.length = vs.length → Q (sets is vs σ) H → gN is vs σ H Q
  | [], [], σ, H, Q, _, h => ⟨rfl, h⟩
  | i :: is, v :: vs, σ, H, Q, hl, h => ⟨v, vs, rfl, gN_of (is := is) (Nat.succ.inj hl) h⟩
theorem ds_tupN (is : List Nat) (n : Nat) {tgs es : List Expr} {kt k2 : Nat} {pt pt2 pos : Pos} {fa : Mm (List Ex)} (hc : X.calm = true) (hg : PGs X tgs (gN is)) (ha : DAs X W es fa) (hlen : is.length = n := by rfl) (hsm : n ≤ 16777216 := by decide) (hp : ∀ i ∈ is, i ∉ pin := by decide)
    (hn : (assignEach tgs X.env).length = n := by rfl) (hst : (assignEach tgs X.env).findIdx? (·.1) = none := by rfl) (hs : swapsWithSole [.Tuple tgs kt pt] (.Tuple es k2 pt2) pos.line X.env = pure false := by rfl) (hw : swappedStores [.Tuple tgs kt pt] (.Tuple es k2 pt2) X.env = pure none := by rfl)
    (h1 : (assignEach [.Tuple tgs kt pt] X.env).map (·.2) = [assign (.Tuple tgs kt pt) X.env] := by rfl) : DS X W pin (.Assign [.Tuple tgs kt pt] (.Tuple es k2 pt2) pos) (parM is fa) := by
  refine PS.imp (ps_asg (pe_tup ha) (pg_tup (n := n) hc hg hn hst) hs hw h1) fun D σ H q => ?_
  obtain ⟨τ, O, F, μ, r, h⟩ := parT_of hp q
  refine ⟨τ, O, F, μ, r, post_imp h fun vs H1 ⟨h1, _, h2⟩ => ⟨by rw [← h1, hlen, sizeLine_eq]; exact hsm, fun p hn => ⟨p, vs, rfl, SqT.of upd_same, by rw [← h1, hlen], gN_of h1 (h2 p hn)⟩⟩⟩
end
end DV
namespace DV
open PySem PySem.Spec PyProof.Rows L2
theorem bt_len : bootBuiltins "len" = some (.builtin "len") := by decide +kernel
theorem bt_abs : bootBuiltins "abs" = some (.builtin "abs") := by decide +kernel
theorem bt_divmod : bootBuiltins "divmod" = some (.builtin "divmod") := by decide +kernel
theorem bt_max : bootBuiltins "max" = some (.builtin "max") := by decide +kernel
theorem bt_min : bootBuiltins "min" = some (.builtin "min") := by decide +kernel
theorem bt_sum : bootBuiltins "sum" = some (.builtin "sum") := by decide +kernel
theorem bt_all : bootBuiltins "all" = some (.builtin "all") := by decide +kernel
theorem bt_any : bootBuiltins "any" = some (.builtin "any") := by decide +kernel
theorem bt_repr : bootBuiltins "repr" = some (.builtin "repr") := by decide +kernel
theorem bt_int : bootBuiltins "int" = some (.type "int") := by decide +kernel
theorem bt_str : bootBuiltins "str" = some (.type "str") := by decide +kernel
theorem bt_bool : bootBuiltins "bool" = some (.type "bool") := by decide +kernel
theorem bt_tuple : bootBuiltins "tuple" = some (.type "tuple") := by decide +kernel
theorem bt_list : bootBuiltins "list" = some (.type "list") := by decide +kernel
theorem bt_dict : bootBuiltins "dict" = some (.type "dict") := by decide +kernel
end DV
namespace DV
open PySem PySem.Spec PyProof.Rows L2
/-! ### the law's own call -/
section
variable {P : Program} {w : World} {K : PySem.W.Frag} {mg mb : Str → Option Value} {k : Nat} {fa a : Addr} {fd : FuncData} {x : Str} {sp : Sp} {t : Shared} {us : List Value} {ns : List Int}
def Good (t : Shared) (r : Result) (t' : Shared) : Prop := r = .ok (.ret (.bool true)) ∧ OldK t.heap t'.heap ∧ t'.os = t.os ∧ AllBare t'.gens
theorem good_of {H : Hp} (hO : Only H) (ok : HOk P w H t.heap) {r : Result} {t' : Shared} (h : CR (L2.CX P w) [] P w H t (fun v _ => v = .bl true) (fun _ _ _ => False) r t') : Good t r t' := by
  cases r with
  | error e =>
    obtain ⟨_, _, _, _, _, _, _, _, _, _, _, _, _, no⟩ := h
  | ok f =>
    cases f with
    | ret u =>
      obtain ⟨v, G, ho, hb, un, ok', rv, e⟩ := h
      cases (show v = V.bl true from e)
      cases (show u = Value.bool true from rv)
      refine ⟨rfl, OldK.of_keep ?_, ho, hb⟩
      intro b o hbo
      rcases hO b with z | ⟨o2, xs, z⟩
      · exact un.keep b o hbo z (fun m => by cases m) (fun m => by cases m)
      · have f1 := (ok b _ z).1
        have f2 := (ok' b _ (un.frzs b o2 _ z)).1
        rw [hbo] at f1
        cases f1
        exact f2
    | next => exact (show False from h).elim
    | brk => exact (show False from h).elim
    | cont => exact (show False from h).elim
theorem law_core (KX : K.In t.heap) (N : t.heap.Ns mainGlobals mg) (B : t.heap.Ns builtinsNs mb) (bb : ∀ y : Str, y ≠ "__name__" → mb y = bootBuiltins y) (nl : t.heap.NoLimit) (ng : t.gens = #[])
    (ha : t.heap.get? a = some { cls := .type "list", data := .seq us.toArray }) (hr : Room k callerA) (F : ∀ base : Heap, K.In base → base.Ns mainGlobals mg → FnG P w K mg base k fa fd [x] sp)
    (bd : ∀ (s : Shared) (u : Value), BindsTo s fd ⟨[u], []⟩ [(x, u)]) {H : Hp} (hO : Only H) (hsp : sp [.ref a] H (fun v _ => v = .bl true) fun _ _ _ => False) (ok : HOk P w H t.heap) (at_ : ∀ b u, H b = some u → b = a) (out : ∀ u, H a = some u → K.lookup a = none) :
    codeAny (model P w) callerA (.call (.ref fa) ⟨[.ref a], []⟩) (Good t) t := by
  have clean : ∀ {b : Addr} {o : Obj}, t.heap.get? b = some o → (∀ arr n, o.data ≠ .seq arr n) → H b = none := fun {b o} e d => by
    cases q : H b with
    | none => rfl
    | some u =>
      cases at_ b u q
      rw [ha] at e
      cases e
      exact absurd rfl (d _ _)
  have ns : ∀ {b : Addr} {m : Str → Option Value}, t.heap.Ns b m → (hidT t.heap H).Ns b m := by
    rintro b m ⟨o, es, ep, e, d, r⟩
    exact ⟨o, es, ep, hidT_get e (clean e (fun arr n z => by rw [d] at z; cases z)), d, r⟩
  have kin : K.In (hidT t.heap H) := fun b o e => by
    refine hidT_get (KX b o e) ?_
    cases q : H b with
    | none => rfl
    | some u =>
      cases at_ b u q
      have := out u q
      rw [e] at this
      cases this
  have md : Mod K mg (hidT t.heap H) := by
    obtain ⟨mc, l1, l2⟩ := nl
    exact ⟨kin, ns N, ⟨mb, ns B, bb⟩, ⟨mc, ns l1, l2⟩⟩
  have en : Env0 P w K mg (hidT t.heap H) callerA [] t H :=
    ⟨rfl, md, fun b o e => of_hidT e, Nat.le_of_eq (hidT_size _ _), trivial, (fun b m => by cases m), ok, .of_eq ng⟩
  exact codeAny_mono ((F _ kin (ns N)).run callerA [] t H ⟨[.ref a], []⟩ [.ref a] [.ref a] _ _ hr rfl en (bd t (.ref a)) (.cons rfl .nil) hsp) fun r t' h => good_of hO ok h
theorem law_run (KX : K.In t.heap) (N : t.heap.Ns mainGlobals mg) (B : t.heap.Ns builtinsNs mb) (bb : ∀ y : Str, y ≠ "__name__" → mb y = bootBuiltins y) (nl : t.heap.NoLimit) (ng : t.gens = #[])
    (ha : t.heap.get? a = some { cls := .type "list", data := .seq us.toArray }) (hi : IntsAre us ns) (hl : ns.length ≤ sizeLine) (hr : Room k callerA) (F : ∀ base : Heap, K.In base → base.Ns mainGlobals mg → FnG P w K mg base k fa fd [x] sp)
    (bd : ∀ (s : Shared) (u : Value), BindsTo s fd ⟨[u], []⟩ [(x, u)]) (hsp : ∀ H : Hp, Only H → SqL K H a (ns.map V.int) → sp [.ref a] H (fun v _ => v = .bl true) fun _ _ _ => False) :
    codeAny (model P w) callerA (.call (.ref fa) ⟨[.ref a], []⟩) (Good t) t := by
  have rv := vals_ints hi
  have len := hi.length
  rcases hk : K.lookup a with _ | o
  · obtain ⟨H, eH⟩ : ∃ H : Hp, H = upd (fun _ => none) a (.frz { cls := .type "list", data := .seq us.toArray } (.lst (ns.map V.int))) := ⟨_, rfl⟩
    have here : H a = some (.frz { cls := .type "list", data := .seq us.toArray } (.lst (ns.map V.int))) := by rw [eH]; exact upd_same
    have else_ : ∀ b, b ≠ a → H b = none := fun b nb => by rw [eH]; exact upd_ne nb
    have hO : Only H := fun b => by
      by_cases e : b = a
      · rw [e]
        exact .inr ⟨_, _, here⟩
      · exact .inl (else_ b e)
    have at_ : ∀ b u, H b = some u → b = a := fun b u q => by
      refine Decidable.byContradiction fun nb => ?_
      rw [else_ b nb] at q
      cases q
    refine law_core KX N B bb nl ng ha hr F bd hO (hsp H hO (.inl (.inr ⟨_, here⟩))) (fun b u q => ?_) at_ (fun _ _ => hk)
    have e := at_ b u q
    subst e
    rw [here] at q
    cases q
    exact ⟨ha, by rw [List.length_map]; exact hl, us, _, rv, ha⟩
  · have e := KX a o hk
    rw [ha] at e
    cases e
    have hO : Only fun _ => none := fun _ => .inl rfl
    exact law_core KX N B bb nl ng ha hr F bd hO (hsp _ hO (.inr ⟨_, us.toArray, _, hk, rfl, rfl, rfl, by rw [List.size_toArray, len]; exact hl, by simpa using rv⟩)) (fun b u q => (by cases (show (none : Option HO) = some u from q))) (fun b u q => (by cases (show (none : Option HO) = some u from q)))
      (fun u q => (by cases (show (none : Option HO) = some u from q)))
end
/-- the law's mirror answers True at every script -/
def LawTrue (m : Mir) (n : Nat) : Prop := m.ar = 1 ∧ m.io = none ∧ ∀ ns : List Int, ns.length ≤ n → ∃ b d O, m.fn [.scr ns] [] = .ret b (.bl true) d O
theorem spM_law {K : PySem.W.Frag} {mg : Str → Option Value} {m : Mir} {n : Nat} (h : LawTrue m n) {H : Hp} {a : Addr} {ns : List Int} (hn : ns.length ≤ n) (hS : SqL K H a (ns.map V.int)) : spM K mg m [.ref a] H (fun v _ => v = .bl true) fun _ _ _ => False := by
  obtain ⟨h1, h2, h3⟩ := h
  obtain ⟨b, d, O, e⟩ := h3 ns hn
  refine ⟨h1.symm, [.scr ns], [], H, [], ⟨fun _ _ e => e, by rw [h2]; rfl, fun i bb dd e => ?_, fun i j dd ee p _ h1 => ?_, fun i dd p h1 => ?_, rfl, List.nodup_nil, fun n p c fs h1 => by simp at h1⟩, ?_⟩
  · rw [h2] at e
    cases i with
    | zero =>
      cases e
      exact ⟨_, rfl, Dat.scr hS⟩
    | succ i => simp [argS] at e
  · rw [h2] at h1
    cases i with
    | zero => cases h1
    | succ i => simp [argS] at h1
  · rw [h2] at h1
    cases i with
    | zero => cases h1
    | succ i => simp [argS] at h1
  · rw [e]
    intro v H' F' μ' _ hv
    cases b with
    | false => cases hv; rfl
    | true => obtain ⟨p, _, _, z, _⟩ := hv; exact z.elim
theorem walkG {l : PySem.W.OpenLaw} {n k : Nat} {q : Program} {loose : List Str} {XP : (Str → Option Value) → Heap → Prop} {YP : World → Heap → Prop} {d : DefRec} {x : Str} {m : Mir}
    (hn : l.most = some n) (hn2 : n ≤ sizeLine) (hdf : d.params.defaults = []) (hr : Room k callerA) (ht : LawTrue m n)
    (F : ∀ (w : World) (mg : Str → Option Value) (fa : Addr) (h : Heap), YP w h → h.Ns mainGlobals mg → mg d.name = some (.ref fa) →
      ∃ (K : PySem.W.Frag) (fd : FuncData), K.In h ∧ (∀ (s : Shared) (u : Value), BindsTo s fd ⟨[u], []⟩ [(x, u)]) ∧ ∀ base : Heap, K.In base → base.Ns mainGlobals mg → FnG l.prog w K mg base k fa fd [x] (spM K mg m)) :
    PySem.W.WalkO q loose XP YP l.row.toRowW d [] (fun f vs => PySem.call f vs) := by
  refine Att.attach_call hn hdf fun w _ t mg mb fa o _ _ _ a us ns G Y _ _ _ hmg hobj hints hlen hg => ?_
  obtain ⟨K, fd, KX, bd, hF⟩ := F w mg fa _ Y G.T.g hmg
  exact law_run KX G.T.g G.T.b G.T.builtins G.T.nolimit hg hobj hints (Nat.le_trans hlen hn2) hr hF bd fun H _ hS => spM_law ht hlen hS
end DV
namespace DVE
open PySem PySem.Spec PyProof.Rows L2
/-! ### enumerate of a tuple -/
set_option maxHeartbeats 1000000 in
theorem meets_en1 {v : Value} {o : Obj} {H : Heap → Prop} (B : Begins v o H) :
    Meets (Builtin.«enumerate.__new__» ⟨[.type "enumerate", v], []⟩) (fun _ R s => H s.heap ∧
      R (.ok (.ret (.ref (s.heap.push o).objs.size))) { s with heap := (s.heap.push o).push { cls := .type "enumerate", data := .fields #[.none, .bool false, .ref s.heap.objs.size, rawInt 0, .none, .none] } }) :=
  .of_wp fun prog w A R s h => by
    obtain ⟨hp, g, d, tk, os⟩ := s
    obtain ⟨h1, h⟩ := h
    have isEn := sub_enumerate
    have it1 : ∀ {A2 : Around} {E : Value → Shared → Prop} {Q : Value → Shared → Prop}, Q (.ref hp.objs.size) ⟨hp.push o, g, d, tk, os⟩ → wpAny (model prog w) A2 (pyIter v) Q E ⟨hp, g, d, tk, os⟩ :=
      fun q => B.iter prog w _ _ ⟨hp, g, d, tk, os⟩ _ h1 q
    wp_walk using it1
    refine wpAny_stack_any fun _ => wpAny_pure ?_
    split
    · rename_i c _ _ _ _ _
      cases (c == Value.type "enumerate") <;>
      · wp_walk using it1
        exact ⟨_, rfl, h⟩
    · wp_walk using it1
      exact ⟨_, rfl, h⟩
section
variable {prog : Program} {w : World} {A : Around} {E : Value → Shared → Prop} {s : Shared}
theorem call_en1 {v : Value} {o : Obj} {H : Heap → Prop} {Q : Value → Shared → Prop} (B : Begins v o H) (h1 : H s.heap)
    (h : ∀ h', IsEnum h' (s.heap.objs.size + 1) s.heap.objs.size 0 .none → h'.get? s.heap.objs.size = some o → (∀ b u, s.heap.get? b = some u → h'.get? b = some u) → Q (.ref (s.heap.objs.size + 1)) { s with heap := h' }) :
    wpAny (model prog w) A (call (.type "enumerate") [v]) Q E s := by
  refine callType_new F.called_enumerate (by decide) (F.typeCall_enumerate_1 _) (F.newCall_enumerate_1 _) (fun obj => F.args_object_init_2 obj _) F.entry_enumerate_new (meets_en1 B) ⟨h1, ?_⟩
  have sz : (s.heap.push o).objs.size = s.heap.objs.size + 1 := Heap.size_push ..
  have me := Heap.get?_push_size (s.heap.push o) (o := { cls := .type "enumerate", data := .fields #[.none, .bool false, .ref s.heap.objs.size, rawInt 0, .none, .none] }) rfl
  show _ ∧ _
  rw [sz] at me ⊢
  exact ⟨⟨_, me, rfl⟩, h _ me (Heap.get?_push_of_some _ (Heap.get?_push_size _ B.free)) fun b u x => Heap.get?_push_of_some _ (Heap.get?_push_of_some _ x)⟩
end
/-- each item of the tuple at a in a new pair -/
def IteT (K : PySem.W.Frag) (a : Addr) : It :=
  ⟨fun i H => ∃ (xs : List V) (x : V), SqT K H a xs ∧ xs[i]? = some x, fun i H v G => ∃ T x, v = .ref T ∧ H T = none ∧ G = upd H T (.tup [.int (i : Nat), x]) ∧ ∀ xs, SqT K H a xs → xs[i]? = some x, fun i H => ∃ xs : List V, SqT K H a xs ∧ xs.length ≤ i⟩
theorem turn_enT {P : Program} {w : World} {K : PySem.W.Frag} {elts : List Expr} {kk : Nat} {tpos : Pos} (a e it : Addr) (na : a ≠ e) (nt : a ≠ it) :
    Turn P w K (.Tuple elts kk tpos) (IteT K a) [e, it] e (fun i h => (∃ old, IsEnum h e it ((i : Nat) : Int) old) ∧ h.IsTupleIter it a i ∧ e ≠ it) where
  mem := by simp
  obj := fun i h st b hb => by
    obtain ⟨⟨old, he⟩, ⟨o, ho, hc, hd⟩, _⟩ := st
    rcases List.mem_cons.mp hb with z | z
    · rw [z]
      exact ⟨_, he, fun v q => nomatch q⟩
    · rw [List.mem_singleton.mp z]
      exact ⟨o, ho, fun v q => by rw [hd] at q; cases q⟩
  keep := fun i h h' st k => by
    obtain ⟨⟨old, he⟩, hi, hne⟩ := st
    exact ⟨⟨old, k e (by simp) _ he⟩, hi.at fun o q => k it (by simp) o q, hne⟩
  item := by
    intro X hP hw hK hc i pins s σ H E I hf st hg
    subst hP hw hK
    obtain ⟨⟨old, he⟩, hit, hne⟩ := st
    obtain ⟨xs, x, hq, hx⟩ := hg
    obtain ⟨its, rv, p, hz⟩ := I.tuple hq
    obtain ⟨u, hu, ru⟩ := rv.get hx
    have le : e < s.heap.objs.size := Heap.lt_size he
    have li : it < s.heap.objs.size := by obtain ⟨_, q, _⟩ := hit; exact Heap.lt_size q
    have hlt : i < its.toArray.size := by
      have := (List.getElem?_eq_some_iff.mp hu).1
      simpa using this
    have D := Draws.tuple (prog := X.prog) (w := X.w) (A := X.A.in1) (I.ok.hd hc) it a nt its.toArray
    refine wpAny_pyNext_enum_itemD D he ⟨hit, p⟩ hlt hne (fun m => ?_) fun y h' tk hy ho hst hT hsz hk => ?_
    · rcases List.mem_cons.mp m with z | z
      · exact hne z
      · exact na (List.mem_singleton.mp z).symm
    have ey : y = u := by
      have hu' : its.toArray[i]? = some u := by simpa using hu
      rw [hu'] at hy
      exact (Option.some.inj hy).symm
    subst ey
    refine ⟨_, rfl, wpAny_letOwnedTupleGo_enum (s := { s with heap := h', toks := tk + 1 }) ho fun h'' he' sb => ?_⟩
    have hT2 : h''.get? s.heap.objs.size = some { cls := .type "tuple", data := .seq #[.int i tk, y] } := (sb.2 _ (Nat.ne_of_gt le)).trans hT
    have new : ObjOk X.prog X.w (upd H s.heap.objs.size (.tup [.int (i : Nat), x])) h'' s.heap.objs.size (.tup [.int (i : Nat), x]) :=
      ⟨by show 2 ≤ sizeLine; decide, [.int i tk, y], .cons ⟨_, rfl⟩ (.cons ru .nil), ⟨_, hT2, rfl, _, rfl⟩⟩
    have I1 : Inv X pins σ (upd H s.heap.objs.size (.tup [.int (i : Nat), x])) { s with heap := h'', toks := tk + 1 } :=
      I.turnedNew (ch := [e, it]) (fun b ob hb q => (sb.2 b (fun z => hb (by simp [z]))).trans (hk b ob (fun z => hb (by simp [z])) (fun z => hb (by simp [z])) q)) hf (Nat.le_refl _) new
    refine ⟨.ref s.heap.objs.size, _, I1, rfl, ⟨_, x, rfl, I.hok.fresh (Nat.le_refl _), rfl, fun ys hy => by rw [I.tuple_inj hy hq]; exact hx⟩, ⟨⟨y, ?_⟩, hst.1.at fun o q => (sb.2 it (Ne.symm hne)).trans q, hne⟩, fun b hb => ?_⟩
    · rw [show ((i + 1 : Nat) : Int) = (i : Int) + 1 by omega]
      exact he'
    · have lb : b < s.heap.objs.size := by
        rcases List.mem_cons.mp hb with z | z
        · rw [z]; exact le
        · rw [List.mem_singleton.mp z]; exact li
      rw [upd_ne (Nat.ne_of_lt lb)]
      exact (hf b hb).1
  done := by
    intro X hP hw hK hc i pins s σ H E I hf st hg
    subst hP hw hK
    obtain ⟨⟨old, he⟩, hit, hne⟩ := st
    obtain ⟨xs, hq, hx⟩ := hg
    obtain ⟨its, rv, p, hz⟩ := I.tuple hq
    obtain ⟨f0, f1, f2, f3, f4, f5⟩ := hf it (by simp)
    have hl := rv.length
    have none_ : its.toArray[i]? = none := by
      have h2 : its.length ≤ i := by omega
      simpa using h2
    have D : Draws X.prog X.w X.A.in1 it [it, a] i (fun _ _ => True) (fun j h => j = i ∧ h.IsTupleIter it a i ∧ h.IsTuple a its.toArray) :=
      { live := fun j h st => let ⟨o, ho, _⟩ := st.2.1; ⟨o, ho⟩
        frame := fun j h h' st hk => ⟨st.1, st.2.1.at fun o e => hk it (by simp) o e, st.2.2.at fun o e => hk a (by simp) o e⟩
        item := fun j s Q E hj st _ => absurd hj (by rw [st.1]; exact Nat.lt_irrefl _)
        done := fun s Q E st hE => wpAny_nextOf_tuple_end (A := X.A.in1) (I.ok.hd hc) st.2.1 st.2.2 none_ hE }
    exact wpAny_pyNext_enum_endD D he ⟨rfl, hit, p⟩ fun h' eb => ⟨rfl, I.turned (t' := s.toks) (fun b o hb q => eb b o hb q) f0 f1 f3 f4 f5⟩
  self := fun A i s Q E st h => by
    obtain ⟨⟨_, he⟩, _⟩ := st
    exact wpAny_pyIter_enum he h
def iEnT (K : PySem.W.Frag) (ta : TA) : TI := fun σ H R => ta σ H fun vs H1 => ∃ a xs, vs = [.ref a] ∧ SqT K H1 a xs ∧ R (IteT K a) H1
theorem pi_enT {X : Cx} {e : Expr} {ta : TA} {p pos tpos : Pos} {elts : List Expr} {kk : Nat} (hg : Gl X "enumerate") (hm : X.mg "enumerate" = none) (ha : PA X [e] ta) (hs : starEach [e] X.env = [(false, eval e X.env)] := by rfl) :
    PI X (.Tuple elts kk tpos) (.Call (.Name "enumerate" p) [e] [] pos) (iEnT X.K ta) := by
  refine ⟨fun pins s σ H R I h => ?_⟩
  refine Call_ (ld_blt I hg hm boot_enumerate (PyProof.Rows.callWith_type1 (thn (ha.run pos pins s σ H _ I h) fun us s1 ⟨vs, H1, I1, r1, a, xs, ex, hq, q⟩ => ?_) hs rfl))
  subst ex
  have eu := Vals.ref1 r1
  subst eu
  obtain ⟨its, rv, p', hz⟩ := I1.tuple hq
  have la : a < s1.heap.objs.size := by obtain ⟨_, z, _⟩ := p'; exact Heap.lt_size z
  refine call_en1 (begins_tuple a its.toArray) p' fun h' he hit hk => wpAny_pyIter_enum he ?_
  have I2 : Inv X pins σ H1 { s1 with heap := h' } := I1.kept (t' := s1.toks) hk
  refine ⟨s1.heap.objs.size + 1, [s1.heap.objs.size + 1, s1.heap.objs.size], _, _, H1, rfl, I2, turn_enT a (s1.heap.objs.size + 1) s1.heap.objs.size (Nat.ne_of_lt (Nat.lt_succ_of_lt la)) (Nat.ne_of_lt la), ⟨⟨.none, he⟩, ⟨_, hit, rfl, rfl⟩, Nat.succ_ne_self _⟩, fun b hb => ?_, q⟩
  have hle : s1.heap.objs.size ≤ b := by
    rcases List.mem_cons.mp hb with z | z
    · rw [z]; exact Nat.le_succ _
    · rw [List.mem_singleton.mp z]; exact Nat.le_refl _
  exact I1.fpOk hle (I1.hok.fresh hle)
end DVE
namespace DV
open PySem PySem.Spec PyProof.Rows L2 DVE
/-! ### enumerate -/
def enuD (ds : List D) : List D := ds.mapIdx fun i d => .tup [.int (i : Nat), d]
theorem enuD_get {ds : List D} {i : Nat} {d : D} (h : (enuD ds)[i]? = some d) : ∃ y, ds[i]? = some y ∧ d = .tup [.int (i : Nat), y] := by
  unfold enuD at h
  rw [List.getElem?_mapIdx] at h
  cases e : ds[i]? with
  | none => rw [e] at h; cases h
  | some y => rw [e] at h; exact ⟨y, rfl, (Option.some.inj h).symm⟩
theorem enuD_len {ds : List D} : (enuD ds).length = ds.length := by simp [enuD]
def enuO : D → Option (List D)
  | .lst ds => some (enuD ds)
  | .tup ds => some (enuD ds)
  | _ => none
section
variable {K : PySem.W.Frag} {mg : Str → Option Value} {W : WX} {c : Cf}
/-- a new pair for a turn -/
theorem pair_new {c' : Cf} (ac : Aft K mg c c') {T : Addr} {i : Nat} {x : V} {y : D} {vs : List V} {ds : List D} (r : Rl K mg c) (hd : DatL K mg c.F c.μ vs ds) (h1 : vs[i]? = some x) (h2 : ds[i]? = some y) (hn : c'.H T = none) :
    ∃ F3, Aft K mg c' ⟨c'.τ, c'.O, F3, c'.μ, c'.σ, upd c'.H T (.tup [.int (i : Nat), x])⟩ ∧ Dat K mg F3 c'.μ (.ref T) (.tup [.int (i : Nat), y]) := by
  have a' := aft_newF (Aft.refl ac.rl) (o := .tup [.int (i : Nat), x]) hn
  refine ⟨_, a', .tup upd_same (.cons (.int _) (.cons ?_ .nil))⟩
  obtain ⟨v, e1, e2⟩ := hd.get h2
  rw [h1] at e1
  cases e1
  exact e2.mono ((ac.subF r).trans (subF_new (Aft.refl ac.rl) hn)) ac.mu
theorem walks_enL {a : Addr} {vs : List V} {ds : List D} (r : Rl K mg c) (h : c.F a = some (.lst vs)) (hd : DatL K mg c.F c.μ vs ds) : Walks K mg c (Ite K a) (enuD ds) where
  stop := fun c' ac => ⟨vs, SqL.of (ac.rl.sub _ _ (ac.subF r _ _ h)), by rw [enuD_len]; exact Nat.le_of_eq hd.length⟩
  go := fun c' i d ac e => by
    have h' := SqL.of (K := K) (ac.rl.sub _ _ (ac.subF r _ _ h))
    obtain ⟨y, ey, rfl⟩ := enuD_get e
    obtain ⟨v, e1, e2⟩ := hd.get ey
    refine ⟨⟨vs, v, h', e1⟩, fun x H3 yy => ?_⟩
    obtain ⟨T, z, rfl, hn, rfl, q⟩ := yy
    have q' := q vs h'
    exact pair_new ac r hd q' ey hn
theorem walks_enT {a : Addr} {vs : List V} {ds : List D} (r : Rl K mg c) (h : c.F a = some (.tup vs)) (hd : DatL K mg c.F c.μ vs ds) : Walks K mg c (IteT K a) (enuD ds) where
  stop := fun c' ac => ⟨vs, SqT.of (ac.rl.sub _ _ (ac.subF r _ _ h)), by rw [enuD_len]; exact Nat.le_of_eq hd.length⟩
  go := fun c' i d ac e => by
    have h' := SqT.of (K := K) (ac.rl.sub _ _ (ac.subF r _ _ h))
    obtain ⟨y, ey, rfl⟩ := enuD_get e
    obtain ⟨v, e1, e2⟩ := hd.get ey
    refine ⟨⟨vs, v, h', e1⟩, fun x H3 yy => ?_⟩
    obtain ⟨T, z, rfl, hn, rfl, q⟩ := yy
    have q' := q vs h'
    exact pair_new ac r hd q' ey hn
end
section
variable {X : Cx} {W : WX}
theorem di_enum {e : Expr} {elts : List Expr} {kk : Nat} {tpos p pos : Pos} {f : Mm D} (hm : X.mg "enumerate" = none) (h : DF X W e f) (hg : Gl X "enumerate" := by rfl) (hs : starEach [e] X.env = [(false, eval e X.env)] := by rfl) :
    DI X W (.Tuple elts kk tpos) (.Call (.Name "enumerate" p) [e] [] pos) (f >>= fun d => opt (enuO d)) := by
  have ha : DFs X W [e] (f >>= fun x => (pure [] : Mm (List D)) >>= fun xs => pure (x :: xs)) := dfs_cons h dfs_nil hs
  refine ⟨_, PI.or (pi_enum hg hm ha hs) (pi_enT hg hm ha hs), fun σ H R q => ?_⟩
  obtain ⟨τ, O, F, μ, r, hp⟩ := q
  rw [bind_app] at hp
  have ev : ∀ (Q' : List V → Hp → Prop), Post X.K X.mg W (DatV X.K X.mg) ⟨τ, O, F, μ, σ, H⟩ (f τ O) (fun v G => Q' [v] G) → tM X.K X.mg W (DatVs X.K X.mg) (f >>= fun x => (pure [] : Mm (List D)) >>= fun xs => pure (x :: xs)) σ H Q' := fun Q' h' => by
    refine ⟨τ, O, F, μ, r, ?_⟩
    rw [bind_app]
    cases e : f τ O with
    | bad => rw [e] at h'; exact h'.elim
    | ex cl fs τ2 O2 => rw [e] at h'; exact h'
    | ok d τ2 O2 =>
      rw [e] at h'
      intro vs H' F' μ' a hv
      cases hv with
      | cons h1 h2 => cases h2; exact h' _ H' F' μ' a h1
  cases e : f τ O with
  | ex cl fs τ2 O2 =>
    rw [e] at hp
    refine .inl (ev _ ?_)
    rw [e]
    exact hp
  | bad => rw [e] at hp; exact hp.elim
  | ok d τ2 O2 =>
    rw [e] at hp
    cases d with
    | lst ds =>
      refine .inl (ev _ ?_)
      rw [e]
      intro v H' F' μ' a hv
      cases hv with
      | lst h1 h2 => exact ⟨_, _, rfl, SqL.of (a.rl.sub _ _ h1), hp _ _ F' μ' a (walks_enL a.rl h1 h2)⟩
    | tup ds =>
      refine .inr (ev _ ?_)
      rw [e]
      intro v H' F' μ' a hv
      cases hv with
      | tup h1 h2 => exact ⟨_, _, rfl, SqT.of (a.rl.sub _ _ h1), hp _ _ F' μ' a (walks_enT a.rl h1 h2)⟩
    | _ => exact hp.elim
/-! ### x += e -/
def augM (i : Nat) (f : Mm Ex) : Mm Fl := fun τ O => match τ[i]? with
  | some (some (false, .int a)) => (f >>= fun y => rd y >>= fun e => match e with
    | .int b => st1 i false (.int (a + b)) >>= fun _ => pure .nx
    | _ => bad) τ O
  | _ => .bad
theorem ds_augI {pin : List Nat} (i : Nat) {x : Str} {e : Expr} {pos pos' : Pos} {f : Mm Ex} (hN : X.N.Nodup) (he : DE X W e f) (hi : X.N[i]? = some x := by rfl) (hx : Loc X.env.scope x := by first | exact Or.inl rfl | exact Or.inr rfl) (hp : i ∉ pin := by decide)
    (hf : X.fn x = true ∨ X.env.scope.names.lookup x = some .local := by first | exact .inl rfl | exact .inr rfl) : DS X W pin (.AugAssign (.Name x pos') .Add e pos) (augM i f) := by
  refine PS.imp (ps_aug hN hi hx he ip_add hf) fun D σ H ⟨τ, O, F, μ, r, h⟩ => ?_
  unfold augM at h
  split at h
  · rename_i a et
    obtain ⟨v, e1, e2⟩ := r.sl i false (.int a) et
    cases e2
    refine ⟨_, e1, ?_⟩
    refine posts_seq (c := ⟨τ, O, F, μ, σ, H⟩) (Aft.refl r) rfl h fun y c2 vy a2 hσ hy hp2 => ?_
    have key : ∃ d, RdV X.K X.mg c2 vy d ∧ PostS X.K X.mg W pin ⟨τ, O, F, μ, σ, H⟩ ((match d with
      | .int b => st1 i false (.int (a + b)) >>= fun _ => pure .nx
      | _ => bad : Mm Fl) c2.τ c2.O) D := by
      obtain ⟨kk, dd⟩ := y
      cases kk with
      | frz => exact ⟨dd, ⟨false, hy⟩, hp2⟩
      | tmp =>
        obtain ⟨q, rfl, z1, z2, _, _⟩ := hy
        exact ⟨dd, ⟨true, q, rfl, z1, z2⟩, hp2⟩
      | slot j =>
        have hs : c2.σ[j]? = some (some vy) := hy
        rw [bind_app] at hp2
        cases e3 : c2.τ[j]? with
        | none => simp only [rd, e3] at hp2; exact hp2.elim
        | some o =>
          cases o with
          | none => simp only [rd, e3] at hp2; exact hp2.elim
          | some pr =>
            obtain ⟨b', d'⟩ := pr
            simp only [rd, e3] at hp2
            obtain ⟨v', k1, k2⟩ := a2.rl.sl j b' d' e3
            rw [hs] at k1
            have e' := Option.some.inj (Option.some.inj k1)
            subst e'
            exact ⟨d', ⟨b', k2⟩, hp2⟩
    obtain ⟨d, rd, hp3⟩ := key
    cases d with
    | int b =>
      refine ⟨a, b, rfl, rd.int, ?_⟩
      have a3 := aft_store a2 i (v := .int (a + b)) (d := .int (a + b)) (Dat.int _)
      have := hp3 (c2.σ.set i (some (.int (a + b)))) c2.H c2.F c2.μ a3 ((Pin.of_eq hσ).trans (Pin.set hp))
      rw [hσ] at this
      exact this
    | _ => exact hp3.elim
  · exact h.elim
end
end DV
namespace DV
open PySem PySem.Spec PyProof.Rows L2
/-! ### facts of classes -/
def CFac (K : PySem.W.Frag) (mg : Str → Option Value) (c : Str) : Prop := ∃ C, mg c = some (.ref C) ∧ Cls K C
def NoA (K : PySem.W.Frag) (mg : Str → Option Value) (c f : Str) : Prop := ∀ C, mg c = some (.ref C) → NoAttr K C f
/-- the field f of objects of class c -/
structure FldF (K : PySem.W.Frag) (mg : Str → Option Value) (c f : Str) : Prop where
  cl : CFac K mg c
  no : NoA K mg c f
theorem FldF.at {K : PySem.W.Frag} {mg : Str → Option Value} {c f : Str} (h : FldF K mg c f) {C : Addr} (e : mg c = some (.ref C)) : Cls K C ∧ NoAttr K C f := by
  obtain ⟨C', e', k⟩ := h.cl
  rw [e] at e'
  cases e'
  exact ⟨k, h.no C e⟩
def putFD (f : Str) (d : D) : List (Str × D) → List (Str × D)
  | [] => [(f, d)]
  | (g, x) :: r => if g = f then (g, d) :: r else (g, x) :: putFD f d r
section
variable {K : PySem.W.Frag} {mg : Str → Option Value} {W : WX} {c0 c : Cf}
theorem DatF.put {F : Hp} {μ : List Addr} {f : Str} {v : V} {d : D} (hd : Dat K mg F μ v d) : ∀ {vs : List (Str × V)} {ds : List (Str × D)}, DatF K mg F μ vs ds → DatF K mg F μ (putF f v vs) (putFD f d ds)
  | _, [], h => by cases h; exact .cons hd .nil
  | _, (n, d0) :: ds, h => by
    cases h with
    | cons h1 h2 =>
      unfold putF putFD
      by_cases e : n = f
      · rw [if_pos e, if_pos e]
        exact .cons hd h2
      · rw [if_neg e, if_neg e]
        exact .cons h1 (DatF.put hd h2)
/-- the object that a value stands for -/
theorem obj_at (r : Rl K mg c) {v : V} {n : Nat} {cl : Str} {fs : List (Str × D)} (rx : RdV K mg c v (.ref n)) (ho : c.O[n]? = some (cl, fs)) (hm : (mg cl).isSome = true) :
    ∃ a C dx fvs, v = .ref a ∧ c.μ[n]? = some a ∧ mg cl = some (.ref C) ∧ c.H a = some (.ins C dx fvs) ∧ DatF K mg c.F c.μ fvs fs := by
  cases rx.frz (fun _ => nofun) (fun _ => nofun) with
  | ref h1 =>
    obtain ⟨_, h2⟩ := r.ob n _ cl fs h1 ho
    rcases h2 with ⟨C, dx, fvs, h2, h3, h4⟩ | ⟨h0, _⟩
    · exact ⟨_, C, dx, fvs, rfl, h1, h2, h3, h4⟩
    · rw [h0] at hm
      cases hm
/-- an object's fields change -/
theorem aft_obj (a : Aft K mg c0 c) {n : Nat} {p C dx : Addr} {cl : Str} {fs fs' : List (Str × D)} {fvs fvs' : List (Str × V)} (h1 : c.μ[n]? = some p) (h2 : c.O[n]? = some (cl, fs)) (h3 : mg cl = some (.ref C)) (h4 : DatF K mg c.F c.μ fvs' fs') :
    Aft K mg c0 { c with O := c.O.set n (cl, fs'), H := upd c.H p (.ins C dx fvs') } := by
  have r := a.rl
  have hF : c.F p = none := r.mineF (.inr (List.mem_of_getElem? h1))
  have hl : n < c.O.length := (List.getElem?_eq_some_iff.mp h2).1
  have apart : ∀ {m : Nat} {q : Addr}, c.μ[m]? = some q → m ≠ n → q ≠ p := fun {m q} e hn z => by
    subst z
    have l1 := (List.getElem?_eq_some_iff.mp e).1
    exact hn ((List.getElem?_inj l1 r.nd).mp (e.trans h1.symm))
  refine ⟨⟨fun b u e => ?_, r.len, fun i b d e => ?_, r.dj, r.om, by rw [List.length_set]; exact r.ol, r.nd, fun m q cl' fs2 e1 e2 => ?_⟩, fun b u h hn => ?_, a.mi, a.mu, fun b u h => ?_⟩
  · have : b ≠ p := fun z => by rw [z, hF] at e; cases e
    exact (upd_ne this).trans (r.sub _ _ e)
  · obtain ⟨v, e1, e2⟩ := r.sl i b d e
    refine ⟨v, e1, ?_⟩
    cases b with
    | false => exact e2
    | true =>
      obtain ⟨q, rfl, k1, k2⟩ := e2
      have : q ≠ p := fun z => r.om i d q e e1 (by rw [z]; exact List.mem_of_getElem? h1)
      exact ⟨q, rfl, k1, k2.keep (upd_ne this) (Sub.refl _) (Pfx.refl _)⟩
  · by_cases hm : m = n
    · subst hm
      have e2' : (c.O.set m (cl, fs'))[m]? = some (cl', fs2) := e2
      rw [List.getElem?_set_self hl] at e2'
      cases e2'
      have e1' : c.μ[m]? = some q := e1
      rw [h1] at e1'
      cases e1'
      exact ⟨hF, .inl ⟨C, dx, fvs', h3, upd_same, h4⟩⟩
    · have e2' : (c.O.set n (cl, fs'))[m]? = some (cl', fs2) := e2
      rw [List.getElem?_set_ne (Ne.symm hm)] at e2'
      obtain ⟨k1, k2⟩ := r.ob m q cl' fs2 e1 e2'
      exact ⟨k1, k2.keep (upd_ne (apart e1 hm)) (Sub.refl _) (Pfx.refl _)⟩
  · obtain ⟨k1, k2⟩ := a.fr b u h hn
    have : b ≠ p := fun z => by
      rcases a.mi p (.inr (List.mem_of_getElem? h1)) with z2 | z2
      · exact hn (by rw [z]; exact z2)
      · rw [z, z2] at h; cases h
    exact ⟨(upd_ne this).trans k1, k2⟩
  · obtain ⟨o2, k⟩ := a.tr b u h
    by_cases z : b = p
    · exact ⟨_, by show upd c.H p _ b = _; rw [z, upd_same]⟩
    · exact ⟨o2, (upd_ne z).trans k⟩
/-- an object is made -/
theorem aft_made (a : Aft K mg c0 c) {x dx C : Addr} {cl : Str} (hx : c.H x = none) (hd : c.H dx = none) (hne : dx ≠ x) (hc : mg cl = some (.ref C)) :
    Aft K mg c0 { c with O := c.O ++ [(cl, [])], μ := c.μ ++ [x], H := upd (upd c.H dx (.own x)) x (.ins C dx []) } := by
  have a1 := aft_newT a (o := .own x) hd
  have hx1 : (upd c.H dx (HO.own x)) x = none := (upd_ne (Ne.symm hne)).trans hx
  have a2 := aft_newT a1 (p := x) (o := .ins C dx []) hx1
  have r := a2.rl
  have r0 := a.rl
  have nx : x ∉ c.μ := fun m => not_mine_new r0 hx (.inr m)
  have nF : c.F x = none := by
    cases e : c.F x with
    | none => rfl
    | some o => rw [r0.sub _ _ e] at hx; cases hx
  have pf : Pfx c.μ (c.μ ++ [x]) := fun n b h => by rw [List.getElem?_append_left (List.getElem?_eq_some_iff.mp h).1]; exact h
  refine ⟨⟨r.sub, r.len, fun i b d e => ?_, r.dj, fun i d b e1 e2 m => ?_, ?_, ?_, fun n b cl' fs e1 e2 => ?_⟩, a2.fr, fun b m => ?_, a.mu.trans pf, a2.tr⟩
  · obtain ⟨v, e1, e2⟩ := r.sl i b d e
    refine ⟨v, e1, ?_⟩
    cases b with
    | false => exact Dat.mono (Sub.refl _) pf _ _ e2
    | true =>
      obtain ⟨q, rfl, k1, k2⟩ := e2
      exact ⟨q, rfl, k1, k2.keep rfl (Sub.refl _) pf⟩
  · rcases List.mem_append.mp (show b ∈ c.μ ++ [x] from m) with m | m
    · exact r0.om i d b e1 e2 m
    · rw [List.mem_singleton.mp m] at e2
      exact not_mine_new r0 hx (.inl ⟨i, d, e1, e2⟩)
  · show (c.μ ++ [x]).length = (c.O ++ [(cl, [])]).length
    rw [List.length_append, List.length_append, r0.ol]
    rfl
  · exact List.nodup_append.mpr ⟨r0.nd, by simp, fun p hp q hq z => nx (by rw [← List.mem_singleton.mp hq, ← z]; exact hp)⟩
  · have e1' : (c.μ ++ [x])[n]? = some b := e1
    have e2' : (c.O ++ [(cl, [])])[n]? = some (cl', fs) := e2
    by_cases hn : n < c.μ.length
    · rw [List.getElem?_append_left hn] at e1'
      rw [List.getElem?_append_left (by rw [← r0.ol]; exact hn)] at e2'
      obtain ⟨k1, k2⟩ := r.ob n b cl' fs e1' e2'
      exact ⟨k1, k2.keep rfl (Sub.refl _) pf⟩
    · rw [List.getElem?_append_right (by omega)] at e1'
      rw [List.getElem?_append_right (by rw [← r0.ol]; omega)] at e2'
      have hl := r0.ol
      have hz : n - c.μ.length = 0 := by
        have := (List.getElem?_eq_some_iff.mp e1').1
        simp at this
        omega
      rw [hz] at e1'
      rw [show n - c.O.length = 0 by omega] at e2'
      cases e1'
      cases e2'
      exact ⟨nF, .inl ⟨C, dx, [], hc, upd_same, .nil⟩⟩
  · rcases m with m | m
    · exact a.mi b (.inl m)
    · rcases List.mem_append.mp (show b ∈ c.μ ++ [x] from m) with m | m
      · exact a.mi b (.inr m)
      · rw [List.mem_singleton.mp m]
        exact .inr (none_start a hx)
end
/-! ### o.f -/
def fldO (cs : List Str) (f : Str) (d : D) : Mm Ex := fun τ O => match d with
  | .ref n => match O[n]? with
    | some (c, fs) => if cs.contains c then match fs.lookup f with
      | some y => .ok (fl y) τ O
      | none => .bad
      else .bad
    | none => .bad
  | _ => .bad
def setO (cs : List Str) (f : Str) (o d : D) : Mm Unit := fun τ O => match o with
  | .ref n => match O[n]? with
    | some (c, fs) => if cs.contains c && decide (fs.length < 1000) then .ok () τ (O.set n (c, putFD f d fs)) else .bad
    | none => .bad
  | _ => .bad
section
variable {X : Cx} {W : WX} {pin : List Nat}
theorem de_fld (cs : List Str) {e : Expr} {f : Str} {pos : Pos} {fe : Mm Ex} (hc : ∀ c ∈ cs, FldF X.K X.mg c f) (he : DE X W e fe) (hb : attributeBase e f X.env (eval e X.env) = eval e X.env := by rfl) :
    DE X W (.Attribute e f pos) (fe >>= fun x => rd x >>= fun d => fldO cs f d) := by
  refine PE.imp (pe_fld he hb) fun σ H Q q => ?_
  refine post_fst q fun c x c2 u rl hσ hH a2 hσ2 hx hp => ?_
  obtain ⟨d, rx, hp2⟩ := rd_okS a2.rl hx hp
  unfold fldO at hp2
  split at hp2
  · split at hp2
    · rename_i n cl fs ho
      split at hp2
      · rename_i hm
        split at hp2
        · rename_i y hy
          obtain ⟨a, C, dx, fvs, rfl, h1, h2, h3, h4⟩ := obj_at a2.rl rx ho (by obtain ⟨C', e', _⟩ := (hc cl (List.contains_iff_mem.mp hm)).cl; rw [e']; rfl)
          obtain ⟨k1, k2⟩ := (hc cl (List.contains_iff_mem.mp hm)).at h2
          obtain ⟨v, e1, e2⟩ := h4.lookup hy
          exact ⟨a, C, dx, fvs, v, rfl, h3, k1, k2, e1, post_ok (x := fl y) a2 hσ2 hp2 e2⟩
        · exact hp2.elim
      · exact hp2.elim
    · exact hp2.elim
  · exact hp2.elim
theorem ds_setF (cs : List Str) {o e : Expr} {f : Str} {pos pos' : Pos} {fo fe : Mm Ex} (hc : ∀ c ∈ cs, FldF X.K X.mg c f) (ho : DE X W o fo) (he : DE X W e fe) (hs : swapsWith e (some (.Attribute o f pos')) pos.line X.env = pure false := by rfl) :
    DS X W pin (.Assign [.Attribute o f pos'] e pos) (fe >>= fun x => frzX x >>= fun d => fo >>= fun y => rd y >>= fun q => setO cs f q d >>= fun _ => pure .nx) := by
  refine PS.imp (ps_fld ho (DF.of he) hs) fun D σ H q => ?_
  have e1 : ((fe >>= frzX) >>= fun d => fo >>= fun y => rd y >>= fun q => setO cs f q d >>= fun _ => (pure .nx : Mm Fl)) = (fe >>= fun x => frzX x >>= fun d => fo >>= fun y => rd y >>= fun q => setO cs f q d >>= fun _ => pure .nx) := by
    funext τ O
    simp only [bind_app]
    cases fe τ O <;> rfl
  rw [← e1] at q
  refine posts_fst q fun c d c2 v rl hσ hH a2 hσ2 hd hp => ?_
  have hd' : Dat X.K X.mg c2.F c2.μ v d := hd
  rw [← hσ]
  refine posts_seq a2 hσ2 hp fun y c3 u a3 hσ3 hy hp3 => ?_
  have key : ∃ o, RdV X.K X.mg c3 u o ∧ PostS X.K X.mg W pin c ((setO cs f o d >>= fun _ => pure .nx) c3.τ c3.O) D := by
    obtain ⟨kk, dd⟩ := y
    cases kk with
    | frz => exact ⟨dd, ⟨false, hy⟩, hp3⟩
    | tmp =>
      obtain ⟨q, rfl, z1, z2, _, _⟩ := hy
      exact ⟨dd, ⟨true, q, rfl, z1, z2⟩, hp3⟩
    | slot j =>
      have hs : c3.σ[j]? = some (some u) := hy
      rw [bind_app] at hp3
      cases e3 : c3.τ[j]? with
      | none => simp only [rd, e3] at hp3; exact hp3.elim
      | some o =>
        cases o with
        | none => simp only [rd, e3] at hp3; exact hp3.elim
        | some pr =>
          obtain ⟨b', d'⟩ := pr
          simp only [rd, e3] at hp3
          obtain ⟨v', k1, k2⟩ := (a2.trans a3).rl.sl j b' d' e3
          rw [hs] at k1
          have e' := Option.some.inj (Option.some.inj k1)
          subst e'
          exact ⟨d', ⟨b', k2⟩, hp3⟩
  obtain ⟨o, ro, hp4⟩ := key
  rw [bind_app] at hp4
  unfold setO at hp4
  cases o with
  | ref n =>
    cases hO : c3.O[n]? with
    | none => simp only [hO] at hp4; exact hp4.elim
    | some pr =>
      obtain ⟨cl, fs⟩ := pr
      simp only [hO] at hp4
      cases hm : cs.contains cl && decide (fs.length < 1000) with
      | false => rw [hm] at hp4; exact hp4.elim
      | true =>
        rw [hm, if_pos rfl] at hp4
        rw [Bool.and_eq_true] at hm
        have a23 := a2.trans a3
        obtain ⟨a, C, dx, fvs, rfl, h1, h2, h3, h4⟩ := obj_at a23.rl ro hO (by obtain ⟨C', e', _⟩ := (hc cl (List.contains_iff_mem.mp hm.1)).cl; rw [e']; rfl)
        obtain ⟨k1, k2⟩ := (hc cl (List.contains_iff_mem.mp hm.1)).at h2
        have a4 := aft_obj a23 (dx := dx) (fvs := fvs) h1 hO h2 (DatF.put (f := f) (Dat.mono (a3.subF a2.rl) a3.mu _ _ hd') h4)
        refine ⟨a, C, dx, fvs, rfl, h3, k1, k2, by rw [h4.length]; exact of_decide_eq_true hm.2, ?_⟩
        have := hp4 c3.σ (upd c3.H a (.ins C dx (putF f v fvs))) c3.F c3.μ a4 (Pin.of_eq hσ3)
        rw [hσ3] at this
        exact this
  | _ => exact hp4.elim
end
end DV
namespace DV
open PySem PySem.Spec PyProof.Rows L2
section
variable {X : Cx} {W : WX} {k j : Nat} {f C p g : Addr} {fd : FuncData} {ps : List Str} {sp : Sp} {ds : List Value} {dvs : List V}
/-! ### a class is called -/
theorem run_new {pins : List (Addr × Obj)} {σ : L2.St} {H : Hp} {s : Shared} {Q : VK} {us : List Value} {vs : List V} (M : Mk X.K C f) (G : FnG X.prog X.w X.K X.mg X.base k f fd ps sp) (hr : Room (k + 1) X.A) (hg : X.A.guards = some [])
    (hb : Binds X.K fd ps ds) (hd : Vals dvs ds) (tk : Takes X W) (I : Inv X pins σ H s) (r : Vals vs us)
    (h : ∀ x dx, H x = none → H dx = none → dx ≠ x → sp (.ref x :: (vs ++ dvs)) (upd (upd H dx (.own x)) x (.ins C dx [])) (fun v G => v = .non ∧ Q (.ref x) G) (WE W σ)) :
    wpAny (model X.prog X.w) X.A (call (.ref C) us) (EP X pins σ Q) X.xe s := by
  obtain ⟨n, en⟩ : ∃ n, n = s.heap.objs.size := ⟨_, rfl⟩
  have want := h (n + 1) n (I.hok.fresh (by rw [en]; exact Nat.le_succ _)) (I.hok.fresh (by rw [en]; exact Nat.le_refl _)) (Nat.ne_of_lt (Nat.lt_succ_self _))
  have J := Inv.made (C := C) I
  rw [← en] at J
  have rel : Vals (V.ref (n + 1) :: (vs ++ dvs)) (Value.ref (n + 1) :: (us ++ ds)) := .cons rfl (r.append hd)
  have len : (Value.ref (n + 1) :: us ++ ds).length = ps.length := rel.length.symm.trans (G.len _ _ _ _ want)
  refine wpAny_call (make_map (f := f) I.kIn M.makes M.init (beq_iff_eq.mp M.fn) ?_)
  rw [← en]
  refine codeAny_mono (G.run _ X.stack _ _ ⟨Value.ref (n + 1) :: us, []⟩ (Value.ref (n + 1) :: (us ++ ds)) _ _ _ (hr.make C us []) hg (J.env0.make C us []) (hb _ (Value.ref (n + 1) :: us) J.kIn len) rel want) fun res s' hq => ?_
  rcases res with er | fl
  · exact passAt tk σ pins _ _ er s' J hq
  · cases fl with
    | ret u =>
      obtain ⟨v, G', I3, rv, ev, q3⟩ := J.after hq
      cases ev
      exact ⟨rv, .ref (n + 1), G', I3, rfl, q3⟩
    | next => exact (show False from hq).elim
    | brk => exact (show False from hq).elim
    | cont => exact (show False from hq).elim
def tNew (C : Addr) (sp : Sp) (dvs : List V) (W : WX) (t : TA) : TE := fun σ H Q => t σ H fun vs H1 => ∀ x dx, H1 x = none → H1 dx = none → dx ≠ x → sp (.ref x :: (vs ++ dvs)) (upd (upd H1 dx (.own x)) x (.ins C dx [])) (fun v G => v = .non ∧ Q (.ref x) G) (WE W σ)
theorem pe_newG {x : Str} {np pos : Pos} {e : Expr} {es : List Expr} {t : TA} (M : Mk X.K C f) (G : FnG X.prog X.w X.K X.mg X.base k f fd ps sp) (hr : Room (k + 1) X.A) (hgd : X.A.guards = some []) (hg : Gl X x) (hm : X.mg x = some (.ref C)) (hb : Binds X.K fd ps ds) (hd : Vals dvs ds) (tk : Takes X W)
    (ha : PA X (e :: es) t) (hdb : (x == ("__debug__" : Str)) = false) (he : starEach (e :: es) X.env = (false, eval e X.env) :: starEach es X.env) (hpl : (backTo pos (starEach es X.env)).any (·.1) = false) : PE X (.Call (.Name x np) (e :: es) [] pos) (tNew C sp dvs W t) :=
  ⟨fun pins s σ H Q I h => wpAny_Call_Name_kw (ld_glob I hg hm (PySem.W.callWith_K (h₀ := X.base) I.ok.mod.kin M.kp
    (thn (ha.run pos pins s σ H _ I h) fun us s1 ⟨vs, H1, I1, r, q⟩ => ⟨I1.kIn, run_new M G hr hgd hb hd tk I1 r q⟩) he hpl) hdb)⟩
theorem pe_newG0 {x : Str} {np pos : Pos} (M : Mk X.K C f) (G : FnG X.prog X.w X.K X.mg X.base k f fd ps sp) (hr : Room (k + 1) X.A) (hgd : X.A.guards = some []) (hg : Gl X x) (hm : X.mg x = some (.ref C)) (hb : Binds X.K fd ps ds) (hd : Vals dvs ds) (tk : Takes X W)
    (hdb : (x == ("__debug__" : Str)) = false) : PE X (.Call (.Name x np) [] [] pos) (tNew C sp dvs W tNil) :=
  ⟨fun pins s σ H Q I h => wpAny_Call_Name_kw (ld_glob I hg hm (PySem.W.callWith_K0 I.kIn M.kp (run_new (us := []) M G hr hgd hb hd tk I .nil h)) hdb)⟩
/-! ### o.m(..) -/
def tMet (C : Addr) (m : Str) (sp : Sp) (dvs : List V) (W : WX) (ta : TE) (t : TA) : TE := fun σ H Q => ta σ H fun x H1 => ∃ a dx fs, x = .ref a ∧ H1 a = some (.ins C dx fs) ∧ fs.lookup m = none ∧ t σ H1 fun vs H2 => sp (.ref a :: vs ++ dvs) H2 Q (WE W σ)
theorem pe_metG {pl : Sem Bool} {o e : Expr} {es : List Expr} {m : Str} {apos pos : Pos} {ta : TE} {t : TA} (he : PE X o ta) (c : Cls X.K C) (hm : Meth X.K C m f) (G : FnG X.prog X.w X.K X.mg X.base k f fd ps sp) (hr : Room k X.A) (hgd : X.A.guards = some []) (hb : Binds X.K fd ps ds) (hd : Vals dvs ds) (tk : Takes X W) (ha : PA X (e :: es) t)
    (hst : starEach (e :: es) X.env = (false, eval e X.env) :: starEach es X.env) (hpl : (backTo pos (starEach es X.env)).any (·.1) = false)
    (ht : eval (.Call (.Attribute o m apos) (e :: es) [] pos) X.env = (do
      let ov ← eval o X.env
      standAt apos.atName
      let (f, first) ← holding [ov] (getMethod ov m pl)
      callWith pos f first (backTo pos (starEach (e :: es) X.env)) (backToKw pos (keywordEach [] X.env)))) :
    PE X (.Call (.Attribute o m apos) (e :: es) [] pos) (tMet C m sp dvs W ta t) := by
  refine ⟨fun pins s σ H Q I h => PySem.W.methodCall_KW (pl := pl) (thn (he.run pins s σ H _ I h) fun u s1 ⟨x, H1, I1, rx, a, dx, fs, ex, ea, l, q⟩ => ?_) ht⟩
  cases ex
  cases (show u = Value.ref a from rx)
  refine getmeth_ok I1 ea c hm l (PySem.W.callWith_K (first := [.ref a]) (h₀ := X.base) I.ok.mod.kin hm.kp (thn (ha.run pos pins s1 σ H1 _ I1 q) fun us s2 ⟨vs, H2, I2, r, q2⟩ => ⟨I2.kIn, ?_⟩) hst hpl)
  exact runG (us := .ref a :: us) (vs := .ref a :: vs) G hr hgd hb hd tk I2 (.cons rfl r) q2
theorem pe_metG0 {pl : Sem Bool} {o : Expr} {m : Str} {apos pos : Pos} {ta : TE} (he : PE X o ta) (c : Cls X.K C) (hm : Meth X.K C m f) (G : FnG X.prog X.w X.K X.mg X.base k f fd ps sp) (hr : Room k X.A) (hgd : X.A.guards = some []) (hb : Binds X.K fd ps ds) (hd : Vals dvs ds) (tk : Takes X W)
    (ht : eval (.Call (.Attribute o m apos) [] [] pos) X.env = (do
      let ov ← eval o X.env
      standAt apos.atName
      let (f, first) ← holding [ov] (getMethod ov m pl)
      callWith pos f first (backTo pos (starEach [] X.env)) (backToKw pos (keywordEach [] X.env)))) :
    PE X (.Call (.Attribute o m apos) [] [] pos) (tMet C m sp dvs W ta tNil) := by
  refine ⟨fun pins s σ H Q I h => PySem.W.methodCall_KW (pl := pl) (thn (he.run pins s σ H _ I h) fun u s1 ⟨x, H1, I1, rx, a, dx, fs, ex, ea, l, q⟩ => ?_) ht⟩
  cases ex
  cases (show u = Value.ref a from rx)
  exact getmeth_ok I1 ea c hm l (PySem.W.callWith_K0 (first := [.ref a]) I1.kIn hm.kp (runG (us := [.ref a]) (vs := [.ref a]) G hr hgd hb hd tk I1 (.cons rfl .nil) q))
/-! ### o.f, a property -/
def E00 : XK := fun _ _ _ => False
theorem getpropG {pins : List (Addr × Obj)} {σ : L2.St} {H : Hp} {s : Shared} {Q : VK} {b : Bool} {E2 : Value → Shared → Prop} {a dx : Addr} {fs : List (Str × V)} {n : Str} (I : Inv X pins σ H s) (ea : H a = some (.ins C dx fs)) (c : Cls X.K C) (hp : PropOf X.K C n p g)
    (G : FnG X.prog X.w X.K X.mg X.base k g fd ps sp) (hr : Room (k + 1) X.A) (hgd : X.A.guards = some []) (hb : Binds X.K fd ps []) (h : sp [.ref a] H Q E00) : wpAny (model X.prog X.w) X.A (getAttr (.ref a) n b) (EP X pins σ Q) E2 s := by
  obtain ⟨mA, O, _, _, _, _⟩ := ins_get I.hok ea
  obtain ⟨od, J, _⟩ := O.look
  obtain ⟨rest, hrec⟩ := hp.rec_
  have I1 := I.tok (s.toks + 1)
  have hl : [Value.ref a].length = ps.length := (G.len _ _ _ _ h)
  have hc : (PySem.W.clsIn X.K C).isSome = true := by
    obtain ⟨cd, hc, _⟩ := PySem.W.any_some c.hd
    rw [hc]
    rfl
  have bd := hb { s with toks := s.toks + 1 } [.ref a] I1.kIn (by rw [List.append_nil]; exact hl)
  rw [List.append_nil] at bd
  refine PySem.W.get_bind I.kIn J (PySem.W.plainGet_of (c.get n)).1 (PySem.W.findObj_data hc hp.at_ hp.get hp.tak) (PySem.W.plainGet_of (c.get n)).2 (wpAny_call (PySem.W.prop_get (s := { s with toks := s.toks + 1 }) I.kIn hrec ?_))
  refine codeAny_mono (G.run X.A.in1 X.stack { s with toks := s.toks + 1 } H ⟨[.ref a], []⟩ [.ref a] [.ref a] Q E00 hr.in1 hgd I1.env0.in1 bd (.cons rfl .nil) h) fun r s' hq => ?_
  rcases r with er | fl
  · obtain ⟨_, _, _, _, _, _, _, _, _, _, _, _, _, no⟩ := hq
  · cases fl with
    | ret u =>
      obtain ⟨v, H', I3, rv, q3⟩ := I1.after hq
      show wpAny _ _ (handedOut u) _ _ _
      rw [PySem.W.handedOut_of (handed_of rv)]
      exact wpAny_pure ⟨v, H', I3, rv, q3⟩
    | next => exact (show False from hq).elim
    | brk => exact (show False from hq).elim
    | cont => exact (show False from hq).elim
def tPrG (C : Addr) (sp : Sp) (ta : TE) : TE := fun σ H Q => ta σ H fun x H1 => ∃ a dx fs, x = .ref a ∧ H1 a = some (.ins C dx fs) ∧ sp [.ref a] H1 Q E00
theorem pe_propG {e : Expr} {n : Str} {pos : Pos} {ta : TE} (he : PE X e ta) (c : Cls X.K C) (hp : PropOf X.K C n p g) (G : FnG X.prog X.w X.K X.mg X.base k g fd ps sp) (hr : Room (k + 1) X.A) (hgd : X.A.guards = some []) (hb : Binds X.K fd ps [])
    (hab : attributeBase e n X.env (eval e X.env) = eval e X.env) : PE X (.Attribute e n pos) (tPrG C sp ta) := by
  refine ⟨fun pins s σ H Q I h => attr_of hab (thn (he.run pins s σ H _ I h) fun u s1 ⟨x, H1, I1, rx, a, dx, fs, ex, ea, q⟩ => ?_)⟩
  cases ex
  cases (show u = Value.ref a from rx)
  exact getpropG I1 ea c hp G hr hgd hb q
end
end DV
namespace DV
open PySem PySem.Spec PyProof.Rows L2
section
variable {K : PySem.W.Frag} {mg : Str → Option Value} {W : WX} {c0 c c1 : Cf}
theorem exvs_flat : ∀ {dfl : List D}, dfl.all flat = true → ExVs K mg c0 c (dfl.map fl) (dfl.map vof)
  | [], _ => .nil
  | d :: ds, h => by
    rw [List.all_cons, Bool.and_eq_true] at h
    exact .cons (dat_flat h.1) (exvs_flat h.2) (fun _ z => by cases z)
theorem ExVs.app {dfl : List D} (h : dfl.all flat = true) : ∀ {xs : List Ex} {vs : List V}, ExVs K mg c0 c xs vs → ExVs K mg c0 c (xs ++ dfl.map fl) (vs ++ dfl.map vof)
  | _, _, .nil => exvs_flat h
  | _, _, .cons (xs := xs) (vs := vs) h1 h2 h3 => .cons h1 (h2.app h) fun a hk hv j y hy hyk => by
    change (xs ++ dfl.map fl)[j]? = some y at hy
    change (vs ++ dfl.map vof)[j]? ≠ _
    by_cases hj : j < xs.length
    · rw [List.getElem?_append_left hj] at hy
      rw [List.getElem?_append_left (by rw [← h2.length]; exact hj)]
      exact h3 a hk hv j y hy hyk
    · rw [List.getElem?_append_right (by omega), List.getElem?_map] at hy
      cases e : dfl[j - xs.length]? with
      | none => rw [e] at hy; cases hy
      | some d =>
        rw [e] at hy
        cases hy
        cases hyk
/-- a row, then one from where the first ended -/
theorem ExVs.join {zs : List Ex} {ws : List V} (a : Aft K mg c0 c) : ∀ {xs : List Ex} {vs : List V}, ExVs K mg c0 c1 xs vs → (∀ (j : Nat) (x : Ex) (v : V), xs[j]? = some x → vs[j]? = some v → x.k = .tmp → ∃ p o, v = .ref p ∧ c.H p = some o) → ExVs K mg c c1 zs ws → ExVs K mg c0 c1 (xs ++ zs) (vs ++ ws)
  | _, _, .nil, _, h => h.from a
  | _, _, .cons (x := x) (v := v) (xs := xs) (vs := vs) h1 h2 h3, ht, h => .cons h1 (ExVs.join a h2 (fun j y w e1 e2 => ht (j + 1) y w e1 e2) h) fun p hk hv j y hy hyk => by
    change (xs ++ zs)[j]? = some y at hy
    change (vs ++ ws)[j]? ≠ _
    by_cases hj : j < xs.length
    · rw [List.getElem?_append_left hj] at hy
      rw [List.getElem?_append_left (by rw [← h2.length]; exact hj)]
      exact h3 p hk hv j y hy hyk
    · rw [List.getElem?_append_right (by omega)] at hy
      rw [List.getElem?_append_right (by rw [← h2.length]; omega), ← h2.length]
      intro z
      obtain ⟨q, o, e, ho⟩ := ht 0 x v rfl rfl hk
      rw [hv] at e
      cases e
      obtain ⟨w, hw, hx⟩ := h.get hy
      rw [z] at hw
      cases hw
      obtain ⟨ky, dy⟩ := y
      cases hyk
      obtain ⟨q2, e2, _, _, _, h0⟩ := hx
      cases e2
      rw [ho] at h0
      cases h0
/-- what a new one stands at -/
theorem ExVs.tmps {xs : List Ex} {vs : List V} (h : ExVs K mg c0 c xs vs) (j : Nat) (x : Ex) (v : V) (h1 : xs[j]? = some x) (h2 : vs[j]? = some v) (hk : x.k = .tmp) : ∃ p o, v = .ref p ∧ c.H p = some o := by
  obtain ⟨w, hw, hx⟩ := h.get h1
  rw [h2] at hw
  cases hw
  obtain ⟨k, d⟩ := x
  cases hk
  obtain ⟨p, rfl, _, ho, _, _⟩ := hx
  obtain ⟨o, e⟩ := ho.some
  exact ⟨p, o, rfl, e⟩
theorem ExVs.consF {x : D} {v : V} {xs : List Ex} {vs : List V} (h : Dat K mg c.F c.μ v x) (t : ExVs K mg c0 c xs vs) : ExVs K mg c0 c (⟨.frz, x⟩ :: xs) (v :: vs) := .cons h t (fun _ z => by cases z)
end
/-- a def with defaults -/
structure CalleeD (P : Program) (w : World) (K : PySem.W.Frag) (mg : Str → Option Value) (base : Heap) (x : Str) (k : Nat) (m : Mir) (dfl : List D) : Prop where
  ex : ∃ (f : Addr) (fd : FuncData) (ps : List Str) (ds : List Value), mg x = some (.ref f) ∧ PySem.W.keepIn K (.ref f) = true ∧ FnG P w K mg base k f fd ps (spM K mg m) ∧ Binds K fd ps ds ∧ Vals (dfl.map vof) ds
structure MethF (P : Program) (w : World) (K : PySem.W.Frag) (mg : Str → Option Value) (base : Heap) (c n : Str) (k : Nat) (m : Mir) (dfl : List D) : Prop where
  ex : ∃ (C f : Addr) (fd : FuncData) (ps : List Str) (ds : List Value), mg c = some (.ref C) ∧ Cls K C ∧ Meth K C n f ∧ FnG P w K mg base k f fd ps (spM K mg m) ∧ Binds K fd ps ds ∧ Vals (dfl.map vof) ds
structure NewF (P : Program) (w : World) (K : PySem.W.Frag) (mg : Str → Option Value) (base : Heap) (c : Str) (k : Nat) (m : Mir) (dfl : List D) : Prop where
  ex : ∃ (C f : Addr) (fd : FuncData) (ps : List Str) (ds : List Value), mg c = some (.ref C) ∧ Mk K C f ∧ FnG P w K mg base k f fd ps (spM K mg m) ∧ Binds K fd ps ds ∧ Vals (dfl.map vof) ds
structure PropF (P : Program) (w : World) (K : PySem.W.Frag) (mg : Str → Option Value) (base : Heap) (c n : Str) (k : Nat) (m : Mir) : Prop where
  ex : ∃ (C p g : Addr) (fd : FuncData) (ps : List Str), mg c = some (.ref C) ∧ Cls K C ∧ PropOf K C n p g ∧ FnG P w K mg base k g fd ps (spM K mg m) ∧ Binds K fd ps []
theorem CalleeD.of {P : Program} {w : World} {K : PySem.W.Frag} {mg : Str → Option Value} {base : Heap} {x : Str} {k : Nat} {m : Mir} (h : Callee P w K mg base x k m) : CalleeD P w K mg base x k m [] := by
  obtain ⟨f, fd, ps, h1, h2, h3, h4⟩ := h.ex
  exact ⟨f, fd, ps, [], h1, h2, h3, h4, .nil⟩
/-! ### objects' classes -/
def isC (c : Str) (d : D) : Mm Unit := fun τ O => match d with
  | .ref i => match O[i]? with
    | some (c', _) => if c' == c then .ok () τ O else .bad
    | none => .bad
  | _ => .bad
def isCm (c n : Str) (d : D) : Mm Unit := fun τ O => match d with
  | .ref i => match O[i]? with
    | some (c', fs) => if c' == c && (fs.lookup n).isNone then .ok () τ O else .bad
    | none => .bad
  | _ => .bad
def noEx {α : Type} (f : Mm α) : Mm α := fun τ O => match f τ O with
  | .ex _ _ _ _ => .bad
  | r => r
def metM (c n : Str) (f : Mm Ex) (fa : Mm (List Ex)) (m : Mir) (dfl : List D) : Mm Ex := f >>= fun x => rd x >>= fun o => isCm c n o >>= fun _ => fa >>= fun xs => callN m (⟨.frz, o⟩ :: (xs ++ dfl.map fl))
def newK (c : Str) (m : Mir) (xs : List Ex) : Mm Ex := fun τ O => match callN m (fl (.ref O.length) :: xs) τ (O ++ [(c, [])]) with
  | .ok ⟨.frz, .non⟩ τ' O' => .ok (fl (.ref O.length)) τ' O'
  | .ex cl fs τ' O' => .ex cl fs τ' O'
  | _ => .bad
def newM (c : Str) (fa : Mm (List Ex)) (m : Mir) (dfl : List D) : Mm Ex := fa >>= fun xs => newK c m (xs ++ dfl.map fl)
def prM (c : Str) (f : Mm Ex) (m : Mir) : Mm Ex := f >>= fun x => rd x >>= fun o => isC c o >>= fun _ => noEx (callN m [⟨.frz, o⟩])
section
variable {X : Cx} {W : WX}
theorem de_callD {x : Str} {p pos : Pos} {e : Expr} {es : List Expr} {k j : Nat} {m : Mir} {dfl : List D} {f : Mm (List Ex)} (hS : Std X W k) (hc : CalleeD X.prog X.w X.K X.mg X.base x j m dfl) (ha : DAs X W (e :: es) f) (hj : j ≤ k := by decide) (hfl : dfl.all flat = true := by decide)
    (hg : Gl X x := by rfl) (hdb : (x == ("__debug__" : Str)) = false := by decide) (he : starEach (e :: es) X.env = (false, eval e X.env) :: starEach es X.env := by rfl) (hpl : (backTo pos (starEach es X.env)).any (·.1) = false := by rfl) :
    DE X W (.Call (.Name x p) (e :: es) [] pos) (f >>= fun xs => callN m (xs ++ dfl.map fl)) := by
  obtain ⟨fa, fd, ps, ds, hm, hk, G, hb, hd⟩ := hc.ex
  refine PE.imp (pe_cl (G.mono hj) hS.room hS.grd hg hm hk hb hd hS.tk ha hdb he hpl) fun σ H Q q => ?_
  refine post_fst q fun c xs c2 vs r hσ hH a2 hσ2 hv hp => ?_
  rw [← hσ]
  exact callN_ok a2 hσ2 (hv.app hfl) hp
theorem isCm_ok {K : PySem.W.Frag} {mg : Str → Option Value} {c0 c2 : Cf} {cl n : Str} {o : D} {v : V} {α β : Type} {VR : Cf → Cf → α → β → Prop} {g : Mm α} {Q : β → Hp → Prop} (r : Rl K mg c2) (rx : RdV K mg c2 v o) (hmg : (mg cl).isSome = true) (h : Post K mg W VR c0 ((isCm cl n o >>= fun _ => g) c2.τ c2.O) Q) :
    ∃ i a C dx fvs fs, o = .ref i ∧ v = .ref a ∧ c2.O[i]? = some (cl, fs) ∧ mg cl = some (.ref C) ∧ c2.H a = some (.ins C dx fvs) ∧ fvs.lookup n = none ∧ Dat K mg c2.F c2.μ v o ∧ Post K mg W VR c0 (g c2.τ c2.O) Q := by
  rw [bind_app] at h
  unfold isCm at h
  cases o with
  | ref i =>
    cases hO : c2.O[i]? with
    | none => simp only [hO] at h; exact h.elim
    | some pr =>
      obtain ⟨c', fs⟩ := pr
      simp only [hO] at h
      cases hm : (c' == cl && (fs.lookup n).isNone) with
      | false => rw [hm] at h; exact h.elim
      | true =>
        rw [hm, if_pos rfl] at h
        rw [Bool.and_eq_true] at hm
        have ec := eq_of_beq hm.1
        subst ec
        obtain ⟨a, C, dx, fvs, e, h1, h2, h3, h4⟩ := obj_at r rx hO hmg
        exact ⟨i, a, C, dx, fvs, fs, rfl, e, hO, h2, h3, h4.lookup_none (Option.isNone_iff_eq_none.mp hm.2), rx.frz (fun _ => nofun) (fun _ => nofun), h⟩
  | _ => exact h.elim
theorem isC_ok {K : PySem.W.Frag} {mg : Str → Option Value} {c0 c2 : Cf} {cl : Str} {o : D} {v : V} {α β : Type} {VR : Cf → Cf → α → β → Prop} {g : Mm α} {Q : β → Hp → Prop} (r : Rl K mg c2) (rx : RdV K mg c2 v o) (hmg : (mg cl).isSome = true) (h : Post K mg W VR c0 ((isC cl o >>= fun _ => g) c2.τ c2.O) Q) :
    ∃ i a C dx fvs fs, o = .ref i ∧ v = .ref a ∧ c2.O[i]? = some (cl, fs) ∧ mg cl = some (.ref C) ∧ c2.H a = some (.ins C dx fvs) ∧ Dat K mg c2.F c2.μ v o ∧ Post K mg W VR c0 (g c2.τ c2.O) Q := by
  rw [bind_app] at h
  unfold isC at h
  cases o with
  | ref i =>
    cases hO : c2.O[i]? with
    | none => simp only [hO] at h; exact h.elim
    | some pr =>
      obtain ⟨c', fs⟩ := pr
      simp only [hO] at h
      cases hm : (c' == cl) with
      | false => rw [hm] at h; exact h.elim
      | true =>
        rw [hm, if_pos rfl] at h
        have ec := eq_of_beq hm
        subst ec
        obtain ⟨a, C, dx, fvs, e, h1, h2, h3, h4⟩ := obj_at r rx hO hmg
        exact ⟨i, a, C, dx, fvs, fs, rfl, e, hO, h2, h3, rx.frz (fun _ => nofun) (fun _ => nofun), h⟩
  | _ => exact h.elim
theorem de_met {cn n : Str} {o e : Expr} {es : List Expr} {apos pos : Pos} {k j : Nat} {m : Mir} {dfl : List D} {f : Mm Ex} {fa : Mm (List Ex)} {pl : Sem Bool} (hS : Std X W k) (hc : MethF X.prog X.w X.K X.mg X.base cn n j m dfl) (ho : DE X W o f) (ha : DAs X W (e :: es) fa) (hj : j ≤ k := by decide) (hfl : dfl.all flat = true := by decide)
    (hst : starEach (e :: es) X.env = (false, eval e X.env) :: starEach es X.env := by rfl) (hpl : (backTo pos (starEach es X.env)).any (·.1) = false := by rfl)
    (ht : eval (.Call (.Attribute o n apos) (e :: es) [] pos) X.env = (do
      let ov ← eval o X.env
      standAt apos.atName
      let (f, first) ← holding [ov] (getMethod ov n pl)
      callWith pos f first (backTo pos (starEach (e :: es) X.env)) (backToKw pos (keywordEach [] X.env))) := by rfl) :
    DE X W (.Call (.Attribute o n apos) (e :: es) [] pos) (metM cn n f fa m dfl) := by
  obtain ⟨C, fA, fd, ps, ds, hm, cls, me, G, hb, hd⟩ := hc.ex
  refine PE.imp (pe_metG (pl := pl) ho cls me (G.mono hj) hS.room hS.grd hb hd hS.tk ha hst hpl ht) fun σ H Q q => ?_
  refine post_fst q fun c x c2 u rl hσ hH a2 hσ2 hx hp => ?_
  obtain ⟨d, rx, hp2⟩ := rd_okS a2.rl hx hp
  obtain ⟨i, a, C', dx, fvs, fs, rfl, rfl, hO, e1, e2, e3, e4, hp3⟩ := isCm_ok a2.rl rx (by rw [hm]; rfl) hp2
  rw [hm] at e1
  cases e1
  refine ⟨a, dx, fvs, rfl, e2, e3, ?_⟩
  rw [← hσ]
  refine post_seq a2 hσ2 hp3 fun xs c3 vs a3 hσ3 hv hp4 => ?_
  exact callN_ok (a2.trans a3) hσ3 (ExVs.consF (Dat.mono (a3.subF a2.rl) a3.mu _ _ e4) ((hv.from a2).app hfl)) hp4
theorem de_met0 {cn n : Str} {o : Expr} {apos pos : Pos} {k j : Nat} {m : Mir} {dfl : List D} {f : Mm Ex} {pl : Sem Bool} (hS : Std X W k) (hc : MethF X.prog X.w X.K X.mg X.base cn n j m dfl) (ho : DE X W o f) (hj : j ≤ k := by decide) (hfl : dfl.all flat = true := by decide)
    (ht : eval (.Call (.Attribute o n apos) [] [] pos) X.env = (do
      let ov ← eval o X.env
      standAt apos.atName
      let (f, first) ← holding [ov] (getMethod ov n pl)
      callWith pos f first (backTo pos (starEach [] X.env)) (backToKw pos (keywordEach [] X.env))) := by rfl) :
    DE X W (.Call (.Attribute o n apos) [] [] pos) (metM cn n f (pure []) m dfl) := by
  obtain ⟨C, fA, fd, ps, ds, hm, cls, me, G, hb, hd⟩ := hc.ex
  refine PE.imp (pe_metG0 (pl := pl) ho cls me (G.mono hj) hS.room hS.grd hb hd hS.tk ht) fun σ H Q q => ?_
  refine post_fst q fun c x c2 u rl hσ hH a2 hσ2 hx hp => ?_
  obtain ⟨d, rx, hp2⟩ := rd_okS a2.rl hx hp
  obtain ⟨i, a, C', dx, fvs, fs, rfl, rfl, hO, e1, e2, e3, e4, hp3⟩ := isCm_ok a2.rl rx (by rw [hm]; rfl) hp2
  rw [hm] at e1
  cases e1
  refine ⟨a, dx, fvs, rfl, e2, e3, ?_⟩
  rw [← hσ]
  exact callN_ok a2 hσ2 (ExVs.consF e4 (ExVs.app hfl .nil)) hp3
theorem de_prop {cn n : Str} {o : Expr} {pos : Pos} {k j : Nat} {m : Mir} {f : Mm Ex} (hS : Std X W k) (hc : PropF X.prog X.w X.K X.mg X.base cn n j m) (ho : DE X W o f) (hj : j + 1 ≤ k := by decide) (hab : attributeBase o n X.env (eval o X.env) = eval o X.env := by rfl) :
    DE X W (.Attribute o n pos) (prM cn f m) := by
  obtain ⟨C, p, g, fd, ps, hm, cls, po, G, hb⟩ := hc.ex
  refine PE.imp (pe_propG ho cls po G (hS.room.mono hj) hS.grd hb hab) fun σ H Q q => ?_
  refine post_fst q fun c x c2 u rl hσ hH a2 hσ2 hx hp => ?_
  obtain ⟨d, rx, hp2⟩ := rd_okS a2.rl hx hp
  obtain ⟨i, a, C', dx, fvs, fs, rfl, rfl, hO, e1, e2, e4, hp3⟩ := isC_ok a2.rl rx (by rw [hm]; rfl) hp2
  rw [hm] at e1
  cases e1
  refine ⟨a, dx, fvs, rfl, e2, ?_⟩
  have hp4 : Post X.K X.mg W0 (ExV X.K X.mg) c (callN m [⟨.frz, .ref i⟩] c2.τ c2.O) Q := by
    have e : Post X.K X.mg W (ExV X.K X.mg) c (noEx (callN m [⟨.frz, .ref i⟩]) c2.τ c2.O) Q := hp3
    unfold noEx at e
    cases r : callN m [⟨.frz, .ref i⟩] c2.τ c2.O with
    | ok y τ O => rw [r] at e; exact e
    | ex _ _ _ _ => rw [r] at e; exact e.elim
    | bad => rw [r] at e; exact e.elim
  exact callN_ok (W := W0) a2 hσ2 (ExVs.consF e4 .nil) hp4
/-- a class is called: its object is the next -/
theorem newK_ok {c0 c : Cf} {cn : Str} {C : Addr} {m : Mir} {xs : List Ex} {vs : List V} {Q : VK} (hm : X.mg cn = some (.ref C)) (a : Aft X.K X.mg c0 c) (hσ : c.σ = c0.σ) (hv : ExVs X.K X.mg c0 c xs vs) (hp : Post X.K X.mg W (ExV X.K X.mg) c0 (newK cn m xs c.τ c.O) Q)
    {x dx : Addr} (hx : c.H x = none) (hd : c.H dx = none) (hne : dx ≠ x) : spM X.K X.mg m (.ref x :: vs) (upd (upd c.H dx (.own x)) x (.ins C dx [])) (fun v G => v = .non ∧ Q (.ref x) G) (WE W c0.σ) := by
  have a1 := aft_made a hx hd hne hm
  have a1' := aft_made (Aft.refl a.rl) hx hd hne hm
  refine callN_okP (c := { c with O := c.O ++ [(cn, [])], μ := c.μ ++ [x], H := upd (upd c.H dx (.own x)) x (.ins C dx []) }) (xs := fl (.ref c.O.length) :: xs) a1 hσ (ExVs.consF (.ref ?_) (hv.aft a.rl a1' rfl)) ?_
  · show (c.μ ++ [x])[c.O.length]? = some x
    rw [← a.rl.ol, List.getElem?_append_right (Nat.le_refl _), Nat.sub_self]
    rfl
  · unfold newK at hp
    show PostP X.K X.mg W (ExV X.K X.mg) (c.μ ++ [x]) c0 (callN m (fl (.ref c.O.length) :: xs) c.τ (c.O ++ [(cn, [])])) _
    cases r : callN m (fl (.ref c.O.length) :: xs) c.τ (c.O ++ [(cn, [])]) with
    | ok y τ O =>
      rw [r] at hp
      obtain ⟨k, d⟩ := y
      cases k with
      | frz =>
        cases d with
        | non =>
          intro v G F' μ' b pf hy
          cases hy
          refine ⟨rfl, hp (.ref x) G F' μ' b (.ref (pf _ _ ?_))⟩
          rw [← a.rl.ol, List.getElem?_append_right (Nat.le_refl _), Nat.sub_self]
          rfl
        | _ => exact hp.elim
      | tmp => cases d <;> exact hp.elim
      | slot i => cases d <;> exact hp.elim
    | ex cl fs τ O => rw [r] at hp; exact hp
    | bad => rw [r] at hp; exact hp.elim
theorem de_new {cn : Str} {np pos : Pos} {e : Expr} {es : List Expr} {k j : Nat} {m : Mir} {dfl : List D} {fa : Mm (List Ex)} (hS : Std X W k) (hc : NewF X.prog X.w X.K X.mg X.base cn j m dfl) (ha : DAs X W (e :: es) fa) (hj : j + 1 ≤ k := by decide) (hfl : dfl.all flat = true := by decide)
    (hg : Gl X cn := by rfl) (hdb : (cn == ("__debug__" : Str)) = false := by decide) (he : starEach (e :: es) X.env = (false, eval e X.env) :: starEach es X.env := by rfl) (hpl : (backTo pos (starEach es X.env)).any (·.1) = false := by rfl) :
    DE X W (.Call (.Name cn np) (e :: es) [] pos) (newM cn fa m dfl) := by
  obtain ⟨C, f, fd, ps, ds, hm, M, G, hb, hd⟩ := hc.ex
  refine PE.imp (pe_newG M G (hS.room.mono hj) hS.grd hg hm hb hd hS.tk ha hdb he hpl) fun σ H Q q => ?_
  refine post_fst q fun c xs c2 vs r hσ hH a2 hσ2 hv hp x dx hx hd' hne => ?_
  rw [← hσ]
  exact newK_ok hm a2 hσ2 (hv.app hfl) hp hx hd' hne
theorem de_new0 {cn : Str} {np pos : Pos} {k j : Nat} {m : Mir} {dfl : List D} (hS : Std X W k) (hc : NewF X.prog X.w X.K X.mg X.base cn j m dfl) (hj : j + 1 ≤ k := by decide) (hfl : dfl.all flat = true := by decide)
    (hg : Gl X cn := by rfl) (hdb : (cn == ("__debug__" : Str)) = false := by decide) : DE X W (.Call (.Name cn np) [] [] pos) (newM cn (pure []) m dfl) := by
  obtain ⟨C, f, fd, ps, ds, hm, M, G, hb, hd⟩ := hc.ex
  refine PE.imp (pe_newG0 M G (hS.room.mono hj) hS.grd hg hm hb hd hS.tk hdb) fun σ H Q ⟨τ, O, F, μ, r, hp⟩ x dx hx hd' hne => ?_
  exact newK_ok (c := ⟨τ, O, F, μ, σ, H⟩) hm (Aft.refl r) rfl (ExVs.app hfl .nil) hp hx hd' hne
end
end DV
namespace DV
open PySem PySem.Spec PyProof.Rows L2
/-- a def's promise at positional arguments, whatever it makes of them -/
def FnC (P : Program) (w : World) (K : PySem.W.Frag) (mg : Str → Option Value) (base : Heap) (k : Nat) (f : Addr) (sp : Sp) : Prop :=
  ∀ (A : Around) (outer : List Env) (s : Shared) (H : Hp) (us : List Value) (vs : List V) (Q : VK) (E : XK), Room k A → A.guards = some [] → Env0 P w K mg base A outer s H → Vals vs us → sp vs H Q E →
    codeAny (model P w) A (.call (.ref f) ⟨us, []⟩) (CR (L2.CX P w) outer P w H s Q E) s
section
variable {P : Program} {w : World} {K : PySem.W.Frag} {mg : Str → Option Value} {base : Heap} {k j : Nat} {f : Addr} {fd : FuncData} {ps : List Str} {sp : Sp} {ds : List Value} {dvs : List V}
theorem FnC.mono (F : FnC P w K mg base j f sp) (h : j ≤ k) : FnC P w K mg base k f sp := fun A outer s H us vs Q E hr => F A outer s H us vs Q E (hr.mono h)
theorem FnG.toC (G : FnG P w K mg base k f fd ps sp) (hb : Binds K fd ps ds) (hd : Vals dvs ds) : FnC P w K mg base k f (fun vs => sp (vs ++ dvs)) := fun A outer s H us vs Q E hr hg e0 r h => by
  have r2 := r.append hd
  have hl : (us ++ ds).length = ps.length := r2.length.symm.trans (G.len _ _ _ _ h)
  exact G.run A outer s H ⟨us, []⟩ (us ++ ds) (vs ++ dvs) Q E hr hg e0 (hb s us (e0.mod.kin.keeps fun b o z => (e0.bs b o z).1) hl) r2 h
/-- what is left over is one tuple -/
def spStar (K : PySem.W.Frag) (mg : Str → Option Value) (m : Mir) : Sp := fun vs H Q E => ∃ a rest, vs = a :: rest ∧ rest.length ≤ sizeLine ∧ ∀ p, H p = none → spM K mg m [a, .ref p] (upd H p (.tup rest)) Q E
/-- def f(self, *rest) by its body -/
theorem fn_starM {x qual : Str} {st : Stmt} {p1 pv : Str} {N : List Str} {m : Mir} {g : Nat → Mm Fl} {dv0 : List V} {kws : List (Str × V)} (Fu : FunD K x qual (defArgs st) (defBody st) (defScope st) dv0 kws f fd) (S : FnScope N [p1, pv] (defScope st)) (har : m.ar = 2) (hio : m.io = none)
    (hb : ∀ us rest : List Value, us.length = 1 → bindArgs fd ⟨us ++ rest, []⟩ = (newTuple rest >>= fun t => pure ([p1].zip us ++ [(pv, t)])))
    (body : ∀ (cdv : Value) (A : Around) (outer : List Env) (s : Shared) (H : Hp) (E : XK), Std' (cxOf (L2.CX P w) P w K mg base N qual (defScope st) f cdv A outer s H E) (fun cls d _ H => E cls d H) k →
      ∀ n, DSs (cxOf (L2.CX P w) P w K mg base N qual (defScope st) f cdv A outer s H E) (fun cls d _ H => E cls d H) (pinOf m.io) (defBody st) (g n))
    (hg : ∀ ds O, ds.length = m.ar → m.fn ds O ≠ .bad → ∃ n, bodyO m.io N.length (g n) ds O = m.fn ds O) : FnC P w K mg base (k + 1) f (spStar K mg m) := by
  intro A outer s H us vs Q E hr hgd e0 r hsp
  obtain ⟨a, rest, rfl, hz, hq⟩ := hsp
  obtain ⟨oc, od, dV, kV, doc, pm, an, cdv, ct, osl, rfl, lk, hcd, _, _⟩ := Fu.ex
  cases r with
  | @cons _ u _ us ra rr =>
  have hn : H s.heap.objs.size = none := e0.hok.fresh (Nat.le_refl _)
  have hz2 : us.length ≤ sizeLine := by rw [← rr.length]; exact hz
  refine StX.run_bnd lk hcd S hr e0 (G := fun xs H2 => ∃ p, H p = none ∧ xs = [a, V.ref p] ∧ H2 = upd H p (.tup rest)) (fun A' Ex Q' h => ?_) fun s2 H2 xs ⟨p, hp, ex, eH⟩ hr' => ?_
  · have e := hb [u] us rfl
    rw [show u :: us = [u] ++ us from rfl, e]
    refine wpAny_bind (wpAny_newTuple (wpAny_pure ?_) hz2)
    have new : ObjOk P w (upd H s.heap.objs.size (.tup rest)) (s.heap.push ({ cls := .type "tuple", data := .seq us.toArray } : Obj)) s.heap.objs.size (.tup rest) := ⟨hz, us, rr, ⟨_, Heap.get?_push_size _ rfl, rfl, _, rfl⟩⟩
    have un := StX.un_laid (fs := frs outer) (s := s) (o := ({ cls := .type "tuple", data := .seq us.toArray } : Obj)) (u := .tup rest) hn
    exact h _ _ [a, V.ref s.heap.objs.size] [u, Value.ref s.heap.objs.size] (StX.env0_laid e0 new) un rfl (fun e s' => StX.cxUp outer s H _ _ E e s' un (fun b o q => Heap.get?_push_of_some _ q) rfl) (.cons ra (.cons rfl .nil)) rfl ⟨_, hn, rfl, rfl⟩
  · subst ex eH
    exact body_of (X := cxOf (L2.CX P w) P w K mg base N qual (defScope st) f cdv A outer s2 (upd H p (.tup rest)) E) (ps := [p1, pv]) har (by rw [hio]; intro j z; cases z)
      (body cdv A outer s2 (upd H p (.tup rest)) E ⟨⟨hr', hgd, takes_of rfl rfl rfl rfl⟩, passes_of rfl, rfl⟩) hg (hq p hp)
end
end DV
namespace DV
open PySem PySem.Spec PyProof.Rows L2
section
variable {X : Cx} {W : WX} {k j n : Nat} {f C p g : Addr} {fd : FuncData} {ps ks : List Str} {sp : Sp} {ds : List Value} {dvs : List V}
/-- a class is called, its __init__ by a positional promise -/
theorem run_newC {pins : List (Addr × Obj)} {σ : L2.St} {H : Hp} {s : Shared} {Q : VK} {us : List Value} {vs : List V} (M : Mk X.K C f) (F : FnC X.prog X.w X.K X.mg X.base k f sp) (hr : Room (k + 1) X.A) (hg : X.A.guards = some []) (tk : Takes X W) (I : Inv X pins σ H s) (r : Vals vs us)
    (h : ∀ x dx, H x = none → H dx = none → dx ≠ x → sp (.ref x :: vs) (upd (upd H dx (.own x)) x (.ins C dx [])) (fun v G => v = .non ∧ Q (.ref x) G) (WE W σ)) :
    wpAny (model X.prog X.w) X.A (call (.ref C) us) (EP X pins σ Q) X.xe s := by
  obtain ⟨n, en⟩ : ∃ n, n = s.heap.objs.size := ⟨_, rfl⟩
  have want := h (n + 1) n (I.hok.fresh (by rw [en]; exact Nat.le_succ _)) (I.hok.fresh (by rw [en]; exact Nat.le_refl _)) (Nat.ne_of_lt (Nat.lt_succ_self _))
  have J := Inv.made (C := C) I
  rw [← en] at J
  refine wpAny_call (make_map (f := f) I.kIn M.makes M.init (beq_iff_eq.mp M.fn) ?_)
  rw [← en]
  refine codeAny_mono (F _ X.stack _ _ (Value.ref (n + 1) :: us) (V.ref (n + 1) :: vs) _ _ (hr.make C us []) hg (J.env0.make C us []) (.cons rfl r) want) fun res s' hq => ?_
  rcases res with er | fl
  · exact passAt tk σ pins _ _ er s' J hq
  · cases fl with
    | ret u =>
      obtain ⟨v, G', I3, rv, ev, q3⟩ := J.after hq
      cases ev
      exact ⟨rv, .ref (n + 1), G', I3, rfl, q3⟩
    | next => exact (show False from hq).elim
    | brk => exact (show False from hq).elim
    | cont => exact (show False from hq).elim
def rNewC (C : Addr) (sp : Sp) (W : WX) (σ : L2.St) (vs : List V) (H1 : Hp) (Q : VK) : Prop := ∀ x dx, H1 x = none → H1 dx = none → dx ≠ x → sp (.ref x :: vs) (upd (upd H1 dx (.own x)) x (.ins C dx [])) (fun v G => v = .non ∧ Q (.ref x) G) (WE W σ)
theorem pe_newC {x : Str} {np pos : Pos} {e : Expr} {es : List Expr} {t : TA} (M : Mk X.K C f) (F : FnC X.prog X.w X.K X.mg X.base k f sp) (hr : Room (k + 1) X.A) (hgd : X.A.guards = some []) (hg : Gl X x) (hm : X.mg x = some (.ref C)) (tk : Takes X W)
    (ha : PA X (e :: es) t) (hdb : (x == ("__debug__" : Str)) = false) (he : starEach (e :: es) X.env = (false, eval e X.env) :: starEach es X.env) (hpl : (backTo pos (starEach es X.env)).any (·.1) = false) : PE X (.Call (.Name x np) (e :: es) [] pos) (fun σ H Q => t σ H fun vs H1 => rNewC C sp W σ vs H1 Q) :=
  ⟨fun pins s σ H Q I h => wpAny_Call_Name_kw (ld_glob I hg hm (PySem.W.callWith_K (h₀ := X.base) I.ok.mod.kin M.kp
    (thn (ha.run pos pins s σ H _ I h) fun us s1 ⟨vs, H1, I1, r, q⟩ => ⟨I1.kIn, run_newC M F hr hgd tk I1 r q⟩) he hpl) hdb)⟩
theorem pe_newCS {x : Str} {np sp0 pos : Pos} {e : Expr} {te : TE} (M : Mk X.K C f) (F : FnC X.prog X.w X.K X.mg X.base k f sp) (hr : Room (k + 1) X.A) (hgd : X.A.guards = some []) (hg : Gl X x) (hm : X.mg x = some (.ref C)) (tk : Takes X W)
    (he : PE X e te) (hdb : (x == ("__debug__" : Str)) = false) (hst : starEach [.Starred e sp0] X.env = [(true, eval e X.env)]) :
    PE X (.Call (.Name x np) [.Starred e sp0] [] pos) (fun σ H Q => te σ H fun y H1 => ∃ a xs, y = V.ref a ∧ (SqT X.K H1 a xs ∨ SqL X.K H1 a xs) ∧ rNewC C sp W σ xs H1 Q) := by
  refine ⟨fun pins s σ H Q I h => wpAny_Call_Name_kw (ld_glob I hg hm (PySem.W.callWith_S (h₀ := X.base) I.ok.mod.kin M.kp (thn (he.run pins s σ H _ I h) fun v s1 ⟨y, H1, I1, ry, a, xs, ey, hxs, q⟩ => ?_) hst) hdb)⟩
  cases ey
  cases (show v = Value.ref a from ry)
  exact StX.star_any I1 hxs fun us s2 I2 rv => ⟨I2.kIn, run_newC M F hr hgd tk I2 rv q⟩
/-! ### a classmethod -/
theorem run_cmC {pins : List (Addr × Obj)} {σ : L2.St} {H : Hp} {s : Shared} {q : Addr} {Q : VK} {us : List Value} {vs : List V} (F : FnC X.prog X.w X.K X.mg X.base k g sp) (hr : Room k X.A) (hgd : X.A.guards = some []) (tk : Takes X W) (I : Inv X ((q, PySem.W.methodObj (.ref g) (.ref C)) :: pins) σ H s)
    (r : Vals vs us) (h : sp (.ref C :: vs) H Q (WE W σ)) : wpAny (model X.prog X.w) X.A (call (.ref q) us) (EP X pins σ Q) X.xe s := by
  refine thn (Q := EP X ((q, PySem.W.methodObj (.ref g) (.ref C)) :: pins) σ Q) ?_ fun _ _ y => ClX.unpinE y
  refine wpAny_call (PySem.W.method_call (ClX.pin_at I) (codeAny_mono (F X.A X.stack s H (Value.ref C :: us) (V.ref C :: vs) Q _ hr hgd I.env0 (.cons rfl r) h) fun res s' hq => ?_))
  rcases res with er | fl
  · exact passAt tk σ _ _ _ er s' I hq
  · cases fl with
    | ret u => exact I.after hq
    | next => exact (show False from hq).elim
    | brk => exact (show False from hq).elim
    | cont => exact (show False from hq).elim
theorem pe_cmG {pl : Sem Bool} {m : Str} {mc : Value} {o e : Expr} {es : List Expr} {apos pos : Pos} {ta : TE} {t : TA} (he : PE X o ta) (r : ClX.CRead X.K C mc) (c : ClX.CMet X.K C mc m p g) (F : FnC X.prog X.w X.K X.mg X.base k g sp) (hr : Room k X.A) (hgd : X.A.guards = some []) (tk : Takes X W) (ha : PA X (e :: es) t)
    (hst : starEach (e :: es) X.env = (false, eval e X.env) :: starEach es X.env) (hpl : (backTo pos (starEach es X.env)).any (·.1) = false)
    (ht : eval (.Call (.Attribute o m apos) (e :: es) [] pos) X.env = (do
      let ov ← eval o X.env
      standAt apos.atName
      let (f, first) ← holding [ov] (getMethod ov m pl)
      callWith pos f first (backTo pos (starEach (e :: es) X.env)) (backToKw pos (keywordEach [] X.env)))) :
    PE X (.Call (.Attribute o m apos) (e :: es) [] pos) (fun σ H Q => ta σ H fun x H1 => x = .ref C ∧ t σ H1 fun vs H2 => sp (.ref C :: vs) H2 Q (WE W σ)) := by
  refine ⟨fun pins s σ H Q I h => PySem.W.methodCall_KW (pl := pl) (thn (he.run pins s σ H _ I h) fun u s1 ⟨x, H1, I1, rx, ex, q⟩ => ?_) ht⟩
  cases ex
  cases (show u = Value.ref C from rx)
  refine ClX.getmethcm_ok I1 r c fun s2 I2 => ClX.callwith_cm I2 (ClX.base_none I1 (Nat.le_refl _)) c.fi (thn (ha.run pos _ s2 σ H1 _ I2 q) fun us s3 ⟨vs, H2, I3, rv, q2⟩ => ⟨⟨ClX.pin_at I3, I3.kIn⟩, ?_⟩) hst hpl
  exact run_cmC F hr hgd tk I3 rv q2
/-! ### keywords that go on with the parameters -/
/-- n given by place, the keywords ks behind them, then the defaults ds -/
def KwB (K : PySem.W.Frag) (fd : FuncData) (ps : List Str) (n : Nat) (ks : List Str) (ds : List Value) : Prop := ∀ (s : Shared) (us ws : List Value), K.In s.heap → us.length = n → ws.length = ks.length → BindsTo s fd ⟨us, ks.zip ws⟩ (ps.zip (us ++ ws ++ ds))
theorem run_newK {pins : List (Addr × Obj)} {σ : L2.St} {H : Hp} {s : Shared} {Q : VK} {us ws : List Value} {vs zs : List V} (M : Mk X.K C f) (G : FnG X.prog X.w X.K X.mg X.base k f fd ps sp) (hr : Room (k + 1) X.A) (hg : X.A.guards = some []) (hb : KwB X.K fd ps (n + 1) ks ds) (hd : Vals dvs ds)
    (tk : Takes X W) (I : Inv X pins σ H s) (r : Vals vs us) (rz : Vals zs ws) (l1 : vs.length = n) (l2 : zs.length = ks.length)
    (h : ∀ x dx, H x = none → H dx = none → dx ≠ x → sp (.ref x :: (vs ++ zs ++ dvs)) (upd (upd H dx (.own x)) x (.ins C dx [])) (fun v G => v = .non ∧ Q (.ref x) G) (WE W σ)) :
    wpAny (model X.prog X.w) X.A (call (.ref C) us (ks.zip ws)) (EP X pins σ Q) X.xe s := by
  obtain ⟨n0, en⟩ : ∃ n, n = s.heap.objs.size := ⟨_, rfl⟩
  have want := h (n0 + 1) n0 (I.hok.fresh (by rw [en]; exact Nat.le_succ _)) (I.hok.fresh (by rw [en]; exact Nat.le_refl _)) (Nat.ne_of_lt (Nat.lt_succ_self _))
  have J := Inv.made (C := C) I
  rw [← en] at J
  have rel : Vals (V.ref (n0 + 1) :: (vs ++ zs ++ dvs)) ((Value.ref (n0 + 1) :: us) ++ ws ++ ds) := .cons rfl ((r.append rz).append hd)
  refine wpAny_call (make_map (f := f) I.kIn M.makes M.init (beq_iff_eq.mp M.fn) ?_)
  rw [← en]
  refine codeAny_mono (G.run _ X.stack _ _ ⟨Value.ref (n0 + 1) :: us, ks.zip ws⟩ _ _ _ _ (hr.make C us (ks.zip ws)) hg (J.env0.make C us (ks.zip ws)) (hb _ (Value.ref (n0 + 1) :: us) ws J.kIn (by rw [List.length_cons, ← r.length, l1]) (rz.length.symm.trans l2)) rel want) fun res s' hq => ?_
  rcases res with er | fl
  · exact passAt tk σ pins _ _ er s' J hq
  · cases fl with
    | ret u =>
      obtain ⟨v, G', I3, rv, ev, q3⟩ := J.after hq
      cases ev
      exact ⟨rv, .ref (n0 + 1), G', I3, rfl, q3⟩
    | next => exact (show False from hq).elim
    | brk => exact (show False from hq).elim
    | cont => exact (show False from hq).elim
theorem pe_newKw {x : Str} {np pos : Pos} {e : Expr} {es : List Expr} {kws : List Keyword} {t tk' : TA} (M : Mk X.K C f) (G : FnG X.prog X.w X.K X.mg X.base k f fd ps sp) (hr : Room (k + 1) X.A) (hgd : X.A.guards = some []) (hg : Gl X x) (hm : X.mg x = some (.ref C)) (hb : KwB X.K fd ps (n + 1) ks ds) (hd : Vals dvs ds) (tk : Takes X W)
    (ha : PA X (e :: es) t) (hkw : PK X kws tk') (hall : (backToKw pos (keywordEach kws X.env)).all (·.1.isSome) = true) (hks : (backToKw pos (keywordEach kws X.env)).filterMap (·.1) = ks) (hdb : (x == ("__debug__" : Str)) = false)
    (he : starEach (e :: es) X.env = (false, eval e X.env) :: starEach es X.env) (hpl : ((backTo pos (starEach (e :: es) X.env)).any (·.1) || (backToKw pos (keywordEach kws X.env)).any (·.1.isNone)) = false) :
    PE X (.Call (.Name x np) (e :: es) kws pos) (fun σ H Q => t σ H fun vs H1 => tk' σ H1 fun zs H2 => vs.length = n ∧ zs.length = ks.length ∧ ∀ x dx, H2 x = none → H2 dx = none → dx ≠ x → sp (.ref x :: (vs ++ zs ++ dvs)) (upd (upd H2 dx (.own x)) x (.ins C dx [])) (fun v G => v = .non ∧ Q (.ref x) G) (WE W σ)) := by
  refine ⟨fun pins s σ H Q I h => wpAny_Call_Name_kw (ld_glob I hg hm (PySem.W.callWith_KW (h₀ := X.base) I.ok.mod.kin M.kp hall (thn (ha.run pos pins s σ H _ I h) fun us s1 ⟨vs, H1, I1, r, q⟩ => ?_) hpl he) hdb)⟩
  refine thn (hkw.run pos pins s1 σ H1 _ I1 q) fun ws s2 ⟨zs, H2, I2, rz, l1, l2, q2⟩ => ⟨I2.kIn, ?_⟩
  rw [hks]
  exact run_newK M G hr hgd hb hd tk I2 r rz l1 l2 q2
end
/-! ### by data -/
structure NewS (P : Program) (w : World) (K : PySem.W.Frag) (mg : Str → Option Value) (base : Heap) (c : Str) (k : Nat) (m : Mir) : Prop where
  ex : ∃ (C f : Addr), mg c = some (.ref C) ∧ Mk K C f ∧ FnC P w K mg base k f (spStar K mg m)
structure CmF (P : Program) (w : World) (K : PySem.W.Frag) (mg : Str → Option Value) (base : Heap) (c n : Str) (k : Nat) (m : Mir) : Prop where
  ex : ∃ (C : Addr) (mc : Value) (p g : Addr), mg c = some (.ref C) ∧ ClX.CRead K C mc ∧ ClX.CMet K C mc n p g ∧ FnC P w K mg base k g (spM K mg m)
structure NewKF (P : Program) (w : World) (K : PySem.W.Frag) (mg : Str → Option Value) (base : Heap) (c : Str) (n : Nat) (ks : List Str) (k : Nat) (m : Mir) (dfl : List D) : Prop where
  ex : ∃ (C f : Addr) (fd : FuncData) (ps : List Str) (ds : List Value), mg c = some (.ref C) ∧ Mk K C f ∧ FnG P w K mg base k f fd ps (spM K mg m) ∧ KwB K fd ps (n + 1) ks ds ∧ Vals (dfl.map vof) ds
def frzs (xs : List Ex) : Bool := xs.all fun x => match x.k with | .frz => true | _ => false
def newSM (c : Str) (fa : Mm (List Ex)) (m : Mir) : Mm Ex := fa >>= fun xs => if frzs xs && small xs.length then newK c m [fl (.tup (xs.map (·.d)))] else bad
def newSS (c : Str) (f : Mm D) (m : Mir) : Mm Ex := f >>= fun d => match d with
  | .lst ds => if small ds.length then newK c m [fl (.tup ds)] else bad
  | .tup ds => if small ds.length then newK c m [fl (.tup ds)] else bad
  | _ => bad
def cmM (c : Str) (fa : Mm (List Ex)) (m : Mir) : Mm Ex := fa >>= fun xs => callN m (fl (.fn c) :: xs)
def newKM (c : Str) (n nk : Nat) (fa fk : Mm (List Ex)) (m : Mir) (dfl : List D) : Mm Ex := fa >>= fun xs => fk >>= fun zs => if xs.length = n ∧ zs.length = nk then newK c m (xs ++ zs ++ dfl.map fl) else bad
section
variable {X : Cx} {W : WX}
theorem frzs_dat {K : PySem.W.Frag} {mg : Str → Option Value} {c0 c : Cf} : ∀ {xs : List Ex} {vs : List V}, ExVs K mg c0 c xs vs → frzs xs = true → DatL K mg c.F c.μ vs (xs.map (·.d))
  | _, _, .nil, _ => .nil
  | _, _, .cons (x := x) h t _, e => by
    unfold frzs at e
    rw [List.all_cons, Bool.and_eq_true] at e
    obtain ⟨k, d⟩ := x
    cases k with
    | frz => exact .cons h (frzs_dat t e.2)
    | tmp => cases e.1
    | slot i => cases e.1
/-- .. its arguments one tuple -/
theorem newS_ok {c0 c : Cf} {cn : Str} {C : Addr} {m : Mir} {ds : List D} {vs : List V} {Q : VK} (hm : X.mg cn = some (.ref C)) (a : Aft X.K X.mg c0 c) (hσ : c.σ = c0.σ) (hv : DatL X.K X.mg c.F c.μ vs ds) (hz : small ds.length = true) (hp : Post X.K X.mg W (ExV X.K X.mg) c0 (newK cn m [fl (.tup ds)] c.τ c.O) Q) :
    rNewC C (spStar X.K X.mg m) W c0.σ vs c.H Q := by
  intro x dx hx hd hne
  refine ⟨.ref x, vs, rfl, by rw [hv.length]; exact small_le hz, fun p hn => ?_⟩
  have a1 := aft_made a hx hd hne hm
  have a2 := aft_newF a1 (p := p) (o := .tup vs) hn
  have pf : Pfx c.μ (c.μ ++ [x]) := fun n b h => by rw [List.getElem?_append_left (List.getElem?_eq_some_iff.mp h).1]; exact h
  have at_ : (c.μ ++ [x])[c.O.length]? = some x := by
    rw [← a.rl.ol, List.getElem?_append_right (Nat.le_refl _), Nat.sub_self]
    rfl
  refine callN_okP (c := { c with O := c.O ++ [(cn, [])], μ := c.μ ++ [x], F := upd c.F p (.tup vs), H := upd (upd (upd c.H dx (.own x)) x (.ins C dx [])) p (.tup vs) }) (xs := [fl (.ref c.O.length), fl (.tup ds)]) a2 hσ
    (ExVs.consF (.ref at_) (ExVs.consF (.tup upd_same (hv.mono (subF_new a1 hn) pf)) .nil)) ?_
  unfold newK at hp
  show PostP X.K X.mg W (ExV X.K X.mg) (c.μ ++ [x]) c0 (callN m (fl (.ref c.O.length) :: [fl (.tup ds)]) c.τ (c.O ++ [(cn, [])])) _
  cases r : callN m (fl (.ref c.O.length) :: [fl (.tup ds)]) c.τ (c.O ++ [(cn, [])]) with
  | ok y τ O =>
    rw [r] at hp
    obtain ⟨k, d⟩ := y
    cases k with
    | frz =>
      cases d with
      | non =>
        intro v G F' μ' b pf hy
        cases hy
        exact ⟨rfl, hp (.ref x) G F' μ' b (.ref (pf _ _ at_))⟩
      | _ => exact hp.elim
    | tmp => cases d <;> exact hp.elim
    | slot i => cases d <;> exact hp.elim
  | ex cl fs τ O => rw [r] at hp; exact hp
  | bad => rw [r] at hp; exact hp.elim
theorem de_newS {cn : Str} {np pos : Pos} {e : Expr} {es : List Expr} {k j : Nat} {m : Mir} {fa : Mm (List Ex)} (hS : Std X W k) (hc : NewS X.prog X.w X.K X.mg X.base cn j m) (ha : DAs X W (e :: es) fa) (hj : j + 1 ≤ k := by decide)
    (hg : Gl X cn := by rfl) (hdb : (cn == ("__debug__" : Str)) = false := by decide) (he : starEach (e :: es) X.env = (false, eval e X.env) :: starEach es X.env := by rfl) (hpl : (backTo pos (starEach es X.env)).any (·.1) = false := by rfl) :
    DE X W (.Call (.Name cn np) (e :: es) [] pos) (newSM cn fa m) := by
  obtain ⟨C, f, hm, M, F⟩ := hc.ex
  refine PE.imp (pe_newC M F (hS.room.mono hj) hS.grd hg hm hS.tk ha hdb he hpl) fun σ H Q q => ?_
  refine post_fst q fun c xs c2 vs r hσ hH a2 hσ2 hv hp => ?_
  cases hf : frzs xs && small xs.length with
  | false => rw [hf] at hp; exact hp.elim
  | true =>
    rw [hf, if_pos rfl] at hp
    rw [Bool.and_eq_true] at hf
    rw [← hσ]
    exact newS_ok hm a2 hσ2 (frzs_dat hv hf.1) (by rw [List.length_map]; exact hf.2) hp
theorem de_newSS {cn : Str} {np sp0 pos : Pos} {e : Expr} {k j : Nat} {m : Mir} {f : Mm D} (hS : Std X W k) (hc : NewS X.prog X.w X.K X.mg X.base cn j m) (he : DF X W e f) (hj : j + 1 ≤ k := by decide)
    (hg : Gl X cn := by rfl) (hdb : (cn == ("__debug__" : Str)) = false := by decide) (hst : starEach [.Starred e sp0] X.env = [(true, eval e X.env)] := by rfl) : DE X W (.Call (.Name cn np) [.Starred e sp0] [] pos) (newSS cn f m) := by
  obtain ⟨C, fA, hm, M, F⟩ := hc.ex
  refine PE.imp (pe_newCS M F (hS.room.mono hj) hS.grd hg hm hS.tk he hdb hst) fun σ H Q q => ?_
  refine post_fst q fun c d c2 v r hσ hH a2 hσ2 hv hp => ?_
  have hv' : Dat X.K X.mg c2.F c2.μ v d := hv
  rw [← hσ]
  cases d with
  | lst ds =>
    cases hz : small ds.length with
    | false => simp only [hz] at hp; exact hp.elim
    | true =>
      simp only [hz, if_true] at hp
      cases hv' with
      | lst h1 h2 => exact ⟨_, _, rfl, .inr (SqL.of (a2.rl.sub _ _ h1)), newS_ok hm a2 hσ2 h2 hz hp⟩
  | tup ds =>
    cases hz : small ds.length with
    | false => simp only [hz] at hp; exact hp.elim
    | true =>
      simp only [hz, if_true] at hp
      cases hv' with
      | tup h1 h2 => exact ⟨_, _, rfl, .inl (SqT.of (a2.rl.sub _ _ h1)), newS_ok hm a2 hσ2 h2 hz hp⟩
  | _ => exact hp.elim
theorem de_cm {cn n : Str} {e : Expr} {es : List Expr} {np apos pos : Pos} {k j : Nat} {m : Mir} {fa : Mm (List Ex)} {pl : Sem Bool} (hS : Std X W k) (hc : CmF X.prog X.w X.K X.mg X.base cn n j m) (ha : DAs X W (e :: es) fa) (hj : j ≤ k := by decide) (hg : Gl X cn := by rfl) (hdb : (cn == ("__debug__" : Str)) = false := by decide)
    (hst : starEach (e :: es) X.env = (false, eval e X.env) :: starEach es X.env := by rfl) (hpl : (backTo pos (starEach es X.env)).any (·.1) = false := by rfl)
    (ht : eval (.Call (.Attribute (.Name cn np) n apos) (e :: es) [] pos) X.env = (do
      let ov ← eval (.Name cn np) X.env
      standAt apos.atName
      let (f, first) ← holding [ov] (getMethod ov n pl)
      callWith pos f first (backTo pos (starEach (e :: es) X.env)) (backToKw pos (keywordEach [] X.env))) := by rfl) :
    DE X W (.Call (.Attribute (.Name cn np) n apos) (e :: es) [] pos) (cmM cn fa m) := by
  obtain ⟨C, mc, p, g, hm, cr, cm, F⟩ := hc.ex
  refine PE.imp (pe_cmG (pl := pl) (pe_glob (v := .ref C) hg hm rfl hdb) cr cm (F.mono hj) hS.room hS.grd hS.tk ha hst hpl ht) fun σ H Q q => ?_
  refine ⟨rfl, post_fst q fun c xs c2 vs r hσ hH a2 hσ2 hv hp => ?_⟩
  rw [← hσ]
  exact callN_ok a2 hσ2 (ExVs.consF (.fn hm) hv) hp
abbrev DKs (X : Cx) (W : WX) (kws : List Keyword) (f : Mm (List Ex)) : Prop := PK X kws (tM X.K X.mg W (ExVs X.K X.mg) f)
theorem de_newKw {cn : Str} {np pos : Pos} {e : Expr} {es : List Expr} {kws : List Keyword} {k j n : Nat} {ks : List Str} {m : Mir} {dfl : List D} {fa fk : Mm (List Ex)} (hS : Std X W k) (hc : NewKF X.prog X.w X.K X.mg X.base cn n ks j m dfl) (ha : DAs X W (e :: es) fa) (hk : DKs X W kws fk) (hj : j + 1 ≤ k := by decide) (hfl : dfl.all flat = true := by decide)
    (hall : (backToKw pos (keywordEach kws X.env)).all (·.1.isSome) = true := by rfl) (hks : (backToKw pos (keywordEach kws X.env)).filterMap (·.1) = ks := by rfl) (hg : Gl X cn := by rfl) (hdb : (cn == ("__debug__" : Str)) = false := by decide)
    (he : starEach (e :: es) X.env = (false, eval e X.env) :: starEach es X.env := by rfl) (hpl : ((backTo pos (starEach (e :: es) X.env)).any (·.1) || (backToKw pos (keywordEach kws X.env)).any (·.1.isNone)) = false := by rfl) :
    DE X W (.Call (.Name cn np) (e :: es) kws pos) (newKM cn n ks.length fa fk m dfl) := by
  obtain ⟨C, f, fd, ps, ds, hm, M, G, hb, hd⟩ := hc.ex
  refine PE.imp (pe_newKw M G (hS.room.mono hj) hS.grd hg hm hb hd hS.tk ha hk hall hks hdb he hpl) fun σ H Q q => ?_
  refine post_fst q fun c xs c2 vs r hσ hH a2 hσ2 hv hp => ?_
  rw [← hσ]
  refine post_seq a2 hσ2 hp fun zs c3 ws a3 hσ3 hz hp2 => ?_
  by_cases hl : xs.length = n ∧ zs.length = ks.length
  · rw [if_pos hl] at hp2
    refine ⟨hv.length.symm.trans hl.1, hz.length.symm.trans hl.2, fun x dx hx hd' hne => ?_⟩
    refine newK_ok hm (a2.trans a3) hσ3 ((ExVs.join a2 (hv.aft a2.rl a3 (hσ3.trans hσ2.symm)) hv.tmps hz).app hfl) hp2 hx hd' hne
  · rw [if_neg hl] at hp2
    exact hp2.elim
end
end DV
namespace DV
open PySem PySem.Spec PyProof.Rows L2
/-! ### keys -/
def kf : D → D → Bool
  | .int i, .int j => i == j
  | .str i, .str j => i == j
  | _, _ => false
def kfs : List D → List D → Bool
  | [], [] => true
  | x :: xs, y :: ys => kf x y && kfs xs ys
  | _, _ => false
/-- equal keys, in a dict of that kind -/
def keq (t : Bool) (x y : D) : Bool := match t with
  | false => kf x y
  | true => match x, y with
    | .tup xs, .tup ys => kfs xs ys
    | _, _ => false
theorem kf_of {a b : Key} {x y : D} (h1 : keyR a x) (h2 : keyR b y) : kf x y = decide (a = b) := by
  cases a with
  | inl i =>
    cases (show x = .int i from h1)
    cases b with
    | inl j =>
      cases (show y = .int j from h2)
      rw [Bool.eq_iff_iff]
      simp [kf]
    | inr j => cases (show y = .str j from h2); simp [kf]
  | inr i =>
    cases (show x = .str i from h1)
    cases b with
    | inl j => cases (show y = .int j from h2); simp [kf]
    | inr j =>
      cases (show y = .str j from h2)
      rw [Bool.eq_iff_iff]
      simp [kf]
theorem kfs_of : ∀ {a b : List Key} {x y : List D}, keysR a x → keysR b y → kfs x y = decide (a = b)
  | [], [], [], [], _, _ => rfl
  | [], _ :: _, [], _ :: _, _, _ => by simp [kfs]
  | _ :: _, [], _ :: _, [], _, _ => by simp [kfs]
  | a :: as, b :: bs, x :: xs, y :: ys, h1, h2 => by
    rw [kfs, kf_of h1.1 h2.1, kfs_of h1.2 h2.2, Bool.eq_iff_iff]
    simp
  | [], _, _ :: _, _, h, _ => h.elim
  | _ :: _, _, [], _, h, _ => h.elim
  | _, [], _, _ :: _, _, h => h.elim
  | _, _ :: _, _, [], _, h => h.elim
def valD (t : Bool) (k : D) : List (D × D) → Option D
  | [] => none
  | p :: r => if keq t p.1 k then some p.2 else valD t k r
def anyD (t : Bool) (k : D) : List (D × D) → Bool
  | [] => false
  | p :: r => keq t p.1 k || anyD t k r
def replD (t : Bool) (k d : D) : List (D × D) → List (D × D)
  | [] => []
  | p :: r => (if keq t p.1 k then (p.1, d) else p) :: replD t k d r
def putD (t : Bool) (kvs : List (D × D)) (k d : D) : List (D × D) := if anyD t k kvs then replD t k d kvs else kvs ++ [(k, d)]
section
variable {K : PySem.W.Frag} {mg : Str → Option Value} {F : Hp} {μ : List Addr}
theorem DatK.val {k : Key} {kd : D} (hk : keyR k kd) : ∀ {l : List (Key × V)} {kvs : List (D × D)}, DatK K mg F μ l kvs → (valD false kd kvs = none → valV l k = none) ∧ ∀ d, valD false kd kvs = some d → ∃ v, valV l k = some v ∧ Dat K mg F μ v d
  | _, _, .nil => ⟨fun _ => rfl, (fun d e => by cases e)⟩
  | _, _, .cons (k := k') (kd := kd') (v := v) (vs := vs) (d := d) (ds := ds) h1 h2 h3 => by
    obtain ⟨i1, i2⟩ := DatK.val hk h3
    have e : keq false kd' kd = decide (k' = k) := kf_of h1 hk
    unfold valD
    rw [e]
    by_cases q : k' = k
    · have p : valV ((k', v) :: vs) k = some v := valV_pos (p := (k', v)) q
      rw [p]
      simp only [decide_eq_true q, if_true]
      exact ⟨(fun z => by cases z), (fun d' z => by cases z; exact ⟨v, rfl, h2⟩)⟩
    · have p : valV ((k', v) :: vs) k = valV vs k := valV_neg (p := (k', v)) q
      rw [p]
      simp only [decide_eq_false q]
      exact ⟨i1, i2⟩
theorem DatT.val {k : List Key} {kd : List D} (hk : keysR k kd) : ∀ {l : List (List Key × V)} {kvs : List (D × D)}, DatT K mg F μ l kvs → (valD true (.tup kd) kvs = none → valV l k = none) ∧ ∀ d, valD true (.tup kd) kvs = some d → ∃ v, valV l k = some v ∧ Dat K mg F μ v d
  | _, _, .nil => ⟨fun _ => rfl, (fun d e => by cases e)⟩
  | _, _, .cons (k := k') (kd := kd') (v := v) (vs := vs) (d := d) (ds := ds) h1 h2 h3 => by
    obtain ⟨i1, i2⟩ := DatT.val hk h3
    have e : keq true (.tup kd') (.tup kd) = decide (k' = k) := kfs_of h1 hk
    unfold valD
    rw [e]
    by_cases q : k' = k
    · have p : valV ((k', v) :: vs) k = some v := valV_pos (p := (k', v)) q
      rw [p]
      simp only [decide_eq_true q, if_true]
      exact ⟨(fun z => by cases z), (fun d' z => by cases z; exact ⟨v, rfl, h2⟩)⟩
    · have p : valV ((k', v) :: vs) k = valV vs k := valV_neg (p := (k', v)) q
      rw [p]
      simp only [decide_eq_false q]
      exact ⟨i1, i2⟩
theorem DatK.any {k : Key} {kd : D} (hk : keyR k kd) : ∀ {l : List (Key × V)} {kvs : List (D × D)}, DatK K mg F μ l kvs → anyD false kd kvs = l.any fun kv => decide (kv.1 = k)
  | _, _, .nil => rfl
  | _, _, .cons h1 h2 h3 => by
    unfold anyD
    rw [List.any_cons, DatK.any hk h3]
    exact congrArg (· || _) (kf_of h1 hk)
theorem DatT.any {k : List Key} {kd : List D} (hk : keysR k kd) : ∀ {l : List (List Key × V)} {kvs : List (D × D)}, DatT K mg F μ l kvs → anyD true (.tup kd) kvs = l.any fun kv => decide (kv.1 = k)
  | _, _, .nil => rfl
  | _, _, .cons h1 h2 h3 => by
    unfold anyD
    rw [List.any_cons, DatT.any hk h3]
    exact congrArg (· || _) (kfs_of h1 hk)
theorem DatK.app : ∀ {l l2 : List (Key × V)} {kvs kvs2 : List (D × D)}, DatK K mg F μ l kvs → DatK K mg F μ l2 kvs2 → DatK K mg F μ (l ++ l2) (kvs ++ kvs2)
  | _, _, _, _, .nil, h => h
  | _, _, _, _, .cons h1 h2 h3, h => .cons h1 h2 (h3.app h)
theorem DatT.app : ∀ {l l2 : List (List Key × V)} {kvs kvs2 : List (D × D)}, DatT K mg F μ l kvs → DatT K mg F μ l2 kvs2 → DatT K mg F μ (l ++ l2) (kvs ++ kvs2)
  | _, _, _, _, .nil, h => h
  | _, _, _, _, .cons h1 h2 h3, h => .cons h1 h2 (h3.app h)
theorem DatK.repl {k : Key} {kd : D} {v : V} {d : D} (hk : keyR k kd) (hd : Dat K mg F μ v d) : ∀ {l : List (Key × V)} {kvs : List (D × D)}, DatK K mg F μ l kvs → DatK K mg F μ (l.map fun kv => if kv.1 = k then (kv.1, v) else kv) (replD false kd d kvs)
  | _, _, .nil => .nil
  | _, _, .cons (k := k') (kd := kd') h1 h2 h3 => by
    rw [List.map_cons]
    unfold replD
    rw [show keq false kd' kd = decide (k' = k) from kf_of h1 hk]
    by_cases q : k' = k
    · simp only [q, decide_true, if_true]
      rw [q] at h1
      exact .cons h1 hd (DatK.repl hk hd h3)
    · simp only [q, decide_false, if_false]
      exact .cons h1 h2 (DatK.repl hk hd h3)
theorem DatT.repl {k : List Key} {kd : List D} {v : V} {d : D} (hk : keysR k kd) (hd : Dat K mg F μ v d) : ∀ {l : List (List Key × V)} {kvs : List (D × D)}, DatT K mg F μ l kvs → DatT K mg F μ (l.map fun kv => if kv.1 = k then (kv.1, v) else kv) (replD true (.tup kd) d kvs)
  | _, _, .nil => .nil
  | _, _, .cons (k := k') (kd := kd') h1 h2 h3 => by
    rw [List.map_cons]
    unfold replD
    rw [show keq true (.tup kd') (.tup kd) = decide (k' = k) from kfs_of h1 hk]
    by_cases q : k' = k
    · simp only [q, decide_true, if_true]
      rw [q] at h1
      exact .cons h1 hd (DatT.repl hk hd h3)
    · simp only [q, decide_false, if_false]
      exact .cons h1 h2 (DatT.repl hk hd h3)
theorem DatK.put {k : Key} {kd : D} {v : V} {d : D} {l : List (Key × V)} {kvs : List (D × D)} (hk : keyR k kd) (hd : Dat K mg F μ v d) (h : DatK K mg F μ l kvs) : DatK K mg F μ (putK l k v) (putD false kvs kd d) := by
  unfold putK putD
  rw [h.any hk]
  split
  · exact h.repl hk hd
  · exact h.app (.cons hk hd .nil)
theorem DatT.put {k : List Key} {kd : List D} {v : V} {d : D} {l : List (List Key × V)} {kvs : List (D × D)} (hk : keysR k kd) (hd : Dat K mg F μ v d) (h : DatT K mg F μ l kvs) : DatT K mg F μ (putK l k v) (putD true kvs (.tup kd) d) := by
  unfold putK putD
  rw [h.any hk]
  split
  · exact h.repl hk hd
  · exact h.app (.cons hk hd .nil)
theorem DatK.length : ∀ {l : List (Key × V)} {kvs : List (D × D)}, DatK K mg F μ l kvs → l.length = kvs.length
  | _, _, .nil => rfl
  | _, _, .cons _ _ h => congrArg (· + 1) h.length
theorem DatT.length : ∀ {l : List (List Key × V)} {kvs : List (D × D)}, DatT K mg F μ l kvs → l.length = kvs.length
  | _, _, .nil => rfl
  | _, _, .cons _ _ h => congrArg (· + 1) h.length
/-- a key that may stand -/
def isK1 : D → Bool
  | .int _ | .str _ => true
  | _ => false
def isK (t : Bool) (d : D) : Bool := match t with
  | false => isK1 d
  | true => match d with
    | .tup ds => ds.all isK1
    | _ => false
theorem key1_of {d : D} (h : isK1 d = true) : ∃ k, keyR k d ∧ vof d = kV k := by
  cases d with
  | int i => exact ⟨.inl i, rfl, rfl⟩
  | str s => exact ⟨.inr s, rfl, rfl⟩
  | _ => cases h
theorem keys_of : ∀ {ds : List D} {vs : List V}, DatL K mg F μ vs ds → ds.all isK1 = true → ∃ ks, keysR ks ds ∧ vs = ks.map kV
  | [], _, h, _ => by cases h; exact ⟨[], True.intro, rfl⟩
  | d :: ds, _, h, e => by
    cases h with
    | cons h1 h2 =>
      rw [List.all_cons, Bool.and_eq_true] at e
      obtain ⟨k, e1, e2⟩ := key1_of e.1
      obtain ⟨ks, e3, rfl⟩ := keys_of h2 e.2
      refine ⟨k :: ks, ⟨e1, e3⟩, ?_⟩
      have fl : flat d = true := by cases d <;> first | rfl | cases e.1
      rw [flat_v fl h1, e2]
      rfl
end
/-! ### d[k], k in d -/
def dgetD (x y : D) : Option D := match x with
  | .dct t kvs => if isK t y then valD t y kvs else none
  | _ => none
def dinO (y x : D) : Option Bool := match x with
  | .dct t kvs => if isK t y then some (valD t y kvs).isSome else none
  | _ => none
section
variable {X : Cx} {W : WX}
/-- what stands at a key, by data -/
theorem dget_of {c : Cf} (r : Rl X.K X.mg c) {x y : V} {t : Bool} {kvs : List (D × D)} {dy : D} (rx : RdV X.K X.mg c x (.dct t kvs)) (ry : RdV X.K X.mg c y dy) (hk : isK t dy = true) :
    ∃ a o, x = .ref a ∧ DGet c.H a y o ∧ (valD t dy kvs = none → o = none) ∧ ∀ d, valD t dy kvs = some d → ∃ v, o = some v ∧ Dat X.K X.mg c.H c.μ v d := by
  have hx := rx.dat r
  cases t with
  | false =>
    cases hx with
    | dctK h1 h2 =>
      obtain ⟨k, e1, e2⟩ := key1_of hk
      have fl : flat dy = true := by cases dy <;> first | rfl | cases hk
      have ey := flat_v fl (ry.dat r)
      rw [e2] at ey
      obtain ⟨i1, i2⟩ := h2.val e1
      exact ⟨_, _, rfl, .inl ⟨_, k, h1, ey, rfl⟩, i1, i2⟩
  | true =>
    cases hx with
    | dctT h1 h2 =>
      cases dy with
      | tup ds =>
        obtain ⟨b, vs, rfl, h3, h4⟩ := ry.tupH r
        obtain ⟨ks, e1, rfl⟩ := keys_of h4 hk
        obtain ⟨i1, i2⟩ := h2.val e1
        exact ⟨_, _, rfl, .inr ⟨_, ks, b, h1, rfl, h3, rfl⟩, i1, i2⟩
      | _ => cases hk
def rInDc : R2 := fun y x H Q => ∃ a o, x = .ref a ∧ DGet H a y o ∧ Q (.bl o.isSome) H
def rNinDc : R2 := fun y x H Q => ∃ a o, x = .ref a ∧ DGet H a y o ∧ Q (.bl (!o.isSome)) H
theorem op_inDc (hu : X.A.units + 1 < cLine) : OpR X (compareOp .In) rInDc := by
  intro pins s σ H x y v u Q I rx ry ⟨a, o, ey, g, q⟩
  subst ey
  cases (show u = Value.ref a from ry)
  exact d_in hu I g rx fun s' I' => ⟨.bl _, H, I', rfl, q⟩
theorem op_ninDc (hu : X.A.units + 1 < cLine) : OpR X (compareOp .NotIn) rNinDc := by
  intro pins s σ H x y v u Q I rx ry ⟨a, o, ey, g, q⟩
  subst ey
  cases (show u = Value.ref a from ry)
  exact d_notIn hu I g rx fun s' I' => ⟨.bl _, H, I', rfl, q⟩
def inDd (y x : D) : Mm Ex := opt (dinO y x) >>= fun k => blE k
def ninDd (y x : D) : Mm Ex := opt (dinO y x) >>= fun k => blE (!k)
theorem dinO_of {c : Cf} (r : Rl X.K X.mg c) {x y : V} {dx dy : D} {k : Bool} (rx : RdV X.K X.mg c x dx) (ry : RdV X.K X.mg c y dy) (e : dinO dy dx = some k) : ∃ a o, x = .ref a ∧ DGet c.H a y o ∧ o.isSome = k := by
  unfold dinO at e
  split at e
  · split at e
    · rename_i hk
      obtain ⟨a, o, e1, g, i1, i2⟩ := dget_of r rx ry hk
      refine ⟨a, o, e1, g, ?_⟩
      have e' := Option.some.inj e
      rw [← e']
      rename_i t kvs
      cases q : valD t dy kvs with
      | none => rw [i1 q]; rfl
      | some d => obtain ⟨v, ev, _⟩ := i2 d q; rw [ev]; rfl
    · cases e
  · cases e
theorem bi_inDd {k : Nat} (hS : Std X W k) : Bi X W (compareOp .In) inDd := ⟨_, op_inDc (by have := hS.un; omega), fun c0 c u v dx dy Q a hσ ru rv h => by
  obtain ⟨k, e, h⟩ := post_opt h
  obtain ⟨p, o, e1, g, e2⟩ := dinO_of a.rl rv ru e
  exact ⟨p, o, e1, g, by rw [e2]; exact post_fl a hσ h rfl⟩⟩
theorem bi_ninDd {k : Nat} (hS : Std X W k) : Bi X W (compareOp .NotIn) ninDd := ⟨_, op_ninDc (by have := hS.un; omega), fun c0 c u v dx dy Q a hσ ru rv h => by
  obtain ⟨k, e, h⟩ := post_opt h
  obtain ⟨p, o, e1, g, e2⟩ := dinO_of a.rl rv ru e
  exact ⟨p, o, e1, g, by rw [e2]; exact post_fl a hσ h rfl⟩⟩
/-- of a row or a dict -/
def inAny (x y : D) : Mm Ex := match y with
  | .dct _ _ => inDd x y
  | _ => inD x y
def ninAny (x y : D) : Mm Ex := match y with
  | .dct _ _ => ninDd x y
  | _ => ninD x y
theorem bi_inA {k : Nat} (hS : Std X W k) : Bi X W (compareOp .In) inAny := by
  obtain ⟨r1, a1, b1⟩ := bi_in (W := W) hS
  obtain ⟨r2, a2, b2⟩ := bi_inDd (W := W) hS
  refine ⟨_, a1.or a2, fun c0 c u v dx dy Q a hσ ru rv h => ?_⟩
  unfold inAny at h
  split at h
  · exact .inr (b2 c0 c u v dx _ Q a hσ ru rv h)
  · exact .inl (b1 c0 c u v dx _ Q a hσ ru rv h)
theorem bi_ninA {k : Nat} (hS : Std X W k) : Bi X W (compareOp .NotIn) ninAny := by
  obtain ⟨r1, a1, b1⟩ := bi_nin (W := W) hS
  obtain ⟨r2, a2, b2⟩ := bi_ninDd (W := W) hS
  refine ⟨_, a1.or a2, fun c0 c u v dx dy Q a hσ ru rv h => ?_⟩
  unfold ninAny at h
  split at h
  · exact .inr (b2 c0 c u v dx _ Q a hσ ru rv h)
  · exact .inl (b1 c0 c u v dx _ Q a hσ ru rv h)
end
end DV
namespace DV
open PySem PySem.Spec PyProof.Rows L2
section
variable {X : Cx} {W : WX}
/-! ### d[k] -/
def rIxDc : R2 := fun x y H Q => ∃ a v, x = .ref a ∧ DGet H a y (some v) ∧ Q v H
theorem ix_dc (hu : X.A.units + 1 < cLine) : IxR X rIxDc := by
  intro value slice pins s σ H x y v u Q I rx ry ⟨a, w, ex, g, q⟩ hs
  subst ex
  cases (show v = Value.ref a from rx)
  exact tail_any (dict_typeIs I g) slot_dict_getitem.lookup (d_getItem hu I g ry fun w' s' I' rw => ⟨w, H, I', rw, q⟩) hs
def ixDd (x y : D) : Mm Ex := opt (dgetD x y) >>= fun d => pure (fl d)
def ixAny (x y : D) : Mm Ex := match x with
  | .dct _ _ => ixDd x y
  | _ => ixD x y
theorem dct_frz {c : Cf} (r : Rl X.K X.mg c) {x y : V} {t : Bool} {kvs : List (D × D)} {dy : D} (rx : RdV X.K X.mg c x (.dct t kvs)) (ry : RdV X.K X.mg c y dy) (hk : isK t dy = true) {d : D} (e : valD t dy kvs = some d) :
    ∃ a v, x = .ref a ∧ DGet c.H a y (some v) ∧ Dat X.K X.mg c.F c.μ v d := by
  obtain ⟨b, h⟩ := rx
  cases b with
  | false =>
    cases h with
    | dctK h1 h2 =>
      obtain ⟨k, e1, e2⟩ := key1_of hk
      have fl : flat dy = true := by cases dy <;> first | rfl | cases hk
      have ey := flat_v fl (ry.dat r)
      rw [e2] at ey
      obtain ⟨v, ev, dv⟩ := (h2.val e1).2 d e
      exact ⟨_, v, rfl, .inl ⟨_, k, r.sub.rd h1, ey, ev.symm⟩, dv⟩
    | dctT h1 h2 =>
      cases dy with
      | tup ds =>
        obtain ⟨q, vs, rfl, h3, h4⟩ := ry.tupH r
        obtain ⟨ks, e1, rfl⟩ := keys_of h4 hk
        obtain ⟨v, ev, dv⟩ := (h2.val e1).2 d e
        exact ⟨_, v, rfl, .inr ⟨_, ks, q, r.sub.rd h1, rfl, h3, ev.symm⟩, dv⟩
      | _ => cases hk
  | true =>
    obtain ⟨p, rfl, hf, ho⟩ := h
    rcases ho with ⟨rfl, l, h1, h2⟩ | ⟨rfl, l, h1, h2⟩
    · obtain ⟨k, e1, e2⟩ := key1_of hk
      have fl : flat dy = true := by cases dy <;> first | rfl | cases hk
      have ey := flat_v fl (ry.dat r)
      rw [e2] at ey
      obtain ⟨v, ev, dv⟩ := (h2.val e1).2 d e
      exact ⟨p, v, rfl, .inl ⟨_, k, .inl h1, ey, ev.symm⟩, dv⟩
    · cases dy with
      | tup ds =>
        obtain ⟨q, vs, rfl, h3, h4⟩ := ry.tupH r
        obtain ⟨ks, e1, rfl⟩ := keys_of h4 hk
        obtain ⟨v, ev, dv⟩ := (h2.val e1).2 d e
        exact ⟨p, v, rfl, .inr ⟨_, ks, q, .inl h1, rfl, h3, ev.symm⟩, dv⟩
      | _ => cases hk
theorem ix_any {k : Nat} (hS : Std X W k) : Ix X W ixAny := by
  obtain ⟨r1, a1, b1⟩ := ix_std (X := X) (W := W)
  refine ⟨_, a1.or (ix_dc (by have := hS.un; omega)), fun c0 c u v dx dy Q a hσ ru rv h => ?_⟩
  unfold ixAny at h
  split at h
  · rename_i t kvs
    obtain ⟨d, e, h'⟩ := post_opt h
    clear h
    unfold dgetD at e
    simp only at e
    split at e
    · rename_i hk
      obtain ⟨p, w, e1, g, dv⟩ := dct_frz a.rl ru rv hk e
      exact .inr ⟨p, w, e1, g, post_ok (x := fl d) a hσ h' dv⟩
    · cases e
  · exact .inl (b1 c0 c u v _ dy Q a hσ ru rv h)
/-! ### d[k] = v -/
def setA (i : Nat) (k d : D) : Mm Unit := fun τ O => match τ[i]? with
  | some (some (true, .dct t kvs)) => if isK t k && smallS kvs.length then .ok () (τ.set i (some (true, .dct t (putD t kvs k d)))) O else .bad
  | _ => setM i k d τ O
def rSetA : V → V → V → Hp → (Hp → Prop) → Prop := fun o i v H Q => rSetL o i v H Q ∨ rSetD o i v H Q
theorem set_any (hu : X.A.units + 1 < cLine) : PSet X rSetA := fun pins s σ H o i v ov iv u Q I ro ri rv h => h.elim (fun h => set_list pins s σ H o i v ov iv u Q I ro ri rv h) fun h => set_dict hu pins s σ H o i v ov iv u Q I ro ri rv h
theorem own_dct {K : PySem.W.Frag} {mg : Str → Option Value} {c : Cf} (r : Rl K mg c) {i : Nat} {t : Bool} {kvs : List (D × D)} (h : c.τ[i]? = some (some (true, .dct t kvs))) :
    ∃ l, c.σ[i]? = some (some (.ref l)) ∧ ((t = false ∧ ∃ q, c.H l = some (.dK q) ∧ DatK K mg c.F c.μ q kvs) ∨ (t = true ∧ ∃ q, c.H l = some (.dT q) ∧ DatT K mg c.F c.μ q kvs)) := by
  obtain ⟨v, e1, l, rfl, hF, ho⟩ := r.sl i true _ h
  exact ⟨l, e1, ho⟩
theorem setA_ok {i : Nat} {k d : D} {kv v : V} {l : V} {c0 c : Cf} {pin : List Nat} {Q : L2.St → Hp → Prop} (a : Aft X.K X.mg c0 c) (p : Pin pin c0.σ c.σ) (hs : c.σ[i]? = some (some l)) (hk : RdV X.K X.mg c kv k) (hd : Dat X.K X.mg c.F c.μ v d)
    (h : PostU X.K X.mg pin c0 (setA i k d c.τ c.O) Q) : rSetA l kv v c.H fun H' => Q c.σ H' := by
  unfold setA at h
  split at h
  · rename_i t kvs ht
    split at h
    · rename_i hc
      rw [Bool.and_eq_true] at hc
      obtain ⟨l', e1, ho⟩ := own_dct a.rl ht
      rw [hs] at e1
      cases e1
      right
      rcases ho with ⟨rfl, q, h1, h2⟩ | ⟨rfl, q, h1, h2⟩
      · obtain ⟨ky, e1, e2⟩ := key1_of hc.1
        have fl : flat k = true := by cases k <;> first | rfl | cases hc.1
        have ey := flat_v fl (hk.dat a.rl)
        rw [e2] at ey
        have a' := aft_mut a (o' := .dK (putK q ky v)) (d' := .dct false (putD false kvs k d)) ht hs (.inl ⟨rfl, _, upd_same, h2.put e1 hd⟩)
        exact ⟨l', _, rfl, .inl ⟨q, ky, h1, ey, by rw [h2.length]; exact smallS_lt hc.2, rfl⟩, h c.σ _ c.F c.μ a' p⟩
      · cases k with
        | tup ds =>
          obtain ⟨b, vs, rfl, h3, h4⟩ := hk.tupH a.rl
          obtain ⟨ks, e1, rfl⟩ := keys_of h4 hc.1
          have a' := aft_mut a (o' := .dT (putK q ks v)) (d' := .dct true (putD true kvs (.tup ds) d)) ht hs (.inr ⟨rfl, _, upd_same, h2.put e1 hd⟩)
          exact ⟨l', _, rfl, .inr ⟨q, ks, b, h1, rfl, h3, by rw [h2.length]; exact smallS_lt hc.2, rfl⟩, h c.σ _ c.F c.μ a' p⟩
        | _ => cases hc.1
    · exact h.elim
  · exact .inl (setM_ok a p hs hk hd h)
/-- where the slot is bound -/
def ifB {α : Type} (i : Nat) (f : Mm α) : Mm α := fun τ O => match τ[i]? with
  | some (some _) => f τ O
  | _ => .bad
/-- x[k] = e, any index -/
theorem ds_setIx {pin : List Nat} {k : Nat} (i : Nat) {x : Str} {e ix : Expr} {p tpos pos : Pos} {fe fi : Mm Ex} (hS : Std X W k) (he : DE X W e fe) (hix : DE X W ix fi) (hN : X.N[i]? = some x := by rfl) (hv : Vis X.env.scope x := by first | exact Or.inl rfl | exact Or.inr (Or.inl rfl) | exact Or.inr (Or.inr rfl))
    (hd : (x == ("__debug__" : Str)) = false := by decide) (hcd : (x == ("__classdict__" : Str)) = false := by decide)
    (ha : ∀ v, assign (.Subscript (.Name x p) ix tpos) X.env v = (do
      let ov ← holding [v] (eval (.Name x p) X.env)
      let iv ← holding [v, ov] (eval ix X.env)
      standAt tpos
      holding [v, ov, iv] (setItem ov iv v)
      release [v, ov, iv] []) := by intro _; rfl)
    (hs : swapsWithSole [.Subscript (.Name x p) ix tpos] e pos.line X.env = pure false := by rfl) (hw : swappedStores [.Subscript (.Name x p) ix tpos] e X.env = pure none := by rfl) (h1 : (assignEach [.Subscript (.Name x p) ix tpos] X.env).map (·.2) = [assign (.Subscript (.Name x p) ix tpos) X.env] := by rfl) :
    DS X W pin (.Assign [.Subscript (.Name x p) ix tpos] e pos) ((fe >>= frzX) >>= fun d => ifB i (fi >>= fun y => rd y >>= fun k => setA i k d >>= fun _ => pure .nx)) := by
  refine PS.imp (ps_asg (DF.of he) (pg_sub (pe_var (i := i) hN hv hd hcd) hix (set_any (by have := hS.un; omega)) ha) hs hw h1) fun D σ H q => ?_
  refine posts_fst q fun c d c2 v rl hσ hH a2 hσ2 hd hp => ?_
  have hd' : Dat X.K X.mg c2.F c2.μ v d := hd
  rw [← hσ]
  have hp2 : PostS X.K X.mg W pin c ((ifB i (fi >>= fun y => rd y >>= fun k => setA i k d >>= fun _ => pure .nx)) c2.τ c2.O) D := hp
  unfold ifB at hp2
  split at hp2
  · rename_i w ht
    obtain ⟨b, dw⟩ := w
    obtain ⟨w, hw', _⟩ := a2.rl.sl i b dw ht
    refine ⟨w, by rw [← hσ2]; exact hw', ?_⟩
    refine posts_seq a2 hσ2 hp2 fun y c3 u a3 hσ3 hy hp3 => ?_
    have a23 := a2.trans a3
    have key : ∃ o, RdV X.K X.mg c3 u o ∧ PostS X.K X.mg W pin c ((setA i o d >>= fun _ => pure .nx) c3.τ c3.O) D := by
      obtain ⟨kk, dd⟩ := y
      cases kk with
      | frz => exact ⟨dd, ⟨false, hy⟩, hp3⟩
      | tmp =>
        obtain ⟨q, rfl, z1, z2, _, _⟩ := hy
        exact ⟨dd, ⟨true, q, rfl, z1, z2⟩, hp3⟩
      | slot j =>
        have hs : c3.σ[j]? = some (some u) := hy
        rw [bind_app] at hp3
        cases e3 : c3.τ[j]? with
        | none => simp only [rd, e3] at hp3; exact hp3.elim
        | some o =>
          cases o with
          | none => simp only [rd, e3] at hp3; exact hp3.elim
          | some pr =>
            obtain ⟨b', d'⟩ := pr
            simp only [rd, e3] at hp3
            obtain ⟨v', k1, k2⟩ := a23.rl.sl j b' d' e3
            rw [hs] at k1
            have e' := Option.some.inj (Option.some.inj k1)
            subst e'
            exact ⟨d', ⟨b', k2⟩, hp3⟩
    obtain ⟨o, ro, hp4⟩ := key
    rw [bind_app] at hp4
    have z : rSetA w u v c3.H fun H' => D.nx c3.σ H' := by
      refine setA_ok (c0 := c) (pin := pin) (Q := fun σ' H' => D.nx σ' H') a23 (Pin.of_eq hσ3) (by rw [hσ3, ← hσ2]; exact hw') ro (Dat.mono (a3.subF a2.rl) a3.mu _ _ hd') ?_
      cases e : setA i o d c3.τ c3.O with
      | ok q t O => rw [e] at hp4; exact fun σ' H' F' μ' b pn => hp4 σ' H' F' μ' b pn
      | ex cl fs t O =>
        exfalso
        unfold setA setM at e
        split at e
        · split at e <;> cases e
        · split at e
          · split at e
            · split at e <;> cases e
            · cases e
          · cases e
      | bad => rw [e] at hp4; exact hp4.elim
    rw [hσ3] at z
    exact z
  · exact hp2.elim
end
end DV
namespace DV
open PySem PySem.Spec PyProof.Rows L2
section
variable {prog : Program} {w : World} {K : Type} [DecidableEq K] {knd : HeapKind prog w K} {A : Around} {E : Value → Shared → Prop} {s : Shared}
theorem disp_pairs {env : Env} {keys : List (Option Expr)} {values : List Expr} {pos : Pos} {pairs : List (Sem Value × Sem Value)} {Q : Value → Shared → Prop} (hu : knd.room A)
    (hshape : (evalEachOpt keys env).zip ((evalEach values env).map fun v => do let x ← v; standAt pos; pure x) = pairs.map fun p => (some p.1, p.2)) (h0 : pairs ≠ []) (hlen : pairs.length ≤ 15)
    (h : wpAny (model prog w) A (evalPairs pairs) (fun vs s1 => ∃ ps, CarriesH knd s1.heap vs ps ∧ s1.heap.DictOfH knd s.heap.objs.size [] ∧
      ∀ h' tk, h'.DictOfH knd s.heap.objs.size (storedAllH [] ps) → Heap.SameBut s.heap.objs.size s1.heap h' → Q (.ref s.heap.objs.size) { s1 with heap := h', toks := tk }) E
      { s with heap := s.heap.push { cls := .type "dict", data := .dict #[] } }) : wpAny (model prog w) A (eval (.Dict keys values pos) env) Q E s := by
  rw [arm_eval_Dict, hshape, dictDisplay_pairs pairs h0 (by omega)]
  refine wpAny_bind (wpAny_standAt (wpAny_bind (wpAny_subDictH (knd := knd) (Q := fun d t => wpAny (model prog w) A (pure (Value.ref d)) Q E t) hu hlen (wpAny_mono h (fun vs s1 h1 => ?_) fun _ _ e => e))))
  obtain ⟨ps, c, m, q⟩ := h1
  exact ⟨ps, c, m, fun h' tk a b => wpAny_pure (q h' tk a b)⟩
end
section
variable {K : PySem.W.Frag} {mg : Str → Option Value} {c0 c : Cf}
/-- an object of nobody's changes -/
theorem aft_junk (a : Aft K mg c0 c) {p : Addr} {o : HO} (hF : c.F p = none) (hm : ¬ Mine c p) (h0 : c0.H p = none) : Aft K mg c0 { c with H := upd c.H p o } := by
  have r := a.rl
  refine ⟨⟨fun b u e => ?_, r.len, fun i b d e => ?_, r.dj, r.om, r.ol, r.nd, fun n q cl fs h1 h2 => ?_⟩, fun b u h n => ?_, a.mi, a.mu, fun b u h => ?_⟩
  · have : b ≠ p := fun z => by rw [z, hF] at e; cases e
    exact (upd_ne this).trans (r.sub _ _ e)
  · obtain ⟨v, e1, e2⟩ := r.sl i b d e
    refine ⟨v, e1, ?_⟩
    cases b with
    | false => exact e2
    | true =>
      obtain ⟨q, rfl, h1, h2⟩ := e2
      have : q ≠ p := fun z => hm (.inl ⟨i, d, e, by rw [← z]; exact e1⟩)
      exact ⟨q, rfl, h1, h2.keep (upd_ne this) (Sub.refl _) (Pfx.refl _)⟩
  · obtain ⟨h3, h4⟩ := r.ob n q cl fs h1 h2
    have : q ≠ p := fun z => hm (.inr (by rw [← z]; exact List.mem_of_getElem? h1))
    exact ⟨h3, h4.keep (upd_ne this) (Sub.refl _) (Pfx.refl _)⟩
  · obtain ⟨k1, k2⟩ := a.fr b u h n
    have : b ≠ p := fun z => by rw [z, h0] at h; cases h
    exact ⟨(upd_ne this).trans k1, k2⟩
  · obtain ⟨o2, k⟩ := a.tr b u h
    by_cases z : b = p
    · exact ⟨o, by show upd c.H p o b = _; rw [z, upd_same]⟩
    · exact ⟨o2, (upd_ne z).trans k⟩
end
section
variable {X : Cx} {W : WX}
def tDisp1 (tk tv : TE) : TE := fun σ H Q => ∀ p, H p = none → tk σ (upd H p (.dT [])) fun x H1 => tv σ H1 fun y H2 => H2 p = some (.dT []) ∧ ∃ ks b, x = .ref b ∧ H2 b = some (.tup (ks.map kV)) ∧ Q (.ref p) (upd H2 p (.dT [(ks, y)]))
theorem pe_disp1 {k v : Expr} {pos : Pos} {tk tv : TE} (hu : X.A.units + 1 < cLine) (hk : PE X k tk) (hv : PE X v tv) : PE X (.Dict [some k] [v] pos) (tDisp1 tk tv) := by
  refine ⟨fun pins s σ H Q I q => ?_⟩
  have hn := I.hok.fresh (Nat.le_refl s.heap.objs.size)
  have I1 := I.laid (a := s.heap.objs.size) (o := .dT []) (h' := s.heap.push { cls := .type "dict", data := .dict #[] }) (t' := s.toks) (fun _ _ q => Heap.get?_push_of_some _ q) (Nat.le_refl _) (dt_empty s.heap I.big)
  have room : (tupleKind (mixKind X.prog X.w)).room X.A := by show X.A.units < cLine; omega
  refine disp_pairs (knd := tupleKind (mixKind X.prog X.w)) room (zip_pairTrees [some k] [v] X.env pos rfl rfl) (by simp [pairTrees]) (by simp [pairTrees]) ?_
  refine thn ((pps_cons hk hv pps_nil).run pins _ σ _ (fun ps H2 => match ps with
    | [(x, y)] => H2 s.heap.objs.size = some (.dT []) ∧ ∃ ks b, x = .ref b ∧ H2 b = some (.tup (ks.map kV)) ∧ Q (.ref s.heap.objs.size) (upd H2 s.heap.objs.size (.dT [(ks, y)]))
    | _ => False) I1 (q _ hn)) fun ws s2 ⟨ps, H2, I2, rel, e⟩ => ?_
  match ps, e with
  | [(x, y)], e =>
    obtain ⟨e1, ks, b, rfl, e2, q2⟩ := e
    cases rel with
    | @cons _ wp _ wr r1 r2 =>
      cases r2
      obtain ⟨kw, vw⟩ := wp
      cases (show kw = Value.ref b from r1.1)
      obtain ⟨z, hd, xs0, r0, dd⟩ := dt_of I2.hok e1
      cases r0
      refine ⟨[(ks, b, vw)], ⟨rfl, rfl, key_of I2.hok e2, True.intro⟩, dd, fun h' tk' dd' hs => ⟨.ref s.heap.objs.size, _, ?_, rfl, q2⟩⟩
      obtain ⟨o, es, ep, ho, h2, h3, h4, h5, h6⟩ := dd'
      refine d_write I2 (by rw [e1]; exact True.intro) hs ⟨o, ho⟩ ⟨by rw [List.length_singleton, sizeLine_eq]; decide, hd, [(ks, b, vw)], ?_, o, es, ep, ho, h2, h3, h4, h6⟩
      refine .cons ⟨rfl, ?_, r1.2⟩ .nil
      have nb : b ≠ s.heap.objs.size := fun z => by rw [z, e1] at e2; cases e2
      rw [upd_ne nb]
      exact e2
def disp1 (fk : Mm D) (fv : Mm D) : Mm Ex := fk >>= fun k => fv >>= fun d => if isK true k then pure ⟨.tmp, .dct true [(k, d)]⟩ else bad
theorem de_disp1 {k v : Expr} {pos : Pos} {n : Nat} {fk fv : Mm D} (hS : Std X W n) (hk : DF X W k fk) (hv : DF X W v fv) : DE X W (.Dict [some k] [v] pos) (disp1 fk fv) := by
  refine PE.imp (pe_disp1 (by have := hS.un; omega) hk hv) fun σ H Q ⟨τ, O, F, μ, r, h⟩ p hn => ?_
  have a0 := aft_newT (Aft.refl r) (p := p) (o := .dT []) hn
  have np : ¬ Mine ⟨τ, O, F, μ, σ, upd H p (.dT [])⟩ p := not_mine_new r hn
  have hF : F p = none := by
    cases e : F p with
    | none => rfl
    | some o =>
      have z : H p = some o := r.sub _ _ e
      rw [hn] at z
      cases z
  refine post_seq (c := ⟨τ, O, F, μ, σ, H⟩) (c1 := ⟨τ, O, F, μ, σ, upd H p (.dT [])⟩) a0 rfl h fun kd c2 x a2 hσ2 hx hp2 => ?_
  have hx' : Dat X.K X.mg c2.F c2.μ x kd := hx
  refine post_seq (c := ⟨τ, O, F, μ, σ, H⟩) (a0.trans a2) hσ2 hp2 fun d c3 y a3 hσ3 hy hp3 => ?_
  have hy' : Dat X.K X.mg c3.F c3.μ y d := hy
  have a23 := a2.trans a3
  cases hc : isK true kd with
  | false => simp only [hc] at hp3; exact hp3.elim
  | true =>
    simp only [hc, if_true] at hp3
    obtain ⟨f1, f2⟩ := a23.fr p _ upd_same np
    have f2' : c3.F p = none := f2.trans hF
    refine ⟨f1, ?_⟩
    have hx3 : Dat X.K X.mg c3.F c3.μ x kd := Dat.mono (a3.subF a2.rl) a3.mu _ _ hx'
    cases kd with
    | tup ds =>
      cases hx3 with
      | tup h1 h2 =>
        obtain ⟨ks, e1, rfl⟩ := keys_of h2 hc
        refine ⟨ks, _, rfl, a23.rl.sub _ _ h1, ?_⟩
        have nm : ¬ Mine c3 p := fun m => by
          rcases a23.mi p m with z | z
          · exact np z
          · have z' : upd H p (HO.dT []) p = none := z
            rw [upd_same] at z'
            cases z'
        -- the dict behind the display
        have a4 : Aft X.K X.mg ⟨τ, O, F, μ, σ, H⟩ { c3 with H := upd c3.H p (.dT [(ks, y)]) } := aft_junk (a0.trans a23) f2' nm hn
        exact post_ok (x := (⟨.tmp, .dct true [(.tup ds, d)]⟩ : Ex)) a4 hσ3 hp3 ⟨p, rfl, f2', .inr ⟨rfl, _, upd_same, .cons e1 hy' .nil⟩, nm, hn⟩
    | _ => cases hc
end
end DV
namespace DV
open PySem PySem.Spec PyProof.Rows L2
theorem PE.or {X : Cx} {e : Expr} {t t' : TE} (h : PE X e t) (h' : PE X e t') : PE X e (fun σ H Q => t σ H Q ∨ t' σ H Q) := ⟨fun pins s σ H Q I q => q.elim (fun q => h.run pins s σ H Q I q) fun q => h'.run pins s σ H Q I q⟩
section
variable {X : Cx} {W : WX}
/-! ### d.clear() -/
def rClearD : V → List V → Hp → VK → Prop := fun x vs H Q => ∃ a, x = .ref a ∧ vs = [] ∧ ((∃ kvs, H a = some (.dK kvs) ∧ Q .non (upd H a (.dK []))) ∨ ∃ kvs, H a = some (.dT kvs) ∧ Q .non (upd H a (.dT [])))
theorem mt_clearD : MtR X "dict.clear" rClearD := by
  intro pins s σ H x vs v us Q I rx rv ⟨a, ex, ev, h⟩
  subst ex ev
  cases (show v = Value.ref a from rx)
  cases rv
  rcases h with ⟨kvs, e, q⟩ | ⟨kvs, e, q⟩
  · exact d_clear I e fun s' I' => ⟨.non, _, I', rfl, q⟩
  · obtain ⟨z, hd, xs, rel, dd⟩ := dt_of I.hok e
    obtain ⟨o, es, ep, ho, h2, h3, h4, h5, h6⟩ := dd
    have hes : es.size ≤ sizeLine := by
      have : es.toList.length = xs.length := by rw [h4, List.length_map]
      rw [Array.length_toList] at this
      rw [this, ← Paired.length rel]
      exact z
    refine call_meetsIn PySem.F.slot_dict_clear ⟨o, ho, h2.1⟩ PySem.F.entry_dict_clear (PySem.F.args_dict_clear_1 _) (meets_dict_clear_raw a) ⟨es, ep, ⟨o, ho, h2, h3⟩, hes, fun h' dd' hs => ⟨.non, _, ?_, rfl, q⟩⟩
    obtain ⟨o', g1, g2, g3⟩ := dd'
    exact d_write (t' := s.toks) I (by rw [e]; exact True.intro) hs ⟨o', g1⟩ ⟨Nat.zero_le _, hd, [], .nil, o', #[], ep + 1, g1, g2, g3, rfl, List.nodup_nil⟩
def clearA (i : Nat) : Mm Ex := fun τ O => match τ[i]? with
  | some (some (true, .dct t _)) => .ok (fl .non) (τ.set i (some (true, .dct t []))) O
  | some (some (true, .lst _)) => .ok (fl .non) (τ.set i (some (true, .lst []))) O
  | _ => .bad
theorem de_clear (i : Nat) {x : Str} {p apos cpos : Pos} (hN : X.N[i]? = some x := by rfl) (hv : Vis X.env.scope x := by first | exact Or.inl rfl | exact Or.inr (Or.inl rfl) | exact Or.inr (Or.inr rfl)) (hd : (x == ("__debug__" : Str)) = false := by decide)
    (hcd : (x == ("__classdict__" : Str)) = false := by decide) (hbase : attributeBase (.Name x p) "clear" X.env (eval (.Name x p) X.env) = eval (.Name x p) X.env := by rfl) (hline : (apos.endLine == cpos.line) = true := by rfl) :
    DE X W (.Call (.Attribute (.Name x p) "clear" apos) [] [] cpos) (clearA i) := by
  refine PE.imp (PE.or (pe_bm0 PySem.F.plainAttrs_dict PySem.F.slot_dict_clear PySem.F.type_dict_clear mt_clearD (pe_var (i := i) hN hv hd hcd) hbase hline) (pe_bm0 PySem.F.plainAttrs_list PySem.F.slot_list_clear PySem.F.type_list_clear mt_clear (pe_var (i := i) hN hv hd hcd) hbase hline)) fun σ H Q ⟨τ, O, F, μ, r, h⟩ => ?_
  unfold clearA at h
  split at h
  · rename_i t kvs ht
    obtain ⟨l, e1, ho⟩ := own_dct r ht
    have e1' : σ[i]? = some (some (.ref l)) := e1
    left
    rcases ho with ⟨rfl, q, h1, h2⟩ | ⟨rfl, q, h1, h2⟩
    · have a' := aft_mut (Aft.refl r) (o' := .dK []) (d' := .dct false []) ht e1 (.inl ⟨rfl, _, upd_same, .nil⟩)
      exact ⟨.ref l, e1', .inr (.inr (.inl ⟨rfl, .inl ⟨q, h1⟩⟩)), l, rfl, rfl, .inl ⟨q, h1, post_ok (c := ⟨τ, O, F, μ, σ, H⟩) (x := fl .non) a' rfl h .non⟩⟩
    · have a' := aft_mut (Aft.refl r) (o' := .dT []) (d' := .dct true []) ht e1 (.inr ⟨rfl, _, upd_same, .nil⟩)
      exact ⟨.ref l, e1', .inr (.inr (.inl ⟨rfl, .inr ⟨q, h1⟩⟩)), l, rfl, rfl, .inr ⟨q, h1, post_ok (c := ⟨τ, O, F, μ, σ, H⟩) (x := fl .non) a' rfl h .non⟩⟩
  · rename_i ds ht
    obtain ⟨l, xs, e1, h1, h2⟩ := own_lst r ht
    have e1' : σ[i]? = some (some (.ref l)) := e1
    have a' := aft_mut (Aft.refl r) (o' := .lst []) (d' := .lst []) ht e1 ⟨[], upd_same, .nil⟩
    exact .inr ⟨.ref l, e1', .inl ⟨rfl, xs, .inl (.inl h1)⟩, l, xs, rfl, rfl, h1, post_ok (c := ⟨τ, O, F, μ, σ, H⟩) (x := fl .non) a' rfl h .non⟩
  · exact h.elim
/-! ### {} -/
theorem de_dictK {pos : Pos} : DE X W (.Dict [] [] pos) (pure ⟨.tmp, .dct false []⟩) := by
  refine PE.imp pe_dnewK fun σ H Q ⟨τ, O, F, μ, r, h⟩ p hn => ?_
  have hF : F p = none := by
    cases e : F p with
    | none => rfl
    | some o =>
      have z : H p = some o := r.sub _ _ e
      rw [hn] at z
      cases z
  have a0 := aft_newT (Aft.refl r) (p := p) (o := .dK []) hn
  exact post_ok (c := ⟨τ, O, F, μ, σ, H⟩) (x := (⟨.tmp, .dct false []⟩ : Ex)) a0 rfl h ⟨p, rfl, hF, .inl ⟨rfl, _, upd_same, .nil⟩, not_mine_new r hn, hn⟩
theorem de_dictT {pos : Pos} : DE X W (.Dict [] [] pos) (pure ⟨.tmp, .dct true []⟩) := by
  refine PE.imp pe_dnewT fun σ H Q ⟨τ, O, F, μ, r, h⟩ p hn => ?_
  have hF : F p = none := by
    cases e : F p with
    | none => rfl
    | some o =>
      have z : H p = some o := r.sub _ _ e
      rw [hn] at z
      cases z
  have a0 := aft_newT (Aft.refl r) (p := p) (o := .dT []) hn
  exact post_ok (c := ⟨τ, O, F, μ, σ, H⟩) (x := (⟨.tmp, .dct true []⟩ : Ex)) a0 rfl h ⟨p, rfl, hF, .inr ⟨rfl, _, upd_same, .nil⟩, not_mine_new r hn, hn⟩
/-! ### keywords -/
theorem dk_nil : DKs X W [] (pure []) := ⟨fun pos pins s σ H Q I ⟨τ, O, F, μ, r, h⟩ => pk_nil.run pos pins s σ H Q I (h [] H F μ (Aft.refl r) .nil)⟩
theorem dk_cons {nm : Option Str} {e : Expr} {kpos : Pos} {kws : List Keyword} {f : Mm Ex} {g : Mm (List Ex)} (ha : DE X W e f) (hr : DKs X W kws g) : DKs X W (⟨nm, e, kpos⟩ :: kws) (f >>= fun x => g >>= fun xs => pure (x :: xs)) := by
  refine ⟨fun pos pins s σ H Q I q => (pk_cons ha hr).run pos pins s σ H Q I ?_⟩
  refine post_fst q fun c x c2 y r hσ hH a2 hσ2 v hp => ?_
  rw [← hσ]
  refine post_seq a2 hσ2 hp fun xs c3 ys a3 hσ3 vs hp3 => ?_
  exact post_ok (a2.trans a3) hσ3 hp3 (.cons (ExV.aft a2.rl v a3 (hσ3.trans hσ2.symm)) (vs.from a2) (ExVs.apart v vs))
theorem dk_consF {nm : Option Str} {e : Expr} {kpos : Pos} {kws : List Keyword} {f : Mm D} {g : Mm (List Ex)} (ha : DF X W e f) (hr : DKs X W kws g) : DKs X W (⟨nm, e, kpos⟩ :: kws) (f >>= fun x => g >>= fun xs => pure (⟨.frz, x⟩ :: xs)) := by
  refine ⟨fun pos pins s σ H Q I q => (pk_cons ha hr).run pos pins s σ H Q I ?_⟩
  refine post_fst q fun c x c2 y r hσ hH a2 hσ2 v hp => ?_
  rw [← hσ]
  refine post_seq a2 hσ2 hp fun xs c3 ys a3 hσ3 vs hp3 => ?_
  exact post_ok (a2.trans a3) hσ3 hp3 (.cons (x := ⟨.frz, x⟩) (Dat.mono (a3.subF a2.rl) a3.mu _ _ v) (vs.from a2) (fun _ z => by cases z))
/-! ### a dict of the module -/
/-- what stands in the module's dict nm -/
structure KT (K : PySem.W.Frag) (w : World) (mg : Str → Option Value) (nm : Str) (tbl : List (Str × D)) : Prop where
  ex : ∃ (d : Addr) (es : Array DictEntry) (n : Nat), mg nm = some (.ref d) ∧ KDict K w d es n ∧ ∀ z : Str, (tbl.lookup z = none → PySem.W.nsIn K d z = some none) ∧
    ∀ y, tbl.lookup z = some y → ∃ u v, PySem.W.nsIn K d z = some (some u) ∧ RelV v u ∧ ∀ F μ, Dat K mg F μ v y
def kinO (nm : Str) (tbl : List (Str × D)) (x y : D) : Option Bool := match x, y with
  | .str z, .fn n => if n == nm then some (tbl.lookup z).isSome else none
  | _, _ => none
def kgetO (nm : Str) (tbl : List (Str × D)) (x y : D) : Option D := match x, y with
  | .fn n, .str z => if n == nm then tbl.lookup z else none
  | _, _ => none
def kinD (nm : Str) (tbl : List (Str × D)) (x y : D) : Mm Ex := opt (kinO nm tbl x y) >>= fun k => blE k
def kninD (nm : Str) (tbl : List (Str × D)) (x y : D) : Mm Ex := opt (kinO nm tbl x y) >>= fun k => blE (!k)
def kgetD (nm : Str) (tbl : List (Str × D)) (x y : D) : Mm Ex := opt (kgetO nm tbl x y) >>= fun d => pure (fl d)
theorem de_gF {x : Str} {pos : Pos} (h : ∃ a, X.mg x = some (.ref a)) (hg : Gl X x := by rfl) (hdb : (x == ("__debug__" : Str)) = false := by decide) : DE X W (.Name x pos) (cst (.fn x)) := by
  obtain ⟨a, h⟩ := h
  exact de_glob (v := .ref a) h rfl (fun _ _ => .fn h) hg hdb
theorem KT.ref {K : PySem.W.Frag} {w : World} {mg : Str → Option Value} {nm : Str} {tbl : List (Str × D)} (h : KT K w mg nm tbl) : ∃ a, mg nm = some (.ref a) := by
  obtain ⟨d, _, _, e, _⟩ := h.ex
  exact ⟨d, e⟩
theorem fn_at {K : PySem.W.Frag} {mg : Str → Option Value} {c : Cf} {v : V} {x : Str} {d : Addr} (h : RdV K mg c v (.fn x)) (e : mg x = some (.ref d)) : v = .ref d := by
  cases h.frz (fun _ => nofun) (fun _ => nofun) with
  | fn h1 =>
    rw [e] at h1
    cases h1
    rfl
theorem kinO_of {nm : Str} {tbl : List (Str × D)} {x y : D} {k : Bool} (h : kinO nm tbl x y = some k) : ∃ z, x = .str z ∧ y = .fn nm ∧ (tbl.lookup z).isSome = k := by
  unfold kinO at h
  split at h
  · split at h
    · rename_i z n hn
      exact ⟨z, rfl, by rw [eq_of_beq hn], Option.some.inj h⟩
    · cases h
  · cases h
theorem bi_kin {nm : Str} {tbl : List (Str × D)} (h : KT X.K X.w X.mg nm tbl) : Bi X W (compareOp .In) (kinD nm tbl) := by
  obtain ⟨d, es, n, hm, kd, ht⟩ := h.ex
  refine ⟨_, op_in_kd kd, fun c0 c u v dx dy Q a hσ ru rv h => ?_⟩
  obtain ⟨k, e, hp⟩ := post_opt h
  obtain ⟨z, rfl, rfl, e2⟩ := kinO_of e
  have hr := fn_at rv hm
  cases q : tbl.lookup z with
  | none =>
    rw [q] at e2
    refine ⟨z, none, ru.str, hr, (ht z).1 q, ?_⟩
    rw [show (none : Option Value).isSome = k from e2]
    exact post_fl a hσ hp rfl
  | some y =>
    rw [q] at e2
    obtain ⟨u', v', e3, _⟩ := (ht z).2 y q
    refine ⟨z, some u', ru.str, hr, e3, ?_⟩
    rw [show (some u' : Option Value).isSome = k from e2]
    exact post_fl a hσ hp rfl
theorem bi_knin {nm : Str} {tbl : List (Str × D)} (h : KT X.K X.w X.mg nm tbl) : Bi X W (compareOp .NotIn) (kninD nm tbl) := by
  obtain ⟨d, es, n, hm, kd, ht⟩ := h.ex
  refine ⟨_, op_notIn_kd kd, fun c0 c u v dx dy Q a hσ ru rv h => ?_⟩
  obtain ⟨k, e, hp⟩ := post_opt h
  obtain ⟨z, rfl, rfl, e2⟩ := kinO_of e
  have hr := fn_at rv hm
  cases q : tbl.lookup z with
  | none =>
    rw [q] at e2
    refine ⟨z, none, ru.str, hr, (ht z).1 q, ?_⟩
    rw [show (none : Option Value).isSome = k from e2]
    exact post_fl a hσ hp rfl
  | some y =>
    rw [q] at e2
    obtain ⟨u', v', e3, _⟩ := (ht z).2 y q
    refine ⟨z, some u', ru.str, hr, e3, ?_⟩
    rw [show (some u' : Option Value).isSome = k from e2]
    exact post_fl a hσ hp rfl
theorem ix_kget {nm : Str} {tbl : List (Str × D)} (h : KT X.K X.w X.mg nm tbl) : Ix X W (kgetD nm tbl) := by
  obtain ⟨d, es, n, hm, kd, ht⟩ := h.ex
  refine ⟨_, ix_kdict, fun c0 c u v dx dy Q a hσ ru rv h => ?_⟩
  obtain ⟨y, e, hp⟩ := post_opt h
  unfold kgetO at e
  split at e
  · split at e
    · rename_i n' z hn
      have en := eq_of_beq hn
      subst en
      obtain ⟨u', v', e3, e4, e5⟩ := (ht z).2 y e
      exact ⟨d, z, v', fn_at ru hm, rv.str, ⟨es, n, u', kd.at_, kd.lit, e3, e4⟩, post_ok (x := fl y) a hσ hp (e5 _ _)⟩
    · cases e
  · cases e
/-! ### isinstance(x, C), C an own class -/
/-- what isinstance says of each kind, and of objects of the classes cs -/
structure IsF (K : PySem.W.Frag) (mg : Str → Option Value) (c : Str) (cs : List (Str × Bool)) : Prop where
  ref : ∃ C, mg c = some (.ref C) ∧ (∀ T ∈ ["NoneType", "int", "str", "bool", "tuple", "list", "dict"], PySem.W.kitOne K (.type T) (.ref C) = some false) ∧
    ∀ c' b, cs.lookup c' = some b → ∃ C', mg c' = some (.ref C') ∧ Cls K C' ∧ PySem.W.kitOne K (.ref C') (.ref C) = some b ∧ PySem.W.findIn K (.ref C') "__class__" = some (some (.builtin "object.__class__")) ∧
      PySem.W.specialIn K (.builtin "object.__class__") "__get__" = some (some (.builtin "getset_descriptor.__get__")) ∧ PySem.W.takesIn K (.builtin "object.__class__") = some true ∧ PySem.W.mroIn K C' (.type "object") = some true
def isiC (cs : List (Str × Bool)) (d : D) : Mm Ex := fun τ O => match d with
  | .ref i => match O[i]? with
    | some (c', _) => match cs.lookup c' with
      | some b => .ok (fl (.bl b)) τ O
      | none => .bad
    | none => .bad
  | d => if (tyN d).isSome then .ok (fl (.bl false)) τ O else .bad
theorem tyN_mem {d : D} {a : String} (h : tyN d = some a) : a ∈ ["NoneType", "int", "str", "bool", "tuple", "list", "dict"] := by
  cases d with
  | dct t kvs => cases t <;> cases h <;> decide
  | _ => cases h <;> decide
theorem de_isiC {x c : Str} {cs : List (Str × Bool)} {p p2 pos : Pos} {e : Expr} {f : Mm Ex} (ha : DE X W e f) (hx : x = ("isinstance" : Str)) (hm : X.mg x = none) (hF : IsF X.K X.mg c cs) (hg : Gl X x := by rfl) (hg2 : Gl X c := by rfl)
    (hdb2 : (c == ("__debug__" : Str)) = false := by decide) (hs : starEach (e :: [.Name c p2]) X.env = (false, eval e X.env) :: starEach [.Name c p2] X.env := by rfl)
    (hs2 : starEach [.Name c p2] X.env = (false, eval (.Name c p2) X.env) :: starEach [] X.env := by rfl) (hpl : (backTo pos (starEach [.Name c p2] X.env)).any (·.1) = false := by rfl) :
    DE X W (.Call (.Name x p) [e, .Name c p2] [] pos) (f >>= fun x => rd x >>= fun d => isiC cs d) := by
  subst hx
  obtain ⟨C, hC, hT, hO⟩ := hF.ref
  refine PE.imp (pe_callB call_isi hg hm boot_isinstance (pa_cons ha (pa_cons (pe_glob (v := .ref C) hg2 hC rfl hdb2) pa_nil hs2) hs) (by decide) (by decide) hs hpl) fun σ H Q q => ?_
  refine post_fst q fun c1 x c2 u rl hσ hH a2 hσ2 hx hp => ?_
  obtain ⟨d, rx, hp2⟩ := rd_okS a2.rl hx hp
  have flatcase : (tyN d).isSome = true → Post X.K X.mg W (ExV X.K X.mg) c1 ((pure (fl (.bl false)) : Mm Ex) c2.τ c2.O) Q → rIsi X.K [u, V.ref C] c2.H Q := fun ht hq => by
    obtain ⟨a, ea⟩ := Option.isSome_iff_exists.mp ht
    exact ⟨u, .ref C, .type a, .ref C, false, rfl, .own C, tyx_of a2.rl rx ea, hT a (tyN_mem ea), post_fl a2 hσ2 hq rfl⟩
  unfold isiC at hp2
  split at hp2
  · split at hp2
    · rename_i i c' fs ho
      split at hp2
      · rename_i b hb
        obtain ⟨a, C1, dx, fvs, rfl, h1, h2, h3, h4⟩ := obj_at a2.rl rx ho (by obtain ⟨C', e1, _⟩ := hO c' b hb; rw [e1]; rfl)
        obtain ⟨C', e1, e2, e3, e4, e5, e6, e7⟩ := hO c' b hb
        rw [h2] at e1
        cases e1
        exact ⟨.ref a, .ref C, .ref C1, .ref C, b, rfl, .own C, .base (.ins h3 e2 e4 e5 e6 e7), e3, post_fl a2 hσ2 hp2 rfl⟩
      · exact hp2.elim
    · exact hp2.elim
  · split at hp2
    · rename_i ht
      exact flatcase ht hp2
    · exact hp2.elim
end
end DV
namespace DV
open PySem PySem.Spec PyProof.Rows L2
/-- a tuple target inside a comprehension -/
theorem dg_tupB {X : Cx} {s : Shared} {H : Hp} {scope : Scope} {env : Env} {fp : List Addr} {pin : List Nat} {es : List Expr} {fs : List (D → Mm Unit)} {k : Nat} {pos : Pos} {g : TGs} (n : Nat) (hc : X.calm = true) (h : DGs (X.blk s H scope env fp) pin es fs g) (hn : (assignEach es (X.blk s H scope env fp).env).length = n := by rfl) (hst : (assignEach es (X.blk s H scope env fp).env).findIdx? (·.1) = none := by rfl) : DG (X.blk s H scope env fp) pin (.Tuple es k pos) (unpT n fs) (gSeq X.K n g) :=
  dg_tup (X := X.blk s H scope env fp) n hc h hn hst
theorem all_nil {α : Type} {p : α → Prop} : ∀ c ∈ ([] : List α), p c := nofun
theorem all_cons {α : Type} {p : α → Prop} {a : α} {l : List α} (h : p a) (t : ∀ c ∈ l, p c) : ∀ c ∈ a :: l, p c := List.forall_mem_cons.2 ⟨h, t⟩
end DV
namespace DV
open PySem PySem.Spec PyProof.Rows L2
/-! ### head: what the module's dict holds -/
theorem key_miss {P : Params} {z : Str} : ∀ {l : List DictEntry} {ks : List Str}, l.map He.keyOf = He.keysIn P ks → z ∉ ks → l.find? (fun e => e.key.isStr z) = none ∧ l.any (fun e => e.refKey) = false
  | [], _, _, _ => ⟨rfl, rfl⟩
  | e :: r, [], h, _ => by cases h
  | e :: r, k :: ks, h, hz => by
    have h1 : He.keyOf e :: r.map He.keyOf = some (k, PyData.keyHash P k) :: He.keysIn P ks := h
    injection h1 with h2 h3
    obtain ⟨e1, e2⟩ := key_miss h3 fun z => hz (List.mem_cons_of_mem _ z)
    have hk : z ≠ k := fun q => hz (by rw [q]; exact List.mem_cons_self ..)
    unfold He.keyOf at h2
    split at h2
    · rename_i x t q
      have h4 := (Prod.mk.inj (Option.some.inj h2)).1
      have n1 : e.key.isStr z = false := by
        rw [q]
        show (x == z) = false
        rw [h4]
        exact beq_eq_false_iff_ne.2 (Ne.symm hk)
      have n2 : e.refKey = false := by
        unfold DictEntry.refKey
        rw [q]
      refine ⟨?_, ?_⟩
      · rw [List.find?_cons, n1]
        exact e1
      · rw [List.any_cons, n2, e2]
        rfl
    · cases h2
theorem dic_miss {K : PySem.W.Frag} {w : World} {a : Addr} {ks : List Str} {z : Str} (h : He.dicW K a = some (He.keysIn w.params ks)) (hz : z ∉ ks) : PySem.W.nsIn K a z = some none := by
  unfold He.dicW at h
  split at h
  · rename_i c es n sl hl
    split at h
    · obtain ⟨e1, e2⟩ := key_miss (Option.some.inj h) hz
      unfold PySem.W.nsIn
      rw [hl]
      show (match es.toList.find? (fun e => e.key.isStr z) with
        | some e => some (some e.val)
        | none => if es.toList.any (fun e => e.refKey) then none else some none) = some none
      rw [e1, e2]
      rfl
    · cases h
  · cases h
def ktB (K : PySem.W.Frag) (nm : Str) (tbl : List (Str × D)) : Bool := tbl.all fun q => flat q.2 && match PySem.W.nsIn K (He.ga K nm) q.1 with
  | some (some u) => He.relB (vof q.2) u
  | _ => false
theorem look_mem {α β : Type} [BEq α] [LawfulBEq α] {z : α} {y : β} : ∀ {l : List (α × β)}, l.lookup z = some y → (z, y) ∈ l
  | [], h => by cases h
  | (a, b) :: r, h => by
    rw [List.lookup_cons] at h
    split at h
    · rename_i q
      cases h
      rw [eq_of_beq q]
      exact List.mem_cons_self ..
    · exact List.mem_cons_of_mem _ (look_mem h)
theorem look_none {α β : Type} [BEq α] [LawfulBEq α] {z : α} : ∀ {l : List (α × β)}, l.lookup z = none → z ∉ l.map (·.1)
  | [], _ => by simp
  | (a, b) :: r, h => by
    rw [List.lookup_cons] at h
    split at h
    · cases h
    · rename_i q
      intro hm
      rcases List.mem_cons.1 hm with e | e
      · rw [e] at q
        simp at q
      · exact look_none h e
theorem kt_of {K : PySem.W.Frag} {w : World} {mg : Str → Option Value} {nm : Str} {tbl : List (Str × D)} (hm : mg nm = some (.ref (He.ga K nm))) (hd : He.dicW K (He.ga K nm) = some (He.keysIn w.params (tbl.map (·.1)))) (hb : ktB K nm tbl = true) : KT K w mg nm tbl := by
  obtain ⟨es, n, kd⟩ := He.dicW_ok hd
  refine ⟨⟨_, es, n, hm, kd, fun z => ⟨fun h => dic_miss hd (look_none h), fun y h => ?_⟩⟩⟩
  have q := List.all_eq_true.1 hb _ (look_mem h)
  rw [Bool.and_eq_true] at q
  obtain ⟨q1, q2⟩ := q
  split at q2
  · rename_i u e
    exact ⟨u, vof y, e, He.relB_ok q2, fun F μ => dat_flat q1⟩
  · cases q2
/-! ### isinstance of an own class -/
def isfB (K : PySem.W.Frag) (c : Str) (cs : List (Str × Bool)) : Bool := (["NoneType", "int", "str", "bool", "tuple", "list", "dict"].all fun T => decide (PySem.W.kitOne K (.type T) (.ref (He.ga K c)) = some false)) &&
  cs.all fun q => decide (PySem.W.kitOne K (.ref (He.ga K q.1)) (.ref (He.ga K c)) = some q.2) && (decide (PySem.W.findIn K (.ref (He.ga K q.1)) "__class__" = some (some (.builtin "object.__class__"))) &&
    (decide (PySem.W.specialIn K (.builtin "object.__class__") "__get__" = some (some (.builtin "getset_descriptor.__get__"))) && (decide (PySem.W.takesIn K (.builtin "object.__class__") = some true) && decide (PySem.W.mroIn K (He.ga K q.1) (.type "object") = some true))))
theorem isf_of {K : PySem.W.Frag} {mg : Str → Option Value} {c : Str} {cs : List (Str × Bool)} (hc : mg c = some (.ref (He.ga K c))) (hg : ∀ q ∈ cs, mg q.1 = some (.ref (He.ga K q.1)) ∧ Cls K (He.ga K q.1)) (hb : isfB K c cs = true) : IsF K mg c cs := by
  unfold isfB at hb
  rw [Bool.and_eq_true] at hb
  obtain ⟨b1, b2⟩ := hb
  refine ⟨⟨_, hc, fun T hT => of_decide_eq_true (List.all_eq_true.1 b1 T hT), fun c' b h => ?_⟩⟩
  have q := List.all_eq_true.1 b2 _ (look_mem h)
  simp only [Bool.and_eq_true, decide_eq_true_eq] at q
  obtain ⟨q1, q2, q3, q4, q5⟩ := q
  obtain ⟨g1, g2⟩ := hg _ (look_mem h)
  exact ⟨_, g1, g2, q1, q2, q3, q4, q5⟩
end DV
namespace DV
open PySem PySem.Spec PyProof.Rows L2
/-! ### head: defs behind a property or a classmethod -/
/-- the def of record kind T (property, classmethod) named n in class c -/
structure GD where
  c : Str
  n : Str
  T : String
  st : Stmt
  qual : Str
def cmRec (K : PySem.W.Frag) (C : Addr) (n : Str) : Addr := match PySem.W.findCls K (.ref C) (.type "type") n with
  | some (.get _ (.ref p) _ _) => p
  | _ => 0
def GD.rc (K : PySem.W.Frag) (g : GD) : Addr := if g.T = "property" then He.ma K (He.ga K g.c) g.n else cmRec K (He.ga K g.c) g.n
def GD.ad (K : PySem.W.Frag) (g : GD) : Addr := match PySem.W.recIn K (g.rc K) g.T with
  | some (.ref f :: _) => f
  | _ => 0
def fnAt (K : PySem.W.Frag) (a : Addr) : He.FnW := (K.lookup a).bind fun o => match o.data with
  | .func d => some (d.name, d.qualname, d.params, d.body, d.scope, d.globals, d.closure, d.builtins)
  | _ => none
def GD.val (g : GD) : He.FnW := some (g.n, g.qual, defArgs g.st, .stmts (defBody g.st), defScope g.st, mainGlobals, [], builtinsNs)
def GD.ok (K : PySem.W.Frag) (g : GD) : Bool := PySem.W.keepIn K (.ref (g.ad K)) && (match K.lookup (g.ad K) with
  | some o => (match o.data with
    | .func d => PySem.W.codeIn K d.code g.qual && (He.dflB K d.defaults [] && He.kwdB K d.kwdefaults [])
    | _ => false)
  | none => false) && (if g.T = "property" then PySem.W.findIn K (.ref (He.ga K g.c)) g.n == some (some (.ref (g.rc K))) && (PySem.W.specialIn K (.ref (g.rc K)) "__get__" == some (some (.builtin "property.__get__")) && PySem.W.takesIn K (.ref (g.rc K)) == some true)
  else PySem.W.readsIn K (He.ga K g.c) (.type "type") && (PySem.W.specialIn K (.ref (He.ga K g.c)) "__getattribute__" == some (some (.builtin "type.__getattribute__")) && (PySem.W.fnIn K (g.ad K) &&
      (match PySem.W.findCls K (.ref (He.ga K g.c)) (.type "type") g.n with
      | some (.get b r i o) => b == .builtin "classmethod.__get__" && (r == .ref (g.rc K) && (i == .none && o == .ref (He.ga K g.c)))
      | _ => false)))) && (match PySem.W.recIn K (g.rc K) g.T with
  | some (.ref f :: _) => f == g.ad K
  | _ => false)
theorem GD.funD {K : PySem.W.Frag} {g : GD} (e : fnAt K (g.ad K) = g.val) (c : g.ok K = true) : ∃ fd, FunD K g.n g.qual (defArgs g.st) (defBody g.st) (defScope g.st) [] [] (g.ad K) fd := by
  unfold GD.ok at c
  rw [Bool.and_eq_true, Bool.and_eq_true, Bool.and_eq_true] at c
  obtain ⟨⟨⟨kp, c2⟩, _⟩, _⟩ := c
  unfold fnAt at e
  cases q : K.lookup (g.ad K) with
  | none =>
    rw [q] at c2
    cases c2
  | some o =>
    obtain ⟨oc, od, dt, osl⟩ := o
    rw [q] at c2 e
    cases dt with
    | func fd =>
      obtain ⟨a1, a2, a3, a4, a5, a6, a7, b1, b2, b3, b4, b5, b6, b7, a8⟩ := fd
      simp only [Option.bind, GD.val, Option.some.injEq, Prod.mk.injEq] at e
      obtain ⟨h1, h2, h3, h4, h5, h6, h7, h8⟩ := e
      subst h1 h2 h3 h4 h5 h6 h7 h8
      simp only [Bool.and_eq_true] at c2
      exact ⟨_, ⟨oc, od, b1, b2, b3, b4, b5, b6, b7, osl, rfl, q, c2.1, He.dflB_ok c2.2.1, He.kwdB_ok c2.2.2⟩, kp⟩
    | _ => cases c2
theorem GD.rec_ {K : PySem.W.Frag} {g : GD} (c : g.ok K = true) : ∃ rest, PySem.W.recIn K (g.rc K) g.T = some (.ref (g.ad K) :: rest) := by
  unfold GD.ok at c
  rw [Bool.and_eq_true] at c
  have h := c.2
  split at h
  · rename_i f r e
    exact ⟨r, by rw [e, eq_of_beq h]⟩
  · cases h
theorem GD.prop {K : PySem.W.Frag} {g : GD} (c : g.ok K = true) (hT : g.T = "property") : PropOf K (He.ga K g.c) g.n (g.rc K) (g.ad K) := by
  obtain ⟨r, hr⟩ := GD.rec_ c
  unfold GD.ok at c
  rw [if_pos hT] at c
  rw [hT] at hr
  simp only [Bool.and_eq_true, beq_iff_eq] at c
  obtain ⟨⟨_, c1, c2, c3⟩, _⟩ := c
  exact ⟨c1, c2, c3, r, hr⟩
theorem GD.cm {K : PySem.W.Frag} {g : GD} (c : g.ok K = true) (hT : g.T = "classmethod") : ClX.CRead K (He.ga K g.c) (.type "type") ∧ ClX.CMet K (He.ga K g.c) (.type "type") g.n (g.rc K) (g.ad K) := by
  obtain ⟨r, hr⟩ := GD.rec_ c
  unfold GD.ok at c
  rw [if_neg (by rw [hT]; decide)] at c
  rw [hT] at hr
  simp only [Bool.and_eq_true, beq_iff_eq] at c
  obtain ⟨⟨_, c1, c2, c3, c4⟩, _⟩ := c
  split at c4
  · rename_i b r' i o e
    simp only [Bool.and_eq_true, beq_iff_eq] at c4
    obtain ⟨d1, d2, d3, d4⟩ := c4
    subst d1 d2 d3 d4
    exact ⟨⟨c1, c2⟩, ⟨e, ⟨r, hr⟩, c3⟩⟩
  · cases c4
/-! ### the hook -/
abbrev AlY : Type := He.AlX × List He.FnW
/-- what the top's names reach, and the statics -/
def frY (g : Addr → Option Obj) (n : Nat) : PySem.W.Frag := He.frT g (PySem.cStatics :: He.asD g n)
def obsY (n : Nat) (fa : List He.Fa) (fn : List He.DefD) (ts : List He.Tab) (gs : List GD) (ex : PySem.W.Frag → Bool) (g : Addr → Option Obj) : AlY :=
  ((He.obsT fa fn ts (frY g n), ex (frY g n) && gs.all fun d => d.ok (frY g n)), gs.map fun d => fnAt (frY g n) (d.ad (frY g n)))
structure SaysY (fa : List He.Fa) (fn : List He.DefD) (ts : List He.Tab) (gs : List GD) (ex : PySem.W.Frag → Bool) (w : World) (h : Heap) (K : PySem.W.Frag) : Prop where
  x : He.SaysX fa fn ts [] (fun K => ex K && gs.all fun d => d.ok K) w h K
  g : gs.map (fun d => fnAt K (d.ad K)) = gs.map GD.val
def hookY (n : Nat) (fa : List He.Fa) (fn : List He.DefD) (ts : List He.Tab) (gs : List GD) (ex : PySem.W.Frag → Bool) : PySem.W.Hook where
  α := AlY
  obs := fun s => obsY n fa fn ts gs ex s.heap.get?
  val := fun w => (He.valX fn ts w, gs.map GD.val)
  says := fun w h => ∃ K : PySem.W.Frag, K.In h ∧ SaysY fa fn ts gs ex w h K
  of := fun _ _ e => ⟨_, He.frT_in, ⟨⟨congrArg (fun z : AlY => z.1.1) e, congrArg (fun z : AlY => z.1.2) e, fun p hp => (by cases hp), fun p hp => (by cases hp), fun p hp => (by cases hp)⟩, congrArg Prod.snd e⟩⟩
  keeps := fun _ _ _ ⟨K, hK, c⟩ k => ⟨K, PySem.W.Frag.In.keeps hK k, ⟨⟨c.x.t, c.x.more, c.x.hd, c.x.out, fun p hp => k _ _ (c.x.empty p hp)⟩, c.g⟩⟩
theorem obsY_eq {n : Nat} {fa : List He.Fa} {fn : List He.DefD} {ts : List He.Tab} {gs : List GD} {ex : PySem.W.Frag → Bool} {g : Addr → Option Obj} {s : Shared} (h : ∀ a, g a = s.heap.get? a) : obsY n fa fn ts gs ex g = (hookY n fa fn ts gs ex).obs s := by
  rw [show g = s.heap.get? from funext h]
  rfl
section
variable {fa : List He.Fa} {fn : List He.DefD} {ts : List He.Tab} {gs : List GD} {ex : PySem.W.Frag → Bool} {w : World} {h : Heap} {K : PySem.W.Frag}
theorem SaysY.ex_ (c : SaysY fa fn ts gs ex w h K) : ex K = true := (Bool.and_eq_true_iff.1 c.x.more).1
theorem SaysY.gok (c : SaysY fa fn ts gs ex w h K) {d : GD} (hd : d ∈ gs) : d.ok K = true := List.all_eq_true.1 (Bool.and_eq_true_iff.1 c.x.more).2 d hd
theorem SaysY.gfn (c : SaysY fa fn ts gs ex w h K) {d : GD} (hd : d ∈ gs) : ∃ fd, FunD K d.n d.qual (defArgs d.st) (defBody d.st) (defScope d.st) [] [] (d.ad K) fd :=
  GD.funD (List.map_inj_left.1 c.g d hd) (c.gok hd)
theorem SaysY.tab (c : SaysY fa fn ts gs ex w h K) {t : He.Tab} (ht : t ∈ ts) : He.dicW K (t.1 K) = some (He.keysIn w.params t.2) := by
  have e : ts.map (fun t => He.dicW K (t.1 K)) = ts.map (fun t => some (He.keysIn w.params t.2)) := congrArg Prod.snd c.x.t
  exact List.map_inj_left.1 e t ht
end
end DV
namespace DV
open PySem PySem.Spec PyProof.Rows L2
section
variable {K : PySem.W.Frag} {x qual : Str} {params : Arguments} {body : List Stmt} {scope : Scope} {dvs : List V} {kws : List (Str × V)} {f : Addr} {fd : FuncData} {ps : List Str}
/-- a call with keywords; the defaults behind the first j fill up -/
theorem kwb_of (F : FunD K x qual params body scope dvs kws f fd) (n j : Nat) (ks : List Str) (hd : dvs ≠ [])
    (h : ∀ (T : Addr) (kV doc pm : Value) (an : Option Addr) (cdv ct : Value) (us ws its : List Value), us.length = n → ws.length = ks.length → its.length = dvs.length →
      ∃ k, bindArgs (PySem.W.fnOf x qual params body scope (.ref T) kV doc pm an cdv ct) ⟨us, ks.zip ws⟩ = seqItems? (.ref T) >>= k ∧ k (some its.toArray) = pure (ps.zip (us ++ ws ++ its.drop j))) : ∃ ds, Vals (dvs.drop j) ds ∧ KwB K fd ps n ks ds := by
  obtain ⟨_, _, _, kV, doc, pm, an, cdv, ct, _, rfl, _, _, hD, _⟩ := F.ex
  rcases hD with ⟨e, _⟩ | ⟨_, T, o, its, m, rfl, lT, oT, rT⟩
  · exact absurd e hd
  · refine ⟨its.drop j, rT.drop j, fun s us ws X l2 l3 => BindsTo.of_looks fun M => ?_⟩
    obtain ⟨k, e1, e2⟩ := h T kV doc pm an cdv ct us ws its l2 l3 rT.length.symm
    rw [e1]
    exact looks_items X lT oT (.of_pure e2)
/-- a def f(p, *r) -/
theorem star_of (F : FunD K x qual params body scope [] kws f fd) {p1 pv : Str}
    (h : ∀ (kV doc pm : Value) (an : Option Addr) (cdv ct : Value) (us rest : List Value), us.length = 1 → bindArgs (PySem.W.fnOf x qual params body scope .none kV doc pm an cdv ct) ⟨us ++ rest, []⟩ = (newTuple rest >>= fun t => pure ([p1].zip us ++ [(pv, t)]))) :
    ∀ us rest : List Value, us.length = 1 → bindArgs fd ⟨us ++ rest, []⟩ = (newTuple rest >>= fun t => pure ([p1].zip us ++ [(pv, t)])) := by
  obtain ⟨_, _, _, kV, doc, pm, an, cdv, ct, _, rfl, _, _, hD, _⟩ := F.ex
  rcases hD with ⟨_, rfl⟩ | ⟨e, _⟩
  · exact h kV doc pm an cdv ct
  · exact absurd rfl e
/-- the law's plain end -/
def okk : Out → Bool
  | .ret _ (.bl true) _ _ => true
  | _ => false
theorem lawTrue_of {m : Mir} {n : Nat} (h1 : m.ar = 1) (h2 : m.io = none) (h : ∀ ns : List Int, okk (m.fn [.scr ns] []) = true) : LawTrue m n := by
  refine ⟨h1, h2, fun ns _ => ?_⟩
  have q := h ns
  unfold okk at q
  split at q
  · rename_i b d O e
    exact ⟨b, d, O, e⟩
  · cases q
end
end DV
namespace DV
open PySem PySem.Spec PyProof.Rows L2
/-! ### plain reasoning: what a mirror's part must bring about -/
def Wp {α : Type} (m : Mm α) (τ : Sto) (O : Ob) (Q : α → Sto → Ob → Prop) : Prop := match m τ O with
  | .ok x τ' O' => Q x τ' O'
  | _ => False
theorem Wp_congr {α : Type} {m m' : Mm α} {τ τ' : Sto} {O : Ob} {Q : α → Sto → Ob → Prop} (h : m = m') (h2 : τ = τ') : Wp m τ O Q = Wp m' τ' O Q := by rw [h, h2]
theorem Wp.imp {α : Type} {m : Mm α} {τ : Sto} {O : Ob} {Q Q' : α → Sto → Ob → Prop} (h : Wp m τ O Q) (k : ∀ x τ' O', Q x τ' O' → Q' x τ' O') : Wp m τ O Q' := by
  unfold Wp at *
  split at h
  · exact k _ _ _ h
  · exact h.elim
theorem Wp.ok {α : Type} {m : Mm α} {τ : Sto} {O : Ob} {Q : α → Sto → Ob → Prop} (h : Wp m τ O Q) : ∃ x τ' O', m τ O = .ok x τ' O' ∧ Q x τ' O' := by
  unfold Wp at h
  split at h
  · exact ⟨_, _, _, by assumption, h⟩
  · exact h.elim
section
variable {α β : Type} {τ : Sto} {O : Ob}
theorem wp_bind {m : Mm α} {f : α → Mm β} {Q : β → Sto → Ob → Prop} : Wp (m >>= f) τ O Q = Wp m τ O fun x τ' O' => Wp (f x) τ' O' Q := by
  unfold Wp
  rw [bind_app]
  cases m τ O <;> rfl
theorem wp_pure {x : α} {Q : α → Sto → Ob → Prop} : Wp (pure x) τ O Q = Q x τ O := rfl
theorem wp_ite {b : Bool} {f g : Mm α} {Q : α → Sto → Ob → Prop} : Wp (if b then f else g) τ O Q = if b then Wp f τ O Q else Wp g τ O Q := by cases b <;> rfl
theorem wp_itP {p : Prop} [Decidable p] {f g : Mm α} {Q : α → Sto → Ob → Prop} : Wp (if p then f else g) τ O Q = if p then Wp f τ O Q else Wp g τ O Q := by split <;> rfl
theorem wp_opt {o : Option α} {Q : α → Sto → Ob → Prop} : Wp (opt o) τ O Q = (match o with | some x => Q x τ O | none => False) := by cases o <;> rfl
theorem wp_cst {d : D} {Q : Ex → Sto → Ob → Prop} : Wp (cst d) τ O Q = Q ⟨.frz, d⟩ τ O := rfl
theorem wp_var {i : Nat} {Q : Ex → Sto → Ob → Prop} : Wp (var i) τ O Q = (match τ[i]? with | some (some (true, d)) => Q ⟨.slot i, d⟩ τ O | some (some (false, d)) => Q ⟨.frz, d⟩ τ O | _ => False) := by
  unfold Wp var
  rcases τ[i]? with _ | _ | ⟨_ | _, d⟩ <;> rfl
theorem wp_rdF {d : D} {Q : D → Sto → Ob → Prop} : Wp (rd ⟨.frz, d⟩) τ O Q = Q d τ O := rfl
theorem wp_rdT {d : D} {Q : D → Sto → Ob → Prop} : Wp (rd ⟨.tmp, d⟩) τ O Q = Q d τ O := rfl
theorem wp_rdf {d : D} {Q : D → Sto → Ob → Prop} : Wp (rd (fl d)) τ O Q = Q d τ O := rfl
theorem wp_rdS {i : Nat} {d : D} {Q : D → Sto → Ob → Prop} : Wp (rd ⟨.slot i, d⟩) τ O Q = (match τ[i]? with | some (some (_, d)) => Q d τ O | _ => False) := by
  unfold Wp rd
  rcases h : τ[i]? with _ | _ | ⟨_ | _, d⟩ <;> simp [h]
theorem wp_fzF {d : D} {Q : D → Sto → Ob → Prop} : Wp (frzX ⟨.frz, d⟩) τ O Q = Q d τ O := rfl
theorem wp_fzT {d : D} {Q : D → Sto → Ob → Prop} : Wp (frzX ⟨.tmp, d⟩) τ O Q = Q d τ O := rfl
theorem wp_fzf {d : D} {Q : D → Sto → Ob → Prop} : Wp (frzX (fl d)) τ O Q = Q d τ O := rfl
theorem wp_fzS {i : Nat} {d : D} {Q : D → Sto → Ob → Prop} : Wp (frzX ⟨.slot i, d⟩) τ O Q = (match τ[i]? with | some (some (_, d)) => Q d (τ.set i (some (false, d))) O | _ => False) := by
  unfold Wp frzX
  rcases h : τ[i]? with _ | _ | ⟨_ | _, d⟩ <;> simp [h]
theorem wp_seqM {f g : Mm Fl} {Q : Fl → Sto → Ob → Prop} : Wp (seqM f g) τ O Q = Wp f τ O fun fl τ' O' => (match fl with | .nx => Wp g τ' O' Q | .bk => Q .bk τ' O' | .ct => Q .ct τ' O' | .rt x => Q (.rt x) τ' O') := by
  unfold seqM
  rw [wp_bind]
  congr 1
  funext fl τ' O'
  cases fl <;> rfl
theorem wp_st1 {i : Nat} {b : Bool} {d : D} {Q : Unit → Sto → Ob → Prop} : Wp (st1 i b d) τ O Q = Q () (τ.set i (some (b, d))) O := rfl
theorem wp_stT {i : Nat} {d : D} {Q : Unit → Sto → Ob → Prop} : Wp (stX i ⟨.tmp, d⟩) τ O Q = Q () (τ.set i (some (true, d))) O := rfl
theorem wp_stF {i : Nat} {d : D} {Q : Unit → Sto → Ob → Prop} : Wp (stX i ⟨.frz, d⟩) τ O Q = Q () (τ.set i (some (false, d))) O := rfl
theorem wp_stf {i : Nat} {d : D} {Q : Unit → Sto → Ob → Prop} : Wp (stX i (fl d)) τ O Q = Q () (τ.set i (some (false, d))) O := rfl
theorem wp_stS {i j : Nat} {d : D} {Q : Unit → Sto → Ob → Prop} : Wp (stX i ⟨.slot j, d⟩) τ O Q = (match τ[j]? with | some (some (_, d)) => Q () ((τ.set j (some (false, d))).set i (some (false, d))) O | _ => False) := by
  show Wp (frzX ⟨.slot j, d⟩ >>= fun d => st1 i false d) τ O Q = _
  rw [wp_bind, wp_fzS]
  rfl
theorem wp_bin {f g : Mm Ex} {op : D → D → Mm Ex} {Q : Ex → Sto → Ob → Prop} : Wp (bin f g op) τ O Q = Wp f τ O fun x τ O => Wp g τ O fun y τ O => Wp (rd x) τ O fun dx τ O => Wp (rd y) τ O fun dy τ O => Wp (op dx dy) τ O Q := by
  unfold bin
  simp only [wp_bind]
theorem wp_asB {x : Ex} {Q : Bool → Sto → Ob → Prop} : Wp (asB x) τ O Q = Wp (rd x) τ O fun d τ O => (match d with | .bl b => Q b τ O | _ => False) := by
  unfold asB
  rw [wp_bind]
  congr 1
  funext d τ' O'
  cases d <;> rfl
theorem wp_asI {x : Ex} {Q : Option Int → Sto → Ob → Prop} : Wp (asI x) τ O Q = Wp (rd x) τ O fun d τ O => (match d with | .int b => Q (some b) τ O | _ => False) := by
  unfold asI
  rw [wp_bind]
  congr 1
  funext d τ' O'
  cases d <;> rfl
theorem wp_blE {b : Bool} {Q : Ex → Sto → Ob → Prop} : Wp (blE b) τ O Q = Q ⟨.frz, .bl b⟩ τ O := rfl
theorem wp_ifM {t : Mm Bool} {f g : Mm α} {Q : α → Sto → Ob → Prop} : Wp (ifM t f g) τ O Q = Wp t τ O fun k τ O => if k then Wp f τ O Q else Wp g τ O Q := by
  unfold ifM
  rw [wp_bind]
  congr 1
  funext k τ' O'
  exact wp_ite
theorem wp_andC {f g : Mm Bool} {Q : Bool → Sto → Ob → Prop} : Wp (andC f g) τ O Q = Wp f τ O fun k τ O => if k then Wp g τ O Q else Q false τ O := by
  unfold andC
  rw [wp_bind]
  congr 1
  funext k τ' O'
  exact wp_ite
theorem wp_orC {f g : Mm Bool} {Q : Bool → Sto → Ob → Prop} : Wp (orC f g) τ O Q = Wp f τ O fun k τ O => if k then Q true τ O else Wp g τ O Q := by
  unfold orC
  rw [wp_bind]
  congr 1
  funext k τ' O'
  exact wp_ite
theorem wp_andV {f g : Mm Ex} {Q : Ex → Sto → Ob → Prop} : Wp (andV f g) τ O Q = Wp f τ O fun x τ O => Wp (rd x) τ O fun d τ O => Wp (opt (truD d)) τ O fun k τ O => if k then Wp g τ O Q else Q x τ O := by
  unfold andV
  simp only [wp_bind, wp_ite, wp_pure]
theorem wp_orV {f g : Mm Ex} {Q : Ex → Sto → Ob → Prop} : Wp (orV f g) τ O Q = Wp f τ O fun x τ O => Wp (rd x) τ O fun d τ O => Wp (opt (truD d)) τ O fun k τ O => if k then Q x τ O else Wp g τ O Q := by
  unfold orV
  simp only [wp_bind, wp_ite, wp_pure]
theorem wp_blt {f : Mm (List Ex)} {op : List D → Mm Ex} {Q : Ex → Sto → Ob → Prop} : Wp (blt f op) τ O Q = Wp f τ O fun xs τ O => Wp (rds xs) τ O fun ds τ O => Wp (op ds) τ O Q := by
  unfold blt
  simp only [wp_bind]
theorem wp_rds0 {Q : List D → Sto → Ob → Prop} : Wp (rds []) τ O Q = Q [] τ O := rfl
theorem wp_rdsC {x : Ex} {xs : List Ex} {Q : List D → Sto → Ob → Prop} : Wp (rds (x :: xs)) τ O Q = Wp (rd x) τ O fun d τ O => Wp (rds xs) τ O fun ds τ O => Q (d :: ds) τ O := by
  show Wp (rd x >>= fun d => rds xs >>= fun ds => pure (d :: ds)) τ O Q = _
  simp only [wp_bind, wp_pure]
theorem wp_mkLst {ds : List D} {Q : Ex → Sto → Ob → Prop} : Wp (mkLst ds) τ O Q = if small ds.length then Q ⟨.tmp, .lst ds⟩ τ O else False := by
  unfold mkLst
  cases small ds.length <;> rfl
theorem wp_mkTup {ds : List D} {Q : Ex → Sto → Ob → Prop} : Wp (mkTup ds) τ O Q = if small ds.length then Q ⟨.frz, .tup ds⟩ τ O else False := by
  unfold mkTup
  cases small ds.length <;> rfl
theorem wp_eqD {x y : D} {Q : Ex → Sto → Ob → Prop} : Wp (eqD x y) τ O Q = (match eqO x y with | some k => Q ⟨.frz, .bl k⟩ τ O | none => False) := by
  unfold eqD
  cases eqO x y <;> rfl
theorem wp_neD {x y : D} {Q : Ex → Sto → Ob → Prop} : Wp (neD x y) τ O Q = (match eqO x y with | some k => Q ⟨.frz, .bl (!k)⟩ τ O | none => False) := by
  unfold neD
  cases eqO x y <;> rfl
theorem wp_isD {x y : D} {Q : Ex → Sto → Ob → Prop} : Wp (isD x y) τ O Q = (match isO x y with | some k => Q ⟨.frz, .bl k⟩ τ O | none => False) := by
  unfold isD
  cases isO x y <;> rfl
theorem wp_isntD {x y : D} {Q : Ex → Sto → Ob → Prop} : Wp (isntD x y) τ O Q = (match isO x y with | some k => Q ⟨.frz, .bl (!k)⟩ τ O | none => False) := by
  unfold isntD
  cases isO x y <;> rfl
theorem wp_ixD {x y : D} {Q : Ex → Sto → Ob → Prop} : Wp (ixD x y) τ O Q = (match ixO x y with | some k => Q ⟨.frz, k⟩ τ O | none => False) := by
  unfold ixD
  cases ixO x y <;> rfl
theorem wp_addI {i j : Int} {Q : Ex → Sto → Ob → Prop} : Wp (addD (.int i) (.int j)) τ O Q = Q ⟨.frz, .int (i + j)⟩ τ O := rfl
theorem wp_subI {i j : Int} {Q : Ex → Sto → Ob → Prop} : Wp (subD (.int i) (.int j)) τ O Q = Q ⟨.frz, .int (i - j)⟩ τ O := rfl
theorem wp_mulI {i j : Int} {Q : Ex → Sto → Ob → Prop} : Wp (mulD (.int i) (.int j)) τ O Q = if okMul i j then Q ⟨.frz, .int (i * j)⟩ τ O else False := by
  show Wp (if okMul i j then pure (fl (.int (i * j))) else bad) τ O Q = _
  rw [wp_ite]
  rfl
theorem wp_modI {i j : Int} {Q : Ex → Sto → Ob → Prop} : Wp (modD (.int i) (.int j)) τ O Q = if decide (0 < j) then Q ⟨.frz, .int (i % j)⟩ τ O else False := by
  show Wp (if decide (0 < j) then pure (fl (.int (i % j))) else bad) τ O Q = _
  rw [wp_ite]
  rfl
theorem wp_fdivI {i j : Int} {Q : Ex → Sto → Ob → Prop} : Wp (fdivD (.int i) (.int j)) τ O Q = if okDiv j then Q ⟨.frz, .int (i / j)⟩ τ O else False := by
  show Wp (if okDiv j then pure (fl (.int (i / j))) else bad) τ O Q = _
  rw [wp_ite]
  rfl
theorem wp_divmodI {i j : Int} {Q : Ex → Sto → Ob → Prop} : Wp (divmodB [.int i, .int j]) τ O Q = if okDiv j then Q ⟨.frz, .tup [.int (i / j), .int (i % j)]⟩ τ O else False := by
  show Wp (if okDiv j then pure (fl (.tup [.int (i / j), .int (i % j)])) else bad) τ O Q = _
  rw [wp_ite]
  rfl
theorem wp_ltI {i j : Int} {Q : Ex → Sto → Ob → Prop} : Wp (ltD (.int i) (.int j)) τ O Q = Q ⟨.frz, .bl (decide (i < j))⟩ τ O := rfl
theorem wp_leI {i j : Int} {Q : Ex → Sto → Ob → Prop} : Wp (leD (.int i) (.int j)) τ O Q = Q ⟨.frz, .bl (decide (i ≤ j))⟩ τ O := rfl
theorem wp_gtI {i j : Int} {Q : Ex → Sto → Ob → Prop} : Wp (gtD (.int i) (.int j)) τ O Q = Q ⟨.frz, .bl (decide (j < i))⟩ τ O := rfl
theorem wp_geI {i j : Int} {Q : Ex → Sto → Ob → Prop} : Wp (geD (.int i) (.int j)) τ O Q = Q ⟨.frz, .bl (decide (j ≤ i))⟩ τ O := rfl
theorem wp_addS {i j : Str} {Q : Ex → Sto → Ob → Prop} : Wp (addD (.str i) (.str j)) τ O Q = if small (i.length + j.length) then Q ⟨.frz, .str (i ++ j)⟩ τ O else False := by
  show Wp (if small (i.length + j.length) then pure (fl (.str (i ++ j))) else bad) τ O Q = _
  rw [wp_ite]
  rfl
theorem wp_addL {i j : List D} {Q : Ex → Sto → Ob → Prop} : Wp (addD (.lst i) (.lst j)) τ O Q = if small (i.length + j.length) then Q ⟨.tmp, .lst (i ++ j)⟩ τ O else False := by
  show Wp (if small (i.length + j.length) then pure ⟨.tmp, .lst (i ++ j)⟩ else bad) τ O Q = _
  rw [wp_ite]
  rfl
theorem wp_intI {i : Int} {Q : Ex → Sto → Ob → Prop} : Wp (intB [.int i]) τ O Q = Q ⟨.frz, .int i⟩ τ O := rfl
theorem wp_intB {b : Bool} {Q : Ex → Sto → Ob → Prop} : Wp (intB [.bl b]) τ O Q = Q ⟨.frz, .int (if b then 1 else 0)⟩ τ O := rfl
theorem wp_absI {i : Int} {Q : Ex → Sto → Ob → Prop} : Wp (absB [.int i]) τ O Q = Q ⟨.frz, .int (if i < 0 then -i else i)⟩ τ O := rfl
theorem wp_negI {i : Int} {Q : Ex → Sto → Ob → Prop} : Wp (negD (.int i)) τ O Q = Q ⟨.frz, .int (-i)⟩ τ O := rfl
theorem wp_maxI {i j : Int} {Q : Ex → Sto → Ob → Prop} : Wp (maxB [.int i, .int j]) τ O Q = Q ⟨.frz, .int (if j > i then j else i)⟩ τ O := rfl
theorem wp_minI {i j : Int} {Q : Ex → Sto → Ob → Prop} : Wp (minB [.int i, .int j]) τ O Q = Q ⟨.frz, .int (if j < i then j else i)⟩ τ O := rfl
theorem wp_len {d : D} {Q : Ex → Sto → Ob → Prop} : Wp (lenB [d]) τ O Q = (match lenO d with | some n => Q ⟨.frz, .int n⟩ τ O | none => False) := by
  show Wp (opt (lenO d) >>= fun n => pure (fl (.int n))) τ O Q = _
  rw [wp_bind, wp_opt]
  cases lenO d <;> rfl
theorem wp_ifB {i : Nat} {f : Mm α} {Q : α → Sto → Ob → Prop} : Wp (ifB i f) τ O Q = (match τ[i]? with | some (some _) => Wp f τ O Q | _ => False) := by
  unfold Wp ifB
  rcases h : τ[i]? with _ | _ | ⟨_, d⟩ <;> simp [h]
theorem wp_setM {i : Nat} {k d : D} {Q : Unit → Sto → Ob → Prop} : Wp (setM i k d) τ O Q = (match τ[i]?, k with
  | some (some (true, .lst ds)), .int n => (match ixN ds.length n with | some j => Q () (τ.set i (some (true, .lst (ds.set j d)))) O | none => False)
  | _, _ => False) := by
  unfold Wp setM
  rcases h : τ[i]? with _ | _ | ⟨_ | _, _ | _ | _ | _ | _ | ds | _ | _ | _ | _ | _⟩ <;> simp [h] <;> cases k <;> simp <;> rename_i z <;> cases ixN ds.length z <;> rfl
theorem wp_slL {ds : List D} {lo hi : Option Int} {Q : Ex → Sto → Ob → Prop} : Wp (slE (.lst ds) lo hi) τ O Q = Q ⟨.tmp, .lst (cutA ds lo hi)⟩ τ O := rfl
theorem wp_slS {z : Str} {lo hi : Option Int} {Q : Ex → Sto → Ob → Prop} : Wp (slE (.str z) lo hi) τ O Q = if small z.length then Q ⟨.frz, .str (cutS z lo hi)⟩ τ O else False := by
  show Wp (if small z.length then pure (fl (.str (cutS z lo hi))) else bad) τ O Q = _
  rw [wp_ite]
  rfl
theorem wp_slN {ns : List Int} {lo hi : Option Int} {Q : Ex → Sto → Ob → Prop} : Wp (slE (.scr ns) lo hi) τ O Q = Q ⟨.tmp, .lst ((cutA ns lo hi).map D.int)⟩ τ O := rfl
theorem wp_unp0 {Q : Unit → Sto → Ob → Prop} : Wp (unp [] []) τ O Q = Q () τ O := rfl
theorem wp_unpC {f : D → Mm Unit} {fs : List (D → Mm Unit)} {d : D} {ds : List D} {Q : Unit → Sto → Ob → Prop} : Wp (unp (f :: fs) (d :: ds)) τ O Q = Wp (f d) τ O fun _ τ O => Wp (unp fs ds) τ O Q := by
  show Wp (f d >>= fun _ => unp fs ds) τ O Q = _
  rw [wp_bind]
theorem wp_unpT {n : Nat} {fs : List (D → Mm Unit)} {ds : List D} {Q : Unit → Sto → Ob → Prop} : Wp (unpT n fs (.tup ds)) τ O Q = if ds.length = n then Wp (unp fs ds) τ O Q else False := by
  show Wp (if ds.length = n then unp fs ds else bad) τ O Q = _
  rw [wp_itP]
  rfl
theorem wp_unpL {n : Nat} {fs : List (D → Mm Unit)} {ds : List D} {Q : Unit → Sto → Ob → Prop} : Wp (unpT n fs (.lst ds)) τ O Q = if ds.length = n then Wp (unp fs ds) τ O Q else False := by
  show Wp (if ds.length = n then unp fs ds else bad) τ O Q = _
  rw [wp_itP]
  rfl
theorem wp_setA {i : Nat} {k d : D} {Q : Unit → Sto → Ob → Prop} : Wp (setA i k d) τ O Q = (match τ[i]? with
  | some (some (true, .dct t kvs)) => if isK t k && smallS kvs.length then Q () (τ.set i (some (true, .dct t (putD t kvs k d)))) O else False
  | _ => Wp (setM i k d) τ O Q) := by
  unfold Wp setA
  rcases h : τ[i]? with _ | _ | ⟨_ | _, _ | _ | _ | _ | _ | _ | ⟨t, kvs⟩ | _ | _ | _ | _⟩ <;> simp only []
  cases isK t k && smallS kvs.length <;> rfl
theorem ixAny_lst {xs : List D} {y : D} : ixAny (.lst xs) y = ixD (.lst xs) y := rfl
theorem ixAny_tup {xs : List D} {y : D} : ixAny (.tup xs) y = ixD (.tup xs) y := rfl
theorem ixAny_str {x : Str} {y : D} : ixAny (.str x) y = ixD (.str x) y := rfl
theorem ixAny_scr {x : List Int} {y : D} : ixAny (.scr x) y = ixD (.scr x) y := rfl
theorem ixO_lst {xs : List D} {i : Int} : ixO (.lst xs) (.int i) = atI xs i := rfl
theorem ixO_tup {xs : List D} {i : Int} : ixO (.tup xs) (.int i) = atI xs i := rfl
theorem atI_0 {α : Type} {x : α} {xs : List α} : atI (x :: xs) 0 = some x := by
  unfold atI ixN
  rw [if_pos (Int.le_refl 0), if_pos (by simp)]
  rfl
theorem atI_nat {α : Type} {xs : List α} {n : Nat} : atI xs (n : Int) = xs[n]? := by
  unfold atI ixN
  rw [if_pos (by omega)]
  by_cases h : n < xs.length
  · rw [if_pos (by omega)]
    simp
  · rw [if_neg (by omega)]
    rw [List.getElem?_eq_none (by omega)]
    rfl
theorem atI_lit {α : Type} {xs : List α} {i : Int} (h : 0 ≤ i) : atI xs i = xs[i.toNat]? := by
  obtain ⟨n, rfl⟩ := Int.eq_ofNat_of_zero_le h
  exact atI_nat
theorem cutA_to {α : Type} {xs : List α} {k : Int} (h0 : 0 ≤ k) (h : k ≤ xs.length) : cutA xs none (some k) = xs.take k.toNat := by
  unfold cutA
  show (xs.drop 0).take ((if k < 0 then (k + (xs.length : Int)).toNat else min k.toNat xs.length) - 0) = _
  rw [if_neg (by omega), Nat.min_eq_left (by omega)]
  rfl
theorem cutA_from {α : Type} {xs : List α} {k : Int} (h0 : 0 ≤ k) (h : k ≤ xs.length) : cutA xs (some k) none = xs.drop k.toNat := by
  unfold cutA
  show (xs.drop (if k < 0 then (k + (xs.length : Int)).toNat else min k.toNat xs.length)).take (xs.length - (if k < 0 then (k + (xs.length : Int)).toNat else min k.toNat xs.length)) = _
  rw [if_neg (by omega), Nat.min_eq_left (by omega)]
  rw [List.take_of_length_le (by simp)]
end
/-! ### mirrors -/
def Ret (m : Mir) (ds : List D) (O : Ob) (Q : Bool → D → D → Ob → Prop) : Prop := match m.fn ds O with
  | .ret own d io O' => Q own d io O'
  | _ => False
theorem Ret.imp {m : Mir} {ds : List D} {O : Ob} {Q Q' : Bool → D → D → Ob → Prop} (h : Ret m ds O Q) (k : ∀ own d io O', Q own d io O' → Q' own d io O') : Ret m ds O Q' := by
  unfold Ret at *
  split at h
  · exact k _ _ _ _ h
  · exact h.elim
theorem Ret.ok {m : Mir} {ds : List D} {O : Ob} {Q : Bool → D → D → Ob → Prop} (h : Ret m ds O Q) : ∃ own d io O', m.fn ds O = .ret own d io O' ∧ Q own d io O' := by
  unfold Ret at h
  split at h
  · exact ⟨_, _, _, _, by assumption, h⟩
  · exact h.elim
theorem Ret.of {m : Mir} {ds : List D} {O : Ob} {Q : Bool → D → D → Ob → Prop} {own : Bool} {d io : D} {O' : Ob} (e : m.fn ds O = .ret own d io O') (h : Q own d io O') : Ret m ds O Q := by
  unfold Ret
  rw [e]
  exact h
/-- how a body ends -/
def Fin (io : Option Nat) (Q : Bool → D → D → Ob → Prop) (x : Ex) (τ : Sto) (O : Ob) : Prop := match finO io x τ O with
  | .ret own d i O' => Q own d i O'
  | _ => False
theorem fin_F {Q : Bool → D → D → Ob → Prop} {d : D} {τ : Sto} {O : Ob} : Fin none Q ⟨.frz, d⟩ τ O = Q false d .non O := rfl
theorem fin_f {Q : Bool → D → D → Ob → Prop} {d : D} {τ : Sto} {O : Ob} : Fin none Q (fl d) τ O = Q false d .non O := rfl
theorem fin_T {Q : Bool → D → D → Ob → Prop} {d : D} {τ : Sto} {O : Ob} : Fin none Q ⟨.tmp, d⟩ τ O = Q true d .non O := rfl
theorem fin_S {Q : Bool → D → D → Ob → Prop} {i : Nat} {d : D} {τ : Sto} {O : Ob} : Fin none Q ⟨.slot i, d⟩ τ O = (match τ[i]? with | some (some (b, d)) => Q b d .non O | _ => False) := by
  unfold Fin finO
  rcases h : τ[i]? with _ | _ | ⟨_ | _, d⟩ <;> simp [h, ioOf]
theorem fin_ioF {Q : Bool → D → D → Ob → Prop} {j : Nat} {d : D} {τ : Sto} {O : Ob} : Fin (some j) Q ⟨.frz, d⟩ τ O = (match τ[j]? with | some (some (true, e)) => Q false d e O | _ => False) := by
  unfold Fin finO
  rcases h : τ[j]? with _ | _ | ⟨_ | _, d⟩ <;> simp [h, ioOf]
theorem fin_iof {Q : Bool → D → D → Ob → Prop} {j : Nat} {d : D} {τ : Sto} {O : Ob} : Fin (some j) Q (fl d) τ O = (match τ[j]? with | some (some (true, e)) => Q false d e O | _ => False) := fin_ioF
theorem fin_ioT {Q : Bool → D → D → Ob → Prop} {j : Nat} {d : D} {τ : Sto} {O : Ob} : Fin (some j) Q ⟨.tmp, d⟩ τ O = (match τ[j]? with | some (some (true, e)) => Q true d e O | _ => False) := by
  unfold Fin finO
  rcases h : τ[j]? with _ | _ | ⟨_ | _, d⟩ <;> simp [h, ioOf]
theorem fin_ioS {Q : Bool → D → D → Ob → Prop} {j i : Nat} {d : D} {τ : Sto} {O : Ob} (hij : (some j = some i) = False) : Fin (some j) Q ⟨.slot i, d⟩ τ O = (match τ[j]? with | some (some (true, e)) => (match τ[i]? with | some (some (b, d)) => Q b d e O | _ => False) | _ => False) := by
  unfold Fin finO
  rcases h : τ[j]? with _ | _ | ⟨_ | _, d⟩ <;> simp [h, ioOf]
  have : ¬ j = i := fun e => by rw [e] at hij; simp at hij
  simp [this]
  rcases τ[i]? with _ | _ | ⟨_, d⟩ <;> rfl
theorem ret_body {ar : Nat} {io : Option Nat} {nN : Nat} {g : Mm Fl} {ds : List D} {O : Ob} {Q : Bool → D → D → Ob → Prop}
    (h : Wp g (argS io ds ++ List.replicate (nN - ds.length) none) O fun x τ O' => (match x with | .nx => Fin io Q (fl .non) τ O' | .rt x => Fin io Q x τ O' | _ => False)) : Ret ⟨ar, io, fun ds O => bodyO io nN g ds O⟩ ds O Q := by
  unfold Ret
  show (match bodyO io nN g ds O with | .ret own d io O' => Q own d io O' | _ => False)
  unfold Wp at h
  unfold bodyO
  split at h
  · rename_i x τ' O' e
    rw [e]
    cases x with
    | nx => exact h
    | rt x => exact h
    | _ => exact h.elim
  · exact h.elim
theorem ret_b {m : Mir} (io : Option Nat) (nN : Nat) (g : Mm Fl) (hm : ∀ ds O, m.fn ds O = bodyO io nN g ds O) {ds : List D} {O : Ob} {Q : Bool → D → D → Ob → Prop}
    (h : Wp g (argS io ds ++ List.replicate (nN - ds.length) none) O fun x τ O' => (match x with | .nx => Fin io Q (fl .non) τ O' | .rt x => Fin io Q x τ O' | _ => False)) : Ret m ds O Q := by
  have q := ret_body (ar := m.ar) h
  unfold Ret at *
  rw [hm]
  exact q
section
variable {m : Mir} {τ : Sto} {O : Ob}
theorem wp_call {xs : List Ex} {Q : Ex → Sto → Ob → Prop} (hio : m.io = none) (har : xs.length = m.ar) (hf : frzAll none 0 xs = true) (h : Ret m (xs.map (·.d)) O fun own d _ O' => Q (rEx own d) τ O') : Wp (callN m xs) τ O Q := by
  unfold Wp callN callM
  rw [if_pos har, hio, if_pos hf]
  obtain ⟨own, d, io, O', e, q⟩ := h.ok
  simp only [e]
  exact q
theorem wp_callS {i : Nat} {d0 dj : D} {xs : List Ex} {Q : Ex → Sto → Ob → Prop} (hio : m.io = some 0) (har : xs.length + 1 = m.ar) (hf : frzAll (some 0) 1 xs = true) (hi : τ[i]? = some (some (true, dj)))
    (h : Ret m (dj :: xs.map (·.d)) O fun own d d' O' => Q (rEx own d) (τ.set i (some (true, d'))) O') : Wp (callN m (⟨.slot i, d0⟩ :: xs)) τ O Q := by
  unfold Wp callN callM
  rw [if_pos (by simpa using har), hio]
  have hf2 : frzAll (some 0) 0 (⟨.slot i, d0⟩ :: xs) = true := by
    unfold frzAll
    rw [hf]
    rfl
  rw [if_pos hf2]
  obtain ⟨own, d, io, O', e, q⟩ := h.ok
  simp only [List.getElem?_cons_zero, hi, List.map_cons, List.set_cons_zero, e]
  exact q
theorem wp_callT {dj : D} {xs : List Ex} {Q : Ex → Sto → Ob → Prop} (hio : m.io = some 0) (har : xs.length + 1 = m.ar) (hf : frzAll (some 0) 1 xs = true)
    (h : Ret m (dj :: xs.map (·.d)) O fun own d d' O' => Q (rEx own d) τ O') : Wp (callN m (⟨.tmp, dj⟩ :: xs)) τ O Q := by
  unfold Wp callN callM
  rw [if_pos (by simpa using har), hio]
  have hf2 : frzAll (some 0) 0 (⟨.tmp, dj⟩ :: xs) = true := by
    unfold frzAll
    rw [hf]
    rfl
  rw [if_pos hf2]
  obtain ⟨own, d, io, O', e, q⟩ := h.ok
  simp only [List.getElem?_cons_zero, List.map_cons, e]
  exact q
end
theorem rEx_f {d : D} : rEx false d = ⟨.frz, d⟩ := rfl
theorem rEx_t {d : D} : rEx true d = ⟨.tmp, d⟩ := rfl
end DV
namespace DV
open PySem PySem.Spec PyProof.Rows L2
theorem wp_for {b : D → Mm Fl} {ds : List D} {τ : Sto} {O : Ob} {Q : Fl → Sto → Ob → Prop} (I : List D → Sto → Ob → Prop) (h0 : I [] τ O)
    (hb : ∀ pre d post τ O, ds = pre ++ d :: post → I pre τ O → Wp (b d) τ O fun fl τ O => (match fl with | .nx => I (pre ++ [d]) τ O | .ct => I (pre ++ [d]) τ O | .bk => Q .nx τ O | .rt x => Q (.rt x) τ O))
    (hq : ∀ τ O, I ds τ O → Q .nx τ O) : Wp (forM b ds) τ O Q := by
  have key : ∀ (post pre : List D) (τ : Sto) (O : Ob), ds = pre ++ post → I pre τ O → Wp (forM b post) τ O Q := by
    intro post
    induction post with
    | nil =>
      intro pre τ O e h
      rw [List.append_nil] at e
      subst e
      exact hq _ _ h
    | cons d post ih =>
      intro pre τ O e h
      show Wp (b d >>= contM (forM b post)) τ O Q
      rw [wp_bind]
      refine (hb pre d post τ O e h).imp fun fl τ' O' q => ?_
      cases fl with
      | nx => exact ih (pre ++ [d]) τ' O' (by rw [e]; simp) q
      | ct => exact ih (pre ++ [d]) τ' O' (by rw [e]; simp) q
      | bk => exact q
      | rt x => exact q
  exact key ds [] τ O rfl h0
theorem wp_while {c : Mm Bool} {b : Mm Fl} {Q : Fl → Sto → Ob → Prop} (I : Nat → Sto → Ob → Prop)
    (hs : ∀ k τ O, I k τ O → Wp c τ O fun t τ O => if t then Wp b τ O fun fl τ O => (match fl with | .nx => ∃ k', k' < k ∧ I k' τ O | .ct => ∃ k', k' < k ∧ I k' τ O | .bk => Q .nx τ O | .rt x => Q (.rt x) τ O) else Q .nx τ O) :
    ∀ (n k : Nat) (τ : Sto) (O : Ob), k < n → I k τ O → Wp (whileM c b n) τ O Q := by
  intro n
  induction n with
  | zero => intro k τ O h; omega
  | succ n ih =>
    intro k τ O h hI
    show Wp (c >>= fun t => if t then b >>= contM (whileM c b n) else pure .nx) τ O Q
    rw [wp_bind]
    refine (hs k τ O hI).imp fun t τ' O' q => ?_
    cases t with
    | false => exact q
    | true =>
      show Wp (b >>= contM (whileM c b n)) τ' O' Q
      rw [wp_bind]
      refine Wp.imp (show Wp b τ' O' _ from q) fun fl τ2 O2 q2 => ?_
      cases fl with
      | nx => obtain ⟨k', hk, h2⟩ := q2; exact ih k' τ2 O2 (by omega) h2
      | ct => obtain ⟨k', hk, h2⟩ := q2; exact ih k' τ2 O2 (by omega) h2
      | bk => exact q2
      | rt x => exact q2
theorem wp_lc {vs : List Nat} {fi : Mm (List D)} {tgt : D → Mm Unit} {tt : Mm Bool} {elt : Mm D} {τ : Sto} {O : Ob} {Q : Ex → Sto → Ob → Prop} :
    (Wp fi τ O fun ds τ1 O1 => ∃ I : List D → List D → Sto → Ob → Prop, I [] [] (wipeT τ1 vs) O1 ∧
      (∀ pre d post acc τ2 O2, ds = pre ++ d :: post → I pre acc τ2 O2 → Wp (tgt d) (wipeT τ2 vs) O2 fun _ τ3 O3 => Wp tt τ3 O3 fun b τ4 O4 => if b then Wp elt τ4 O4 fun y τ5 O5 => small (acc.length + 1) = true ∧ I (pre ++ [d]) (acc ++ [y]) τ5 O5 else I (pre ++ [d]) acc τ4 O4) ∧
      (∀ acc τ2 O2, I ds acc τ2 O2 → Q ⟨.tmp, .lst acc⟩ (backT τ1 τ2 vs) O2)) → Wp (lcM vs fi tgt tt elt) τ O Q := by
  intro h
  unfold lcM
  rw [wp_bind]
  refine h.imp fun ds τ1 O1 ⟨I, h0, hs, hq⟩ => ?_
  have key : ∀ (post pre acc : List D) (τ : Sto) (O : Ob), ds = pre ++ post → I pre acc τ O → Wp (compM vs tgt tt elt acc post) τ O fun acc τ2 O2 => I ds acc τ2 O2 := by
    intro post
    induction post with
    | nil =>
      intro pre acc τ O e h
      rw [List.append_nil] at e
      subst e
      exact h
    | cons d post ih =>
      intro pre acc τ O e h
      show Wp (turnM vs tgt tt elt d >>= fun o => match o with
        | some y => if small (acc.length + 1) then compM vs tgt tt elt (acc ++ [y]) post else bad
        | none => compM vs tgt tt elt acc post) τ O _
      rw [wp_bind]
      show Wp (wipM vs >>= fun _ => tgt d >>= fun _ => tt >>= fun b => if b then elt >>= fun y => pure (some y) else pure none) τ O _
      rw [wp_bind]
      show Wp (tgt d >>= fun _ => tt >>= fun b => if b then elt >>= fun y => pure (some y) else pure none) (wipeT τ vs) O _
      rw [wp_bind]
      refine (hs pre d post acc τ O e h).imp fun _ τ3 O3 q => ?_
      rw [wp_bind]
      refine q.imp fun b τ4 O4 q => ?_
      cases b with
      | false => exact ih (pre ++ [d]) acc τ4 O4 (by rw [e]; simp) q
      | true =>
        show Wp (elt >>= fun y => pure (some y)) τ4 O4 _
        rw [wp_bind]
        refine Wp.imp (show Wp elt τ4 O4 _ from q) fun y τ5 O5 q => ?_
        show Wp (if small (acc.length + 1) then compM vs tgt tt elt (acc ++ [y]) post else bad) τ5 O5 _
        rw [q.1]
        exact ih (pre ++ [d]) (acc ++ [y]) τ5 O5 (by rw [e]; simp) q.2
  obtain ⟨acc, τ2, O2, e, q⟩ := (key ds [] [] (wipeT τ1 vs) O1 rfl h0).ok
  unfold Wp lcK
  rw [e]
  exact hq _ _ _ q
theorem wp_parM {is : List Nat} {fa : Mm (List Ex)} {τ : Sto} {O : Ob} {Q : Fl → Sto → Ob → Prop} : Wp (parM is fa) τ O Q = Wp fa τ O fun xs τ O => Wp (unXs xs) τ O fun ys τ O => Wp (stL is ys) τ O fun _ τ O => Q .nx τ O := by
  unfold parM
  simp only [wp_bind, wp_pure]
section
variable {τ : Sto} {O : Ob}
theorem wp_unX0 {Q : List Ex → Sto → Ob → Prop} : Wp (unXs []) τ O Q = Q [] τ O := rfl
theorem wp_unXF {d : D} {xs : List Ex} {Q : List Ex → Sto → Ob → Prop} : Wp (unXs (⟨.frz, d⟩ :: xs)) τ O Q = Wp (unXs xs) τ O fun ys τ O => Q (⟨.frz, d⟩ :: ys) τ O := by
  show Wp (unX ⟨.frz, d⟩ >>= fun y => unXs xs >>= fun ys => pure (y :: ys)) τ O Q = _
  simp only [wp_bind, wp_pure]
  rfl
theorem wp_unXT {d : D} {xs : List Ex} {Q : List Ex → Sto → Ob → Prop} : Wp (unXs (⟨.tmp, d⟩ :: xs)) τ O Q = Wp (unXs xs) τ O fun ys τ O => Q (⟨.tmp, d⟩ :: ys) τ O := by
  show Wp (unX ⟨.tmp, d⟩ >>= fun y => unXs xs >>= fun ys => pure (y :: ys)) τ O Q = _
  simp only [wp_bind, wp_pure]
  rfl
theorem wp_unXS {i : Nat} {d : D} {xs : List Ex} {Q : List Ex → Sto → Ob → Prop} : Wp (unXs (⟨.slot i, d⟩ :: xs)) τ O Q = Wp (frzX ⟨.slot i, d⟩) τ O fun e τ O => Wp (unXs xs) τ O fun ys τ O => Q (⟨.frz, e⟩ :: ys) τ O := by
  show Wp ((frzX ⟨.slot i, d⟩ >>= fun d => pure (fl d)) >>= fun y => unXs xs >>= fun ys => pure (y :: ys)) τ O Q = _
  simp only [wp_bind, wp_pure]
  rfl
theorem wp_stL0 {Q : Unit → Sto → Ob → Prop} : Wp (stL [] []) τ O Q = Q () τ O := rfl
theorem wp_stLF {i : Nat} {is : List Nat} {d : D} {xs : List Ex} {Q : Unit → Sto → Ob → Prop} : Wp (stL (i :: is) (⟨.frz, d⟩ :: xs)) τ O Q = Wp (stL is xs) (τ.set i (some (false, d))) O Q := by
  show Wp (stK i ⟨.frz, d⟩ >>= fun _ => stL is xs) τ O Q = _
  rw [wp_bind]
  rfl
theorem wp_stLT {i : Nat} {is : List Nat} {d : D} {xs : List Ex} {Q : Unit → Sto → Ob → Prop} : Wp (stL (i :: is) (⟨.tmp, d⟩ :: xs)) τ O Q = Wp (stL is xs) (τ.set i (some (true, d))) O Q := by
  show Wp (stK i ⟨.tmp, d⟩ >>= fun _ => stL is xs) τ O Q = _
  rw [wp_bind]
  rfl
theorem rng1_int {n : Int} (h : inB n = true) : rng1 [.int n] = some (rngD 0 n.toNat) := by
  show (if inB n then _ else _) = _
  rw [h]
  rfl
theorem inB_of {n : Int} (h : 0 ≤ n) (h2 : n < 2 ^ 62) : inB n = true := by
  unfold inB
  rw [decide_eq_true (show -(2 ^ 62) ≤ n by omega), decide_eq_true h2]
  rfl
theorem wp_strI {i : Int} {Q : Ex → Sto → Ob → Prop} : Wp (strB [.int i]) τ O Q = if decide (i.natAbs.log2 < 1920) then Q ⟨.frz, .str (toString i)⟩ τ O else False := by
  show Wp (if decide (i.natAbs.log2 < 1920) then pure (fl (.str (toString i))) else bad) τ O Q = _
  rw [wp_ite]
  rfl
theorem wp_methM {T : String} {f : Mm Ex} {fa : Mm (List Ex)} {op : D → List D → Mm Ex} {Q : Ex → Sto → Ob → Prop} : Wp (methM T f fa op) τ O Q = Wp f τ O fun x τ O => Wp (rd x) τ O fun d τ O => if chk T d then Wp fa τ O fun xs τ O => Wp (rd x) τ O fun d τ O => Wp (rds xs) τ O fun ds τ O => Wp (op d ds) τ O Q else False := by
  unfold methM
  simp only [wp_bind, wp_ite]
  rfl
theorem wp_splitB {a b : Str} {Q : Ex → Sto → Ob → Prop} : Wp (splitB (.str a) [.str b]) τ O Q = if b.length != 0 && DV.small (a.length + 2) then Q ⟨.tmp, .lst ((Txt.split a b).map D.str)⟩ τ O else False := by
  show Wp (if b.length != 0 && DV.small (a.length + 2) then pure ⟨.tmp, .lst ((Txt.split a b).map D.str)⟩ else bad) τ O Q = _
  rw [wp_ite]
  rfl
theorem wp_joinL {a : Str} {es : List D} {Q : Ex → Sto → Ob → Prop} : Wp (joinB (.str a) [.lst es]) τ O Q = (match joinO a es with | some r => Q ⟨.frz, r⟩ τ O | none => False) := by
  show Wp (opt (joinO a es) >>= fun r => pure (fl r)) τ O Q = _
  rw [wp_bind, wp_opt]
  cases joinO a es <;> rfl
theorem wp_joinT {a : Str} {es : List D} {Q : Ex → Sto → Ob → Prop} : Wp (joinB (.str a) [.tup es]) τ O Q = (match joinO a es with | some r => Q ⟨.frz, r⟩ τ O | none => False) := by
  show Wp (opt (joinO a es) >>= fun r => pure (fl r)) τ O Q = _
  rw [wp_bind, wp_opt]
  cases joinO a es <;> rfl
theorem wp_inL {x : D} {es : List D} {Q : Ex → Sto → Ob → Prop} : Wp (inAny x (.lst es)) τ O Q = (match inS x es with | some k => Q ⟨.frz, .bl k⟩ τ O | none => False) := by
  show Wp (opt (inS x es) >>= fun k => blE k) τ O Q = _
  rw [wp_bind, wp_opt]
  cases inS x es <;> rfl
theorem wp_inT {x : D} {es : List D} {Q : Ex → Sto → Ob → Prop} : Wp (inAny x (.tup es)) τ O Q = (match inS x es with | some k => Q ⟨.frz, .bl k⟩ τ O | none => False) := by
  show Wp (opt (inS x es) >>= fun k => blE k) τ O Q = _
  rw [wp_bind, wp_opt]
  cases inS x es <;> rfl
theorem wp_inStr {x : D} {s : Str} {Q : Ex → Sto → Ob → Prop} : Wp (inAny x (.str s)) τ O Q = (match inO x (.str s) with | some k => Q ⟨.frz, .bl k⟩ τ O | none => False) := by
  show Wp (opt (inO x (.str s)) >>= fun k => blE k) τ O Q = _
  rw [wp_bind, wp_opt]
  cases inO x (.str s) <;> rfl
theorem wp_inDc {x : D} {t : Bool} {es : List (D × D)} {Q : Ex → Sto → Ob → Prop} : Wp (inAny x (.dct t es)) τ O Q = (match dinO x (.dct t es) with | some k => Q ⟨.frz, .bl k⟩ τ O | none => False) := by
  show Wp (opt (dinO x (.dct t es)) >>= fun k => blE k) τ O Q = _
  rw [wp_bind, wp_opt]
  cases dinO x (.dct t es) <;> rfl
theorem wp_ninT {x : D} {es : List D} {Q : Ex → Sto → Ob → Prop} : Wp (ninAny x (.tup es)) τ O Q = (match inS x es with | some k => Q ⟨.frz, .bl (!k)⟩ τ O | none => False) := by
  show Wp (opt (inS x es) >>= fun k => blE (!k)) τ O Q = _
  rw [wp_bind, wp_opt]
  cases inS x es <;> rfl
theorem wp_kin {nm : Str} {tbl : List (Str × D)} {x y : D} {Q : Ex → Sto → Ob → Prop} : Wp (kinD nm tbl x y) τ O Q = (match kinO nm tbl x y with | some k => Q ⟨.frz, .bl k⟩ τ O | none => False) := by
  show Wp (opt (kinO nm tbl x y) >>= fun k => blE k) τ O Q = _
  rw [wp_bind, wp_opt]
  cases kinO nm tbl x y <;> rfl
theorem wp_knin {nm : Str} {tbl : List (Str × D)} {x y : D} {Q : Ex → Sto → Ob → Prop} : Wp (kninD nm tbl x y) τ O Q = (match kinO nm tbl x y with | some k => Q ⟨.frz, .bl (!k)⟩ τ O | none => False) := by
  show Wp (opt (kinO nm tbl x y) >>= fun k => blE (!k)) τ O Q = _
  rw [wp_bind, wp_opt]
  cases kinO nm tbl x y <;> rfl
theorem wp_kget {nm : Str} {tbl : List (Str × D)} {x y : D} {Q : Ex → Sto → Ob → Prop} : Wp (kgetD nm tbl x y) τ O Q = (match kgetO nm tbl x y with | some k => Q ⟨.frz, k⟩ τ O | none => False) := by
  show Wp (opt (kgetO nm tbl x y) >>= fun k => pure (fl k)) τ O Q = _
  rw [wp_bind, wp_opt]
  cases kgetO nm tbl x y <;> rfl
theorem wp_intS {z : Str} {Q : Ex → Sto → Ob → Prop} : Wp (intB [.str z]) τ O Q = if decide (z.length ≤ 640) then (match PySem.intText? z with | some n => Q ⟨.frz, .int n⟩ τ O | none => False) else False := by
  show Wp (if decide (z.length ≤ 640) then opt (PySem.intText? z) >>= fun n => pure (fl (.int n)) else bad) τ O Q = _
  rw [wp_ite, wp_bind, wp_opt]
  cases decide (z.length ≤ 640)
  · rfl
  · cases PySem.intText? z <;> rfl
theorem wp_tupB1 {xs : List D} {Q : Ex → Sto → Ob → Prop} : Wp (tupB [.lst xs]) τ O Q = Q ⟨.frz, .tup xs⟩ τ O := rfl
theorem wp_tupB2 {xs : List D} {Q : Ex → Sto → Ob → Prop} : Wp (tupB [.tup xs]) τ O Q = Q ⟨.frz, .tup xs⟩ τ O := rfl
theorem wp_chain {fa fb fc : Mm Ex} {o o' : D → D → Mm Ex} {Q : Ex → Sto → Ob → Prop} : Wp (chainM fa fb fc o o') τ O Q = Wp fa τ O fun x τ O => Wp fb τ O fun y τ O => Wp (rd x) τ O fun dx τ O => Wp (rd y) τ O fun dy τ O => Wp (o dx dy) τ O fun z τ O => Wp (rd z) τ O fun dz τ O => (match dz with
  | .bl true => Wp fc τ O fun w τ O => Wp (rd y) τ O fun dy τ O => Wp (rd w) τ O fun dw τ O => Wp (o' dy dw) τ O Q
  | .bl false => Q ⟨.frz, .bl false⟩ τ O
  | _ => False) := by
  unfold chainM
  simp only [wp_bind]
  congr 1; funext x τ O
  congr 1; funext y τ O
  congr 1; funext dx τ O
  congr 1; funext dy τ O
  congr 1; funext z τ O
  congr 1; funext dz τ O
  rcases dz with _ | (_ | _) | _ | _ | _ | _ | _ | _ | _ | _ | _ <;> first | rfl | simp only [wp_bind]
theorem wp_mutL {i : Nat} {as : List D} {op : List D → List D → Option (D × List D)} {Q : Ex → Sto → Ob → Prop} : Wp (mutL i op as) τ O Q = (match τ[i]? with
    | some (some (true, .lst ds)) => (match op ds as with | some (r, ds') => Q ⟨.frz, r⟩ (τ.set i (some (true, .lst ds'))) O | none => False)
    | _ => False) := by
  unfold Wp mutL
  split
  · rename_i h
    split at h
    · rename_i e
      split at h
      · rename_i e2
        cases h
        first | (simp only [e, e2]; done) | (simp only [e, e2]; rfl) | rfl
      · cases h
    · cases h
  · rename_i h
    split
    · rename_i ds e
      split
      · rename_i r ds' e2
        exact (h (fl r) (τ.set i (some (true, .lst ds'))) O (by simp only [e, e2])).elim
      · rfl
    · rfl
theorem wp_mutM {i : Nat} {fa : Mm (List D)} {op : List D → List D → Option (D × List D)} {Q : Ex → Sto → Ob → Prop} : Wp (mutM i fa op) τ O Q = (match τ[i]? with
  | some (some (true, .lst _)) => Wp fa τ O fun as τ O => Wp (mutL i op as) τ O Q
  | _ => False) := by
  split
  · rename_i h
    rw [← wp_bind]
    unfold Wp mutM
    first | (simp only [h]; done) | (simp only [h]; rfl) | rfl
  · rename_i h
    unfold Wp mutM
    split
    · rename_i e
      split at e
      · rename_i z
        exact absurd z (h _)
      · cases e
    · rfl
theorem wp_aug {i : Nat} {f : Mm Ex} {Q : Fl → Sto → Ob → Prop} : Wp (augM i f) τ O Q = (match τ[i]? with
  | some (some (false, .int a)) => Wp f τ O fun y τ O => Wp (rd y) τ O fun e τ O => (match e with | .int b => Q .nx (τ.set i (some (false, .int (a + b)))) O | _ => False)
  | _ => False) := by
  split
  · rename_i a h
    have e0 : Wp (augM i f) τ O Q = Wp (f >>= fun y => rd y >>= fun e => match e with
          | .int b => st1 i false (.int (a + b)) >>= fun _ => pure .nx
          | _ => bad) τ O Q := by
      unfold Wp augM
      first | (simp only [h]; done) | (simp only [h]; rfl) | rfl
    rw [e0, wp_bind]
    congr 1
    funext y τ' O'
    rw [wp_bind]
    congr 1
    funext e τ' O'
    cases e <;> rfl
  · rename_i h
    unfold Wp augM
    split
    · rename_i e
      split at e
      · rename_i z
        exact absurd z (h _)
      · cases e
    · rfl
theorem wp_clearA {i : Nat} {Q : Ex → Sto → Ob → Prop} : Wp (clearA i) τ O Q = (match τ[i]? with
  | some (some (true, .dct t _)) => Q ⟨.frz, .non⟩ (τ.set i (some (true, .dct t []))) O
  | some (some (true, .lst _)) => Q ⟨.frz, .non⟩ (τ.set i (some (true, .lst []))) O
  | _ => False) := by
  unfold Wp clearA
  split
  · rename_i h
    split at h
    · rename_i e
      cases h
      first | (simp only [e]; done) | (simp only [e]; rfl) | rfl
    · rename_i e
      cases h
      first | (simp only [e]; done) | (simp only [e]; rfl) | rfl
    · cases h
  · rename_i h
    split
    · rename_i t kvs e
      exact (h (fl .non) (τ.set i (some (true, .dct t []))) O (by simp only [e])).elim
    · rename_i ds e
      exact (h (fl .non) (τ.set i (some (true, .lst []))) O (by simp only [e])).elim
    · rfl
theorem wp_fld {cs : List Str} {f : Str} {n : Nat} {Q : Ex → Sto → Ob → Prop} : Wp (fldO cs f (.ref n)) τ O Q = (match O[n]? with
  | some (c, fs) => if cs.contains c then (match fs.lookup f with | some y => Q ⟨.frz, y⟩ τ O | none => False) else False
  | none => False) := by
  unfold Wp fldO
  dsimp only
  generalize O[n]? = r
  rcases r with _ | ⟨c, fs⟩
  · rfl
  · dsimp only
    cases cs.contains c
    · rfl
    · cases fs.lookup f <;> rfl
theorem wp_setO {cs : List Str} {f : Str} {n : Nat} {d : D} {Q : Unit → Sto → Ob → Prop} : Wp (setO cs f (.ref n) d) τ O Q = (match O[n]? with
  | some (c, fs) => if cs.contains c && decide (fs.length < 1000) then Q () τ (O.set n (c, putFD f d fs)) else False
  | none => False) := by
  unfold Wp setO
  dsimp only
  generalize O[n]? = r
  rcases r with _ | ⟨c, fs⟩
  · rfl
  · dsimp only
    cases cs.contains c && decide (fs.length < 1000) <;> rfl
theorem wp_isC {c : Str} {n : Nat} {Q : Unit → Sto → Ob → Prop} : Wp (isC c (.ref n)) τ O Q = (match O[n]? with
  | some (c', _) => if c' == c then Q () τ O else False
  | none => False) := by
  unfold Wp isC
  dsimp only
  generalize O[n]? = r
  rcases r with _ | ⟨c', fs⟩
  · rfl
  · dsimp only
    cases c' == c <;> rfl
theorem wp_isCm {c nm : Str} {n : Nat} {Q : Unit → Sto → Ob → Prop} : Wp (isCm c nm (.ref n)) τ O Q = (match O[n]? with
  | some (c', fs) => if c' == c && (fs.lookup nm).isNone then Q () τ O else False
  | none => False) := by
  unfold Wp isCm
  dsimp only
  generalize O[n]? = r
  rcases r with _ | ⟨c', fs⟩
  · rfl
  · dsimp only
    cases c' == c && (fs.lookup nm).isNone <;> rfl
theorem wp_noEx {α : Type} {f : Mm α} {Q : α → Sto → Ob → Prop} : Wp (noEx f) τ O Q = Wp f τ O Q := by
  unfold Wp noEx
  cases f τ O <;> rfl
theorem wp_prM {c : Str} {f : Mm Ex} {m : Mir} {Q : Ex → Sto → Ob → Prop} : Wp (prM c f m) τ O Q = Wp f τ O fun x τ O => Wp (rd x) τ O fun o τ O => Wp (isC c o) τ O fun _ τ O => Wp (callN m [⟨.frz, o⟩]) τ O Q := by
  unfold prM
  simp only [wp_bind, wp_noEx]
theorem wp_metM {c nm : Str} {f : Mm Ex} {fa : Mm (List Ex)} {m : Mir} {dfl : List D} {Q : Ex → Sto → Ob → Prop} : Wp (metM c nm f fa m dfl) τ O Q = Wp f τ O fun x τ O => Wp (rd x) τ O fun o τ O => Wp (isCm c nm o) τ O fun _ τ O => Wp fa τ O fun xs τ O => Wp (callN m (⟨.frz, o⟩ :: (xs ++ dfl.map fl))) τ O Q := by
  unfold metM
  simp only [wp_bind]
theorem wp_newK {c : Str} {m : Mir} {xs : List Ex} {Q : Ex → Sto → Ob → Prop} : Wp (newK c m xs) τ O Q = Wp (callN m (fl (.ref O.length) :: xs)) τ (O ++ [(c, [])]) fun x τ' O' => (match x with | ⟨.frz, .non⟩ => Q ⟨.frz, .ref O.length⟩ τ' O' | _ => False) := by
  unfold Wp newK
  rcases callN m (fl (.ref O.length) :: xs) τ (O ++ [(c, [])]) with ⟨⟨k, d⟩, τ', O'⟩ | _ | _
  · rcases k with _ | _ | _ <;> cases d <;> rfl
  · rfl
  · rfl
theorem wp_newM {c : Str} {fa : Mm (List Ex)} {m : Mir} {dfl : List D} {Q : Ex → Sto → Ob → Prop} : Wp (newM c fa m dfl) τ O Q = Wp fa τ O fun xs τ O => Wp (newK c m (xs ++ dfl.map fl)) τ O Q := by
  unfold newM
  simp only [wp_bind]
theorem wp_newSSL {c : Str} {f : Mm D} {m : Mir} {Q : Ex → Sto → Ob → Prop} : Wp (newSS c f m) τ O Q = Wp f τ O fun d τ O => (match d with
  | .lst ds => if DV.small ds.length then Wp (newK c m [fl (.tup ds)]) τ O Q else False
  | .tup ds => if DV.small ds.length then Wp (newK c m [fl (.tup ds)]) τ O Q else False
  | _ => False) := by
  unfold newSS
  rw [wp_bind]
  congr 1
  funext d τ' O'
  cases d <;> first | rfl | (simp only [wp_ite]; rfl)
theorem wp_cmM {c : Str} {fa : Mm (List Ex)} {m : Mir} {Q : Ex → Sto → Ob → Prop} : Wp (cmM c fa m) τ O Q = Wp fa τ O fun xs τ O => Wp (callN m (fl (.fn c) :: xs)) τ O Q := by
  unfold cmM
  simp only [wp_bind]
theorem rng_mem {n : Nat} {d : D} (h : d ∈ rngD 0 n) : ∃ k : Nat, d = .int (k : Int) ∧ k < n := by
  unfold rngD at h
  obtain ⟨k, hk, e⟩ := List.mem_map.1 h
  refine ⟨k, ?_, List.mem_range.1 hk⟩
  rw [← e]
  simp
theorem rng_pre {n : Nat} {pre post : List D} {d : D} (h : rngD 0 n = pre ++ d :: post) : d = .int (pre.length : Nat) ∧ pre.length < n := by
  have hl : pre.length < n := by
    have : (rngD 0 n).length = n := by simp [rngD]
    rw [← this, h]
    simp
  have e : (rngD 0 n)[pre.length]? = some d := by rw [h]; simp
  unfold rngD at e
  rw [List.getElem?_map, List.getElem?_range hl] at e
  simp at e
  exact ⟨e.symm, hl⟩
theorem atI_mem {α : Type} {xs : List α} {k : Int} (h0 : 0 ≤ k) (h : k < xs.length) : ∃ x, atI xs k = some x ∧ x ∈ xs := by
  rw [atI_lit h0]
  have hk : k.toNat < xs.length := by omega
  exact ⟨xs[k.toNat], List.getElem?_eq_getElem hk, List.getElem_mem hk⟩
end
end DV
open PySem PySem.Spec PyProof.Rows L2 DV in
local macro_rules
  | `(tactic| simp!) => `(tactic| simp (config := { failIfUnchanged := false }) only [wp_bind (τ := _ :: _), wp_pure (τ := _ :: _), wp_ite (τ := _ :: _), wp_itP (τ := _ :: _), wp_opt (τ := _ :: _), wp_cst (τ := _ :: _), wp_var (τ := _ :: _), wp_rdF (τ := _ :: _), wp_rdT (τ := _ :: _), wp_rdf (τ := _ :: _), wp_rdS (τ := _ :: _), wp_fzF (τ := _ :: _), wp_fzT (τ := _ :: _), wp_fzf (τ := _ :: _), wp_fzS (τ := _ :: _), wp_seqM (τ := _ :: _), wp_st1 (τ := _ :: _), wp_stT (τ := _ :: _), wp_stF (τ := _ :: _), wp_stf (τ := _ :: _), wp_stS (τ := _ :: _),
  wp_bin (τ := _ :: _), wp_asB (τ := _ :: _), wp_asI (τ := _ :: _), wp_blE (τ := _ :: _), wp_ifM (τ := _ :: _), wp_andC (τ := _ :: _), wp_orC (τ := _ :: _), wp_andV (τ := _ :: _), wp_orV (τ := _ :: _), wp_blt (τ := _ :: _), wp_rds0 (τ := _ :: _), wp_rdsC (τ := _ :: _), wp_mkLst (τ := _ :: _), wp_mkTup (τ := _ :: _), wp_eqD (τ := _ :: _), wp_neD (τ := _ :: _), wp_isD (τ := _ :: _), wp_isntD (τ := _ :: _), wp_ixD (τ := _ :: _), wp_addI (τ := _ :: _), wp_subI (τ := _ :: _), wp_mulI (τ := _ :: _), wp_modI (τ := _ :: _), wp_fdivI (τ := _ :: _), wp_divmodI (τ := _ :: _),
  wp_ltI (τ := _ :: _), wp_leI (τ := _ :: _), wp_gtI (τ := _ :: _), wp_geI (τ := _ :: _), wp_addS (τ := _ :: _), wp_addL (τ := _ :: _), wp_intI (τ := _ :: _), wp_intB (τ := _ :: _), wp_absI (τ := _ :: _), wp_negI (τ := _ :: _), wp_maxI (τ := _ :: _), wp_minI (τ := _ :: _), wp_len (τ := _ :: _), wp_ifB (τ := _ :: _), wp_parM (τ := _ :: _), wp_unX0 (τ := _ :: _), wp_unXF (τ := _ :: _), wp_unXT (τ := _ :: _), wp_unXS (τ := _ :: _), wp_stL0 (τ := _ :: _), wp_stLF (τ := _ :: _), wp_stLT (τ := _ :: _), wp_strI (τ := _ :: _), wp_setM (τ := _ :: _), wp_setA (τ := _ :: _), wp_methM (τ := _ :: _), wp_splitB (τ := _ :: _), wp_joinL (τ := _ :: _), wp_joinT (τ := _ :: _), wp_inL (τ := _ :: _), wp_inT (τ := _ :: _), wp_inStr (τ := _ :: _), wp_inDc (τ := _ :: _), wp_ninT (τ := _ :: _), wp_kin (τ := _ :: _), wp_knin (τ := _ :: _), wp_kget (τ := _ :: _), wp_intS (τ := _ :: _), wp_tupB1 (τ := _ :: _), wp_tupB2 (τ := _ :: _), wp_chain (τ := _ :: _), wp_mutM (τ := _ :: _), wp_mutL (τ := _ :: _), wp_aug (τ := _ :: _), wp_clearA (τ := _ :: _), wp_fld (τ := _ :: _), wp_setO (τ := _ :: _), wp_isC (τ := _ :: _), wp_isCm (τ := _ :: _), wp_noEx (τ := _ :: _), wp_prM (τ := _ :: _), wp_metM (τ := _ :: _), wp_newK (τ := _ :: _), wp_newM (τ := _ :: _), wp_newSSL (τ := _ :: _), wp_cmM (τ := _ :: _), wp_slL (τ := _ :: _), wp_slS (τ := _ :: _), wp_slN (τ := _ :: _), wp_unp0 (τ := _ :: _), wp_unpC (τ := _ :: _), wp_unpT (τ := _ :: _), wp_unpL (τ := _ :: _),
  ixAny_lst, ixAny_tup, ixAny_str, ixAny_scr, ixO_lst, ixO_tup, atI_0, atI_lit, fin_F, fin_f, fin_T, fin_S, fin_ioF, fin_iof, fin_ioT, fin_ioS, rEx_f, rEx_t,
  List.getElem?_cons_zero, List.getElem?_cons_succ, List.set_cons_zero, List.set_cons_succ, List.length_cons, List.length_nil, List.cons_append, List.nil_append, List.replicate, if_true, if_false, Bool.false_eq_true, reduceIte, Nat.reduceAdd, small, decide_eq_true_eq, List.map_cons, List.map_nil, wipeT, backT, List.getD_cons_zero, List.getD_cons_succ, Int.reduceLE, Int.reduceLT, Int.reduceBEq, Int.reduceEq, Int.reduceBNe, Nat.reduceBNe, Nat.reduceBEq, Bool.and_true, Bool.true_and, Bool.false_and, Bool.and_false, Int.reduceToNat, Nat.reduceEqDiff, reduceCtorEq, Option.some.injEq, eqO, isO, isNonD, truD, decide_true, decide_false, Bool.not_true, Bool.not_false, ixN, Int.cast_ofNat_Int, Int.natCast_one, Int.natCast_zero, Int.reduceSub, Int.reduceAdd, Int.reduceMul, Int.reduceNeg, Int.reduceMod, Int.reduceDiv, Nat.reduceSub, Nat.reduceMul, Nat.reduceLT, Nat.reduceLeDiff])
  | `(tactic| simp! [$ls,*]) => `(tactic| simp (config := { failIfUnchanged := false }) only [wp_bind (τ := _ :: _), wp_pure (τ := _ :: _), wp_ite (τ := _ :: _), wp_itP (τ := _ :: _), wp_opt (τ := _ :: _), wp_cst (τ := _ :: _), wp_var (τ := _ :: _), wp_rdF (τ := _ :: _), wp_rdT (τ := _ :: _), wp_rdf (τ := _ :: _), wp_rdS (τ := _ :: _), wp_fzF (τ := _ :: _), wp_fzT (τ := _ :: _), wp_fzf (τ := _ :: _), wp_fzS (τ := _ :: _), wp_seqM (τ := _ :: _), wp_st1 (τ := _ :: _), wp_stT (τ := _ :: _), wp_stF (τ := _ :: _), wp_stf (τ := _ :: _), wp_stS (τ := _ :: _),
  wp_bin (τ := _ :: _), wp_asB (τ := _ :: _), wp_asI (τ := _ :: _), wp_blE (τ := _ :: _), wp_ifM (τ := _ :: _), wp_andC (τ := _ :: _), wp_orC (τ := _ :: _), wp_andV (τ := _ :: _), wp_orV (τ := _ :: _), wp_blt (τ := _ :: _), wp_rds0 (τ := _ :: _), wp_rdsC (τ := _ :: _), wp_mkLst (τ := _ :: _), wp_mkTup (τ := _ :: _), wp_eqD (τ := _ :: _), wp_neD (τ := _ :: _), wp_isD (τ := _ :: _), wp_isntD (τ := _ :: _), wp_ixD (τ := _ :: _), wp_addI (τ := _ :: _), wp_subI (τ := _ :: _), wp_mulI (τ := _ :: _), wp_modI (τ := _ :: _), wp_fdivI (τ := _ :: _), wp_divmodI (τ := _ :: _),
  wp_ltI (τ := _ :: _), wp_leI (τ := _ :: _), wp_gtI (τ := _ :: _), wp_geI (τ := _ :: _), wp_addS (τ := _ :: _), wp_addL (τ := _ :: _), wp_intI (τ := _ :: _), wp_intB (τ := _ :: _), wp_absI (τ := _ :: _), wp_negI (τ := _ :: _), wp_maxI (τ := _ :: _), wp_minI (τ := _ :: _), wp_len (τ := _ :: _), wp_ifB (τ := _ :: _), wp_parM (τ := _ :: _), wp_unX0 (τ := _ :: _), wp_unXF (τ := _ :: _), wp_unXT (τ := _ :: _), wp_unXS (τ := _ :: _), wp_stL0 (τ := _ :: _), wp_stLF (τ := _ :: _), wp_stLT (τ := _ :: _), wp_strI (τ := _ :: _), wp_setM (τ := _ :: _), wp_setA (τ := _ :: _), wp_methM (τ := _ :: _), wp_splitB (τ := _ :: _), wp_joinL (τ := _ :: _), wp_joinT (τ := _ :: _), wp_inL (τ := _ :: _), wp_inT (τ := _ :: _), wp_inStr (τ := _ :: _), wp_inDc (τ := _ :: _), wp_ninT (τ := _ :: _), wp_kin (τ := _ :: _), wp_knin (τ := _ :: _), wp_kget (τ := _ :: _), wp_intS (τ := _ :: _), wp_tupB1 (τ := _ :: _), wp_tupB2 (τ := _ :: _), wp_chain (τ := _ :: _), wp_mutM (τ := _ :: _), wp_mutL (τ := _ :: _), wp_aug (τ := _ :: _), wp_clearA (τ := _ :: _), wp_fld (τ := _ :: _), wp_setO (τ := _ :: _), wp_isC (τ := _ :: _), wp_isCm (τ := _ :: _), wp_noEx (τ := _ :: _), wp_prM (τ := _ :: _), wp_metM (τ := _ :: _), wp_newK (τ := _ :: _), wp_newM (τ := _ :: _), wp_newSSL (τ := _ :: _), wp_cmM (τ := _ :: _), wp_slL (τ := _ :: _), wp_slS (τ := _ :: _), wp_slN (τ := _ :: _), wp_unp0 (τ := _ :: _), wp_unpC (τ := _ :: _), wp_unpT (τ := _ :: _), wp_unpL (τ := _ :: _),
  ixAny_lst, ixAny_tup, ixAny_str, ixAny_scr, ixO_lst, ixO_tup, atI_0, atI_lit, fin_F, fin_f, fin_T, fin_S, fin_ioF, fin_iof, fin_ioT, fin_ioS, rEx_f, rEx_t,
  List.getElem?_cons_zero, List.getElem?_cons_succ, List.set_cons_zero, List.set_cons_succ, List.length_cons, List.length_nil, List.cons_append, List.nil_append, List.replicate, if_true, if_false, Bool.false_eq_true, reduceIte, Nat.reduceAdd, small, decide_eq_true_eq, List.map_cons, List.map_nil, wipeT, backT, List.getD_cons_zero, List.getD_cons_succ, Int.reduceLE, Int.reduceLT, Int.reduceBEq, Int.reduceEq, Int.reduceBNe, Nat.reduceBNe, Nat.reduceBEq, Bool.and_true, Bool.true_and, Bool.false_and, Bool.and_false, Int.reduceToNat, Nat.reduceEqDiff, reduceCtorEq, Option.some.injEq, eqO, isO, isNonD, truD, decide_true, decide_false, Bool.not_true, Bool.not_false, ixN, Int.cast_ofNat_Int, Int.natCast_one, Int.natCast_zero, Int.reduceSub, Int.reduceAdd, Int.reduceMul, Int.reduceNeg, Int.reduceMod, Int.reduceDiv, Nat.reduceSub, Nat.reduceMul, Nat.reduceLT, Nat.reduceLeDiff, $ls,*])
namespace DV
open PySem PySem.Spec PyProof.Rows L2
/-! ### data that can be laid, compared, shown -/
theorem toPys_strs : ∀ l : List Str, toPys (l.map D.str) = some (l.map PyData.str)
  | [] => rfl
  | x :: l => by
    show (match toPy (.str x), toPys (l.map D.str) with | some a, some b => some (a :: b) | _, _ => none) = _
    rw [toPys_strs l]
    rfl
theorem canLay_strs : ∀ l : List Str, (∀ s ∈ l, PyData.strOk s = true) → PyData.canLayAll0 (l.map PyData.str) = true
  | [], _ => rfl
  | x :: l, h => by
    show (PyData.canLay0 (.str x) && PyData.canLayAll0 (l.map PyData.str)) = true
    rw [canLay_strs l fun s hs => h s (List.mem_cons_of_mem _ hs)]
    show (PyData.strOk x && true) = true
    rw [h x List.mem_cons_self]
    rfl
theorem depth_strs : ∀ l : List Str, PyData.depthAll (l.map PyData.str) = 0
  | [] => rfl
  | x :: l => by
    show max (PyData.depth (.str x)) (PyData.depthAll (l.map PyData.str)) = 0
    rw [depth_strs l]
    rfl
theorem okPy_strs {l : List Str} (h : ∀ s ∈ l, PyData.strOk s = true) : okPy (.lst (l.map D.str)) = some (.list (l.map PyData.str)) := by
  unfold okPy
  have e : toPy (.lst (l.map D.str)) = some (.list (l.map PyData.str)) := by
    show (match toPys (l.map D.str) with | some xs => some (PyData.list xs) | none => none) = _
    rw [toPys_strs]
  have s : SeqAt.shaped (.list (l.map PyData.str)) = true := by
    unfold SeqAt.shaped
    have c : PyData.canLay0 (.list (l.map PyData.str)) = true := canLay_strs l h
    have d : PyData.depth (.list (l.map PyData.str)) = 1 := by
      show PyData.depthAll (l.map PyData.str) + 1 = 1
      rw [depth_strs]
    rw [c, d]
    rfl
  simp only [e, s, if_true]
theorem eqvAll_strs : ∀ l k : List Str, PyData.eqvAll (l.map PyData.str) (k.map PyData.str) = (l == k)
  | [], [] => rfl
  | [], _ :: _ => rfl
  | _ :: _, [] => rfl
  | x :: l, y :: k => by
    show (PyData.eqv (.str x) (.str y) && PyData.eqvAll (l.map PyData.str) (k.map PyData.str)) = _
    rw [eqvAll_strs l k]
    show ((x == y) && (l == k)) = ((x :: l) == (y :: k))
    exact (List.cons_beq_cons ..).symm
theorem eqO_strs {l k : List Str} (h : ∀ s ∈ l, PyData.strOk s = true) (h2 : ∀ s ∈ k, PyData.strOk s = true) : eqO (.lst (l.map D.str)) (.lst (k.map D.str)) = some (l == k) := by
  show (match okPy (.lst (l.map D.str)), okPy (.lst (k.map D.str)) with | some a, some b => some (PyData.eqv a b) | _, _ => none) = _
  rw [okPy_strs h, okPy_strs h2]
  show some (PyData.eqvAll (l.map PyData.str) (k.map PyData.str)) = _
  rw [eqvAll_strs]
end DV
namespace DV
open PySem PySem.Spec PyProof.Rows L2
/-! ### what repr shows, and how long it is -/
structure Sh (d : D) (dp L : Nat) : Prop where
  ex : ∃ p, toPy d = some p ∧ p.canLay0 = true ∧ p.depth ≤ dp ∧ p.showable = true ∧ p.hasDict = false ∧ p.shown.length ≤ L
structure ShL (ds : List D) (dp L : Nat) : Prop where
  ex : ∃ ps, toPys ds = some ps ∧ PyData.canLayAll0 ps = true ∧ PyData.depthAll ps ≤ dp ∧ PyData.showableAll ps = true ∧ PyData.hasDictAll ps = false ∧ piled (PyData.shownAll ps) ≤ L
theorem Sh.mono {d : D} {dp dp' L L' : Nat} (h : Sh d dp L) (h1 : dp ≤ dp') (h2 : L ≤ L') : Sh d dp' L' := by
  obtain ⟨p, a, b, c, e, f, g⟩ := h.ex
  exact ⟨p, a, b, by omega, e, f, by omega⟩
theorem ShL.mono {d : List D} {dp dp' L L' : Nat} (h : ShL d dp L) (h1 : dp ≤ dp') (h2 : L ≤ L') : ShL d dp' L' := by
  obtain ⟨p, a, b, c, e, f, g⟩ := h.ex
  exact ⟨p, a, b, by omega, e, f, by omega⟩
theorem sh_non : Sh .non 0 4 := ⟨.none, rfl, rfl, Nat.le_refl _, rfl, rfl, by decide +kernel⟩
theorem sh_int {i : Int} {k : Nat} (hk : 0 < k) (hk2 : k ≤ 500) (h : i.natAbs < 10 ^ k) : Sh (.int i) 0 (k + 1) := by
  refine ⟨.int i, rfl, rfl, Nat.le_refl _, ?_, rfl, ?_⟩
  · show decide (i.natAbs.log2 < 1920) = true
    refine decide_eq_true ?_
    by_cases e : i.natAbs = 0
    · rw [e]; decide
    · refine (Nat.log2_lt e).2 (Nat.lt_of_lt_of_le h ?_)
      calc 10 ^ k ≤ 10 ^ 500 := Nat.pow_le_pow_right (by omega) hk2
        _ ≤ 2 ^ 1920 := by decide +kernel
  · show (Str.ofString (toString i)).length ≤ k + 1
    rw [PySem.ofString_length]
    exact int_text_length_le10 hk h
theorem sh_str {z : Str} (h : ∀ c ∈ z.cps.toList, c < 1114112) : Sh (.str z) 0 (10 * z.length + 2) := by
  refine ⟨.str z, rfl, ?_, Nat.le_refl _, rfl, rfl, ?_⟩
  · show z.cps.all (fun x => decide (x < 1114112)) = true
    rw [← Array.all_toList]
    exact List.all_eq_true.2 fun c hc => decide_eq_true (h c hc)
  · exact StrLaws.reprText_len z fun c hc => by
      have := h c hc
      omega
theorem shl_nil : ShL [] 0 0 := ⟨[], rfl, rfl, Nat.le_refl _, rfl, rfl, Nat.le_refl _⟩
theorem shl_cons {d : D} {ds : List D} {dp L1 L2 : Nat} (h : Sh d dp L1) (t : ShL ds dp L2) : ShL (d :: ds) dp (L1 + 2 + L2) := by
  obtain ⟨p, a1, a2, a3, a4, a5, a6⟩ := h.ex
  obtain ⟨ps, b1, b2, b3, b4, b5, b6⟩ := t.ex
  refine ⟨p :: ps, ?_, ?_, ?_, ?_, ?_, ?_⟩
  · show (match toPy d, toPys ds with | some x, some xs => some (x :: xs) | _, _ => none) = _
    rw [a1, b1]
  · show (PyData.canLay0 p && PyData.canLayAll0 ps) = true
    rw [a2, b2]; rfl
  · show max (PyData.depth p) (PyData.depthAll ps) ≤ dp
    omega
  · show (PyData.showable p && PyData.showableAll ps) = true
    rw [a4, b4]; rfl
  · show (PyData.hasDict p || PyData.hasDictAll ps) = false
    rw [a5, b5]; rfl
  · show piled (PyData.shown p :: PyData.shownAll ps) ≤ _
    rw [piled_cons]
    omega
theorem tup_len (ts : List Str) : (tupleText ts).length ≤ piled ts + 3 := by
  unfold tupleText
  rw [strLen_append, strLen_append]
  have e1 : ((("(" : String) : Str)).length = 1 := rfl
  have e3 : (((if ts.length == 1 then ",)" else ")" : String) : Str)).length ≤ 2 := by split <;> decide +kernel
  rw [e1]
  cases ts with
  | nil =>
    have : (Str.join ", " ([] : List Str)).length = 0 := by decide +kernel
    omega
  | cons t r =>
    have := join_length_add (t :: r) (by simp)
    omega
theorem lst_len (ts : List Str) : (listText ts).length ≤ piled ts + 3 := by
  unfold listText
  rw [strLen_append]
  have e1 : ((("]" : String) : Str)).length = 1 := rfl
  rw [e1]
  cases ts with
  | nil =>
    have : (textFrom 0 "[" ([] : List Str)).length = 1 := by decide +kernel
    omega
  | cons t r =>
    have e : textFrom 0 "[" (t :: r) = textFrom 1 ("[" ++ "" ++ t) r := rfl
    rw [e, textFrom_length_pos _ _ _ (by omega), strLen_append, strLen_append]
    have e2 : ((("[" : String) : Str)).length = 1 := rfl
    have e3 : ((("" : String) : Str)).length = 0 := rfl
    rw [e2, e3, piled_cons]
    omega
theorem sh_tup {ds : List D} {dp L : Nat} (h : ShL ds dp L) : Sh (.tup ds) (dp + 1) (L + 3) := by
  obtain ⟨ps, b1, b2, b3, b4, b5, b6⟩ := h.ex
  refine ⟨.tuple ps, ?_, b2, ?_, b4, b5, ?_⟩
  · show (match toPys ds with | some xs => some (PyData.tuple xs) | none => none) = _
    rw [b1]
  · show PyData.depthAll ps + 1 ≤ _
    omega
  · show (tupleText (PyData.shownAll ps)).length ≤ _
    have := tup_len (PyData.shownAll ps)
    omega
theorem sh_lst {ds : List D} {dp L : Nat} (h : ShL ds dp L) : Sh (.lst ds) (dp + 1) (L + 3) := by
  obtain ⟨ps, b1, b2, b3, b4, b5, b6⟩ := h.ex
  refine ⟨.list ps, ?_, b2, ?_, b4, b5, ?_⟩
  · show (match toPys ds with | some xs => some (PyData.list xs) | none => none) = _
    rw [b1]
  · show PyData.depthAll ps + 1 ≤ _
    omega
  · show (listText (PyData.shownAll ps)).length ≤ _
    have := lst_len (PyData.shownAll ps)
    omega
theorem shl_ints : ∀ l : List Int, (∀ x ∈ l, 0 ≤ x ∧ x < 10) → ShL (l.map D.int) 0 (4 * l.length)
  | [], _ => shl_nil
  | x :: l, h => by
    have h1 := h x List.mem_cons_self
    have := shl_cons (sh_int (i := x) (k := 1) (by omega) (by omega) (by omega)) (shl_ints l fun y hy => h y (List.mem_cons_of_mem _ hy))
    exact this.mono (Nat.le_refl _) (by rw [List.length_cons]; omega)
theorem Sh.shown {d : D} {dp L : Nat} (h : Sh d dp L) (h1 : dp ≤ 64) (h2 : L ≤ 16777216) : ∃ z, rShown d = some z := by
  obtain ⟨p, a1, a2, a3, a4, a5, a6⟩ := h.ex
  unfold rShown
  rw [a1]
  have s : SeqAt.shaped p = true := by
    unfold SeqAt.shaped
    rw [a2, decide_eq_true (show p.depth ≤ 64 by omega)]
    rfl
  have l : small p.shown.length = true := decide_eq_true (by omega)
  exact ⟨p.shown, by simp only [s, a4, a5, l]; rfl⟩
theorem wp_repr {d : D} {τ : Sto} {O : Ob} {Q : Ex → Sto → Ob → Prop} : Wp (reprB [d]) τ O Q = (match rShown d with | some z => Q ⟨.frz, .str z⟩ τ O | none => False) := by
  show Wp (opt (rShown d) >>= fun z => pure (fl (.str z))) τ O Q = _
  rw [wp_bind, wp_opt]
  cases rShown d <;> rfl
end DV
namespace DV
open PySem PySem.Spec PyProof.Rows L2 PySem.W
/-! ### != by an own == -/
section
variable {prog : Program} {w : World} {A : Around} {E : Value → Shared → Prop} {s : Shared} {K : Frag} {x C L f : Addr} {h₀ : Heap} {m : Str → Option Value} {ox : Obj} {od : Option Obj} {b tb : Value}
theorem bs_slot : ∀ self, bindSpecial (.builtin "object.__ne__") self = pure (.builtin "object.__ne__", [self]) := fun self =>
  (Slot.of (T := "object") (name := "__ne__") (owner := "object") (n := "__ne__") (by rw [typeLookup_type, builtinLookup_eq_fast]; kernel_rfl) (by decide +kernel) (by decide +kernel) (by decide +kernel)
    (.inl (by decide +kernel)) (by rw [isSubtype_type]; kernel_rfl)).bind self
theorem ifBound_S {name : Str} {id : String} {args : List Value} {Q : Option Value → Shared → Prop} (X : K.In s.heap) (I : InstAt s.heap x ox C od) (hs : findIn K (.ref C) name = some (some (.builtin id)))
    (hb : ∀ self, bindSpecial (.builtin id) self = pure (.builtin id, [self])) (h : wpAny (model prog w) A (call (.builtin id) (.ref x :: args)) (fun v => Q (some v)) E s) : wpAny (model prog w) A (callSpecialIfBound? (.ref x) name args) Q E s := by
  simp only [callSpecialIfBound?, bindSpecialIfBound?]
  refine wpAny_holding (wpAny_bind (wpAny_bind (wpAny_bind (I.type.here ((looks_findIn X hs).here ?_)))))
  refine wpAny_bind (wpAny_askSetting (wpAny_ite ?_))
  have fin : wpAny (model prog w) A (call (.builtin id) ([.ref x] ++ args) >>= fun v => pure (some v)) Q E s := wpAny_bind (wpAny_mono h (fun v s' h' => wpAny_pure h') fun _ _ h' => h')
  split
  · exact wpAny_bind ((Looks.of_pure (hb _)).here (wpAny_pure (by exact fin)))
  · exact wpAny_tryCatch (wpAny_bind ((Looks.of_pure (hb _)).here (wpAny_pure (by exact fin))))
open Builtin in
theorem ne_slot {Q : Value → Shared → Prop} (hu : A.in1.units < cLine) (X : K.In s.heap) (I : InstAt s.heap x ox C od) (hm : mroIn K C (.type "object") = some true)
    (hs : findIn K (.ref C) "__eq__" = some (some (.ref f))) (hf : isFn K (.ref f) = true)
    (h : wpAny (model prog w) A.in1 (call (.ref f) [.ref x, b]) (fun v s' => ∃ k, v = .bool k ∧ Q (.bool (!k)) s') E s) : wpAny (model prog w) A (call (.builtin "object.__ne__") [.ref x, b]) Q E s := by
  refine wpAny_call (codeAny_call_builtin (by decide +kernel) F.cmpEntry_ne (check_slot (i := "object.__ne__") (owner := "object") (n := "__ne__") F.cmpKind_ne F.cmpSplit_ne (I.type.andThen (looks_mroIn X hm)) (F.cmpArgs_ne _ _) ?_))
  unfold Builtin.«object.__ne__»
  refine wpAny_bind (m := slotArgs "__ne__" 1 _) (wpAny_pure ?_)
  refine wpAny_bind (m := cRoomFor _ _) (wpAny_cRoomFor hu ?_)
  refine wpAny_bind (m := callSpecialIfBound? (.ref x) (Str.ofString "__eq__") _) (ifBound_K X I hs hf (wpAny_mono h (fun r s' hq => ?_) fun _ _ y => y))
  obtain ⟨k, rfl, hq⟩ := hq
  refine wpAny_bind (wpAny_truthy_bool ?_)
  first | exact wpAny_pure hq | exact wpAny_pure ⟨_, rfl, hq⟩
theorem ne_K {Q : Value → Shared → Prop} (hu : A.units + 1 < cLine) (hu1 : A.in1.units < cLine) (F : Fr h₀ L s.heap m) (X₀ : K.In h₀) (I : InstAt s.heap x ox C od) (hb : Looks (model prog w) s.heap (typeOf b) tb) (hn : notFirst K C tb = true) (hm : mroIn K C (.type "object") = some true)
    (hne : findIn K (.ref C) "__ne__" = some (some (.builtin "object.__ne__"))) (hs : findIn K (.ref C) "__eq__" = some (some (.ref f))) (hf : isFn K (.ref f) = true)
    (h : wpAny (model prog w) A.in1 (call (.ref f) [.ref x, b]) (fun v s' => ∃ k, v = .bool k ∧ Q (.bool (!k)) s') E s) : wpAny (model prog w) A (richCompare .NotEq (.ref x) b) Q E s := by
  have X := X₀.keeps F.keep
  have one : wpAny (model prog w) A (tryCompare (.ref x) (cmpInfo .NotEq).2.1 b) (fun r s' => ∃ v, r = some v ∧ Q v s') E s := by
    unfold tryCompare
    refine wpAny_bind (ifBound_S (name := "__ne__") X I hne bs_slot (ne_slot hu1 X I hm hs hf (wpAny_mono h (fun v s' hv => ?_) fun _ _ e => e)))
    obtain ⟨k, rfl, hv⟩ := hv
    exact ⟨k, rfl, wpAny_pure ⟨_, rfl, hv⟩⟩
  unfold richCompare
  simp only [oneThing_ref]
  refine wpAny_holding (wpAny_bind (wpAny_cRoomFor (by omega) ?_))
  refine wpAny_bind (I.type.here (wpAny_bind (hb.here ?_)))
  split
  · rename_i q
    have e : subIn K tb (.ref C) = some false := by
      rcases Bool.or_eq_true_iff.mp hn with e | e
      · rw [beq_iff_eq.mp e] at q; simp at q
      · exact beq_iff_eq.mp e
    refine wpAny_bind ((looks_subIn X e).here ?_)
    simp only [Bool.false_eq_true, if_false]
    refine wpAny_bind (wpAny_mono one (fun r s' z => ?_) fun _ _ e => e)
    obtain ⟨v, rfl, hq⟩ := z
    exact wpAny_pure hq
  · refine wpAny_bind (wpAny_pure ?_)
    simp only [Bool.false_eq_true, if_false]
    refine wpAny_bind (wpAny_mono one (fun r s' z => ?_) fun _ _ e => e)
    obtain ⟨v, rfl, hq⟩ := z
    exact wpAny_pure hq
end
end DV
namespace DV
open PySem PySem.Spec PyProof.Rows L2
/-! ### == and != of two instances, by the class's own == -/
section
variable {X : Cx} {W : WX} {C f : Addr} {fd : FuncData} {ps : List Str} {sp : Sp} {k : Nat}
def rCmpC (C : Addr) (sp : Sp) (neg : Bool) : R2 := fun x y H Q => ∃ a dx fs b dy gs, x = .ref a ∧ y = .ref b ∧ H a = some (.ins C dx fs) ∧ H b = some (.ins C dy gs) ∧ sp [.ref a, .ref b] H (fun v H' => ∃ j, v = .bl j ∧ Q (.bl (neg != j)) H') E00
theorem op_neC (G : FnG X.prog X.w X.K X.mg X.base k f fd ps sp) (hr : Room (k + 1) X.A) (hgd : X.A.guards = some []) (hb : Binds X.K fd ps [])
    (hm : PySem.W.mroIn X.K C (.type "object") = some true) (hne : PySem.W.findIn X.K (.ref C) "__ne__" = some (some (.builtin "object.__ne__"))) (hs : PySem.W.findIn X.K (.ref C) "__eq__" = some (some (.ref f))) (hf : PySem.W.isFn X.K (.ref f) = true) :
    OpR X (compareOp .NotEq) (rCmpC C sp true) := by
  intro pins s σ H x y v u Q I rx ry hq
  obtain ⟨a, dx, fs, b, dy, gs, rfl, rfl, ha, hb', hsp⟩ := hq
  cases rx
  cases ry
  show wpAny (model X.prog X.w) X.A (richCompare .NotEq (.ref a) (.ref b)) (EP X pins σ Q) X.xe s
  obtain ⟨mA, J, _⟩ := ins_get I.hok ha
  obtain ⟨mB, J', _⟩ := ins_get I.hok hb'
  obtain ⟨od, J, _⟩ := J.look
  obtain ⟨od', J', _⟩ := J'.look
  obtain ⟨m, hF⟩ := I.fr
  have u0 := hr.units
  refine ne_K (tb := .ref C) (by omega) hr.in1.units0 hF I.ok.mod.kin J J'.type (by simp [PySem.W.notFirst]) hm hne hs hf ?_
  have hl := G.len _ _ _ _ hsp
  have r2 : Vals [V.ref a, V.ref b] [Value.ref a, Value.ref b] := .cons rfl (.cons rfl .nil)
  have bd := hb s [.ref a, .ref b] I.kIn (by simpa using hl)
  rw [List.append_nil] at bd
  refine wpAny_call (codeAny_mono (G.run X.A.in1 X.stack s H ⟨[.ref a, .ref b], []⟩ [.ref a, .ref b] [.ref a, .ref b] _ E00 hr.in1 hgd I.env0.in1 bd r2 hsp) fun r s' hq => ?_)
  rcases r with er | fl
  · obtain ⟨_, _, _, _, _, _, _, _, _, _, _, _, _, no⟩ := hq
  · cases fl with
    | ret w =>
      obtain ⟨z, H', I', rz, j, ez, q⟩ := I.after hq
      subst ez
      cases rz
      exact ⟨j, rfl, .bl (!j), H', I', rfl, by simpa using q⟩
    | next => exact (show False from hq).elim
    | brk => exact (show False from hq).elim
    | cont => exact (show False from hq).elim
theorem op_eqC (G : FnG X.prog X.w X.K X.mg X.base k f fd ps sp) (hr : Room (k + 1) X.A) (hgd : X.A.guards = some []) (hb : Binds X.K fd ps [])
    (hs : PySem.W.findIn X.K (.ref C) "__eq__" = some (some (.ref f))) (hf : PySem.W.isFn X.K (.ref f) = true) :
    OpR X (compareOp .Eq) (rCmpC C sp false) := by
  intro pins s σ H x y v u Q I rx ry hq
  obtain ⟨a, dx, fs, b, dy, gs, rfl, rfl, ha, hb', hsp⟩ := hq
  cases rx
  cases ry
  show wpAny (model X.prog X.w) X.A (richCompare .Eq (.ref a) (.ref b)) (EP X pins σ Q) X.xe s
  obtain ⟨mA, J, _⟩ := ins_get I.hok ha
  obtain ⟨mB, J', _⟩ := ins_get I.hok hb'
  obtain ⟨od, J, _⟩ := J.look
  obtain ⟨od', J', _⟩ := J'.look
  obtain ⟨m, hF⟩ := I.fr
  refine PySem.W.cmp_K (op := .Eq) (tb := .ref C) hr.units0 hF I.ok.mod.kin J J'.type (by simp [PySem.W.notFirst]) hs hf ?_
  have hl := G.len _ _ _ _ hsp
  have r2 : Vals [V.ref a, V.ref b] [Value.ref a, Value.ref b] := .cons rfl (.cons rfl .nil)
  have bd := hb s [.ref a, .ref b] I.kIn (by simpa using hl)
  rw [List.append_nil] at bd
  refine wpAny_call (codeAny_mono (G.run X.A X.stack s H ⟨[.ref a, .ref b], []⟩ [.ref a, .ref b] [.ref a, .ref b] _ E00 (hr.mono (Nat.le_succ _)) hgd I.env0 bd r2 hsp) fun r s' hq => ?_)
  rcases r with er | fl
  · obtain ⟨_, _, _, _, _, _, _, _, _, _, _, _, _, no⟩ := hq
  · cases fl with
    | ret w =>
      obtain ⟨z, H', I', rz, j, ez, q⟩ := I.after hq
      subst ez
      cases rz
      exact ⟨.bl j, H', I', rfl, by simpa using q⟩
    | next => exact (show False from hq).elim
    | brk => exact (show False from hq).elim
    | cont => exact (show False from hq).elim
/-! ### by data -/
structure EqF (P : Program) (w : World) (K : PySem.W.Frag) (mg : Str → Option Value) (base : Heap) (c : Str) (k : Nat) (m : Mir) : Prop where
  ex : ∃ (C f : Addr) (fd : FuncData) (ps : List Str), mg c = some (.ref C) ∧ PySem.W.findIn K (.ref C) "__eq__" = some (some (.ref f)) ∧ PySem.W.isFn K (.ref f) = true ∧ PySem.W.mroIn K C (.type "object") = some true ∧
    PySem.W.findIn K (.ref C) "__ne__" = some (some (.builtin "object.__ne__")) ∧ FnG P w K mg base k f fd ps (spM K mg m) ∧ Binds K fd ps []
def cmpM (c : Str) (neg : Bool) (m : Mir) (x y : D) : Mm Ex := isC c x >>= fun _ => isC c y >>= fun _ => noEx (callN m [⟨.frz, x⟩, ⟨.frz, y⟩]) >>= fun z => match z with
  | ⟨.frz, .bl j⟩ => blE (neg != j)
  | _ => bad
theorem cmp_of {C : Addr} {cn : Str} {m : Mir} {neg : Bool} (hm : X.mg cn = some (.ref C)) : Op2 X W (rCmpC C (spM X.K X.mg m) neg) (cmpM cn neg m) := by
  intro c0 c u v dx dy Q a hσ ru rv hp
  obtain ⟨i, p, C', ddx, fvs, fs, rfl, rfl, hO, e1, e2, e4, hp2⟩ := isC_ok a.rl ru (by rw [hm]; rfl) hp
  rw [hm] at e1
  cases e1
  obtain ⟨i', p', C2, ddx', fvs', fs', rfl, rfl, hO', f1, f2, f4, hp3⟩ := isC_ok a.rl rv (by rw [hm]; rfl) hp2
  rw [hm] at f1
  cases f1
  refine ⟨p, ddx, fvs, p', ddx', fvs', rfl, rfl, e2, f2, ?_⟩
  have hp4 : Post X.K X.mg W0 (ExV X.K X.mg) c0 (callN m [⟨.frz, .ref i⟩, ⟨.frz, .ref i'⟩] c.τ c.O) (fun v H' => ∃ j, v = .bl j ∧ Q (.bl (neg != j)) H') := by
    have e : Post X.K X.mg W (ExV X.K X.mg) c0 ((noEx (callN m [⟨.frz, .ref i⟩, ⟨.frz, .ref i'⟩]) >>= fun z => match z with
      | ⟨.frz, .bl j⟩ => blE (neg != j)
      | _ => bad) c.τ c.O) Q := hp3
    rw [bind_app] at e
    unfold noEx at e
    cases r : callN m [⟨.frz, .ref i⟩, ⟨.frz, .ref i'⟩] c.τ c.O with
    | ok y τ O =>
      rw [r] at e
      obtain ⟨yk, yd⟩ := y
      cases yk with
      | frz =>
        cases yd with
        | bl j =>
          intro v H' F' μ' b hy
          cases hy
          exact ⟨j, rfl, e (.bl (neg != j)) H' F' μ' b (.bl _)⟩
        | _ => exact e.elim
      | tmp => cases yd <;> exact e.elim
      | slot _ => cases yd <;> exact e.elim
    | ex _ _ _ _ => rw [r] at e; exact e.elim
    | bad => rw [r] at e; exact e.elim
  exact callN_ok (W := W0) a hσ (ExVs.consF e4 (ExVs.consF f4 .nil)) hp4
theorem bi_neC {cn : Str} {k j : Nat} {m : Mir} (hS : Std X W k) (hc : EqF X.prog X.w X.K X.mg X.base cn j m) (hj : j + 1 ≤ k := by decide) : Bi X W (compareOp .NotEq) (cmpM cn true m) := by
  obtain ⟨C, f, fd, ps, hm, hs, hf, hmro, hne, G, hb⟩ := hc.ex
  exact ⟨_, op_neC G (hS.room.mono hj) hS.grd hb hmro hne hs hf, cmp_of hm⟩
theorem bi_eqC {cn : Str} {k j : Nat} {m : Mir} (hS : Std X W k) (hc : EqF X.prog X.w X.K X.mg X.base cn j m) (hj : j + 1 ≤ k := by decide) : Bi X W (compareOp .Eq) (cmpM cn false m) := by
  obtain ⟨C, f, fd, ps, hm, hs, hf, hmro, hne, G, hb⟩ := hc.ex
  exact ⟨_, op_eqC G (hS.room.mono hj) hS.grd hb hs hf, cmp_of hm⟩
end
end DV
namespace DV
open PySem PySem.Spec PyProof.Rows L2
/-! ### a def called with keywords, in any order -/
def prm {α : Type} (z : α) (pi : List Nat) (l : List α) : List α := pi.map fun i => l.getD i z
def KwP (K : PySem.W.Frag) (fd : FuncData) (ps : List Str) (n : Nat) (ks : List Str) (pi : List Nat) (ds : List Value) : Prop := ∀ (s : Shared) (us ws : List Value), K.In s.heap → us.length = n → ws.length = ks.length → BindsTo s fd ⟨us, ks.zip ws⟩ (ps.zip (us ++ prm .none pi ws ++ ds))
theorem vals_prm {zs : List V} {ws : List Value} (r : Vals zs ws) : ∀ pi : List Nat, Vals (prm V.non pi zs) (prm Value.none pi ws)
  | [] => .nil
  | i :: pi => by
    refine .cons ?_ (vals_prm r pi)
    show RelV (zs.getD i V.non) (ws.getD i Value.none)
    rw [List.getD_eq_getElem?_getD, List.getD_eq_getElem?_getD]
    cases q : zs[i]? with
    | none => rw [r.none_of q]; rfl
    | some v =>
      obtain ⟨u, hu, ru⟩ := r.get q
      rw [hu]
      exact ru
section
variable {X : Cx} {W : WX} {f : Addr} {fd : FuncData} {ps : List Str} {sp : Sp} {k n : Nat} {ks : List Str} {pi : List Nat} {ds : List Value} {dvs : List V}
theorem run_callK {pins : List (Addr × Obj)} {σ : L2.St} {H : Hp} {s : Shared} {Q : VK} {us ws : List Value} {vs zs : List V} (G : FnG X.prog X.w X.K X.mg X.base k f fd ps sp) (hr : Room k X.A) (hg : X.A.guards = some []) (hb : KwP X.K fd ps n ks pi ds) (hd : Vals dvs ds)
    (tk : Takes X W) (I : Inv X pins σ H s) (r : Vals vs us) (rz : Vals zs ws) (l1 : vs.length = n) (l2 : zs.length = ks.length) (h : sp (vs ++ prm .non pi zs ++ dvs) H Q (WE W σ)) :
    wpAny (model X.prog X.w) X.A (call (.ref f) us (ks.zip ws)) (EP X pins σ Q) X.xe s := by
  have rel : Vals (vs ++ prm .non pi zs ++ dvs) (us ++ prm .none pi ws ++ ds) := (r.append (vals_prm rz pi)).append hd
  refine wpAny_call (codeAny_mono (G.run X.A X.stack s H ⟨us, ks.zip ws⟩ _ _ Q _ hr hg I.env0 (hb s us ws I.kIn (r.length.symm.trans l1) (rz.length.symm.trans l2)) rel h) fun res s' hq => ?_)
  match res, hq with
  | .error e, hq => exact passAt tk σ pins H s e s' I hq
  | .ok (.ret u), hq => exact I.after hq
  | .ok .next, hq => exact hq.elim
  | .ok .brk, hq => exact hq.elim
  | .ok .cont, hq => exact hq.elim
theorem pe_callKw {x : Str} {np pos : Pos} {e : Expr} {es : List Expr} {kws : List Keyword} {t tk' : TA} (G : FnG X.prog X.w X.K X.mg X.base k f fd ps sp) (hr : Room k X.A) (hgd : X.A.guards = some []) (hg : Gl X x) (hm : X.mg x = some (.ref f)) (hkp : PySem.W.keepIn X.K (.ref f) = true) (hb : KwP X.K fd ps n ks pi ds) (hd : Vals dvs ds) (tk : Takes X W)
    (ha : PA X (e :: es) t) (hkw : PK X kws tk') (hall : (backToKw pos (keywordEach kws X.env)).all (·.1.isSome) = true) (hks : (backToKw pos (keywordEach kws X.env)).filterMap (·.1) = ks) (hdb : (x == ("__debug__" : Str)) = false)
    (he : starEach (e :: es) X.env = (false, eval e X.env) :: starEach es X.env) (hpl : ((backTo pos (starEach (e :: es) X.env)).any (·.1) || (backToKw pos (keywordEach kws X.env)).any (·.1.isNone)) = false) :
    PE X (.Call (.Name x np) (e :: es) kws pos) (fun σ H Q => t σ H fun vs H1 => tk' σ H1 fun zs H2 => vs.length = n ∧ zs.length = ks.length ∧ sp (vs ++ prm .non pi zs ++ dvs) H2 Q (WE W σ)) := by
  refine ⟨fun pins s σ H Q I h => wpAny_Call_Name_kw (ld_glob I hg hm (PySem.W.callWith_KW (h₀ := X.base) I.ok.mod.kin hkp hall (thn (ha.run pos pins s σ H _ I h) fun us s1 ⟨vs, H1, I1, r, q⟩ => ?_) hpl he) hdb)⟩
  refine thn (hkw.run pos pins s1 σ H1 _ I1 q) fun ws s2 ⟨zs, H2, I2, rz, l1, l2, q2⟩ => ⟨I2.kIn, ?_⟩
  rw [hks]
  exact run_callK G hr hgd hb hd tk I2 r rz l1 l2 q2
end
structure CalleeK (P : Program) (w : World) (K : PySem.W.Frag) (mg : Str → Option Value) (base : Heap) (x : Str) (n : Nat) (ks : List Str) (pi : List Nat) (k : Nat) (m : Mir) (dfl : List D) : Prop where
  ex : ∃ (f : Addr) (fd : FuncData) (ps : List Str) (ds : List Value), mg x = some (.ref f) ∧ PySem.W.keepIn K (.ref f) = true ∧ FnG P w K mg base k f fd ps (spM K mg m) ∧ KwP K fd ps n ks pi ds ∧ Vals (dfl.map vof) ds
def callKM (n nk : Nat) (pi : List Nat) (fa fk : Mm (List Ex)) (m : Mir) (dfl : List D) : Mm Ex := fa >>= fun xs => fk >>= fun zs => if xs.length = n ∧ zs.length = nk ∧ frzs zs = true then callN m (xs ++ prm (fl .non) pi zs ++ dfl.map fl) else bad
section
variable {X : Cx} {W : WX}
theorem exvs_prm {K : PySem.W.Frag} {mg : Str → Option Value} {c0 c : Cf} {zs : List Ex} {ws : List V} (h : ExVs K mg c0 c zs ws) (hp : frzs zs = true) : ∀ pi : List Nat, ExVs K mg c0 c (prm (fl .non) pi zs) (prm V.non pi ws)
  | [] => .nil
  | i :: pi => by
    have hd := frzs_dat h hp
    have e : ∃ d, zs.getD i (fl .non) = fl d ∧ Dat K mg c.F c.μ (ws.getD i V.non) d := by
      rw [List.getD_eq_getElem?_getD, List.getD_eq_getElem?_getD]
      cases q : zs[i]? with
      | none =>
        have : ws[i]? = none := by
          rw [List.getElem?_eq_none_iff] at q ⊢
          have := hd.length
          rw [List.length_map] at this
          omega
        rw [this]
        exact ⟨.non, rfl, .non⟩
      | some z =>
        obtain ⟨v, hv, dv⟩ := hd.get (i := i) (d := z.d) (by rw [List.getElem?_map, q]; rfl)
        rw [hv]
        have hz : z ∈ zs := List.mem_of_getElem? q
        have hk := List.all_eq_true.1 hp z hz
        obtain ⟨zk, zd⟩ := z
        cases zk with
        | frz => exact ⟨zd, rfl, dv⟩
        | _ => cases hk
    obtain ⟨d, e1, e2⟩ := e
    show ExVs K mg c0 c (zs.getD i (fl .non) :: prm (fl .non) pi zs) (ws.getD i V.non :: prm V.non pi ws)
    rw [e1]
    exact ExVs.consF e2 (exvs_prm h hp pi)
theorem exvs_tmps {K : PySem.W.Frag} {mg : Str → Option Value} {c0 c1 c : Cf} {xs : List Ex} {vs : List V} (h : ExVs K mg c0 c1 xs vs) : True := trivial
theorem de_callKw {x : Str} {np pos : Pos} {e : Expr} {es : List Expr} {kws : List Keyword} {k j n : Nat} {ks : List Str} {pi : List Nat} {m : Mir} {dfl : List D} {fa fk : Mm (List Ex)} (hS : Std X W k) (hc : CalleeK X.prog X.w X.K X.mg X.base x n ks pi j m dfl) (ha : DAs X W (e :: es) fa) (hk : DKs X W kws fk) (hj : j ≤ k := by decide) (hfl : dfl.all flat = true := by decide)
    (hall : (backToKw pos (keywordEach kws X.env)).all (·.1.isSome) = true := by rfl) (hks : (backToKw pos (keywordEach kws X.env)).filterMap (·.1) = ks := by rfl) (hg : Gl X x := by rfl) (hdb : (x == ("__debug__" : Str)) = false := by decide)
    (he : starEach (e :: es) X.env = (false, eval e X.env) :: starEach es X.env := by rfl) (hpl : ((backTo pos (starEach (e :: es) X.env)).any (·.1) || (backToKw pos (keywordEach kws X.env)).any (·.1.isNone)) = false := by rfl) :
    DE X W (.Call (.Name x np) (e :: es) kws pos) (callKM n ks.length pi fa fk m dfl) := by
  obtain ⟨f, fd, ps, ds, hm, hkp, G, hb, hd⟩ := hc.ex
  refine PE.imp (pe_callKw (G.mono hj) hS.room hS.grd hg hm hkp hb hd hS.tk ha hk hall hks hdb he hpl) fun σ H Q q => ?_
  refine post_fst q fun c xs c2 vs r hσ hH a2 hσ2 hv hp => ?_
  rw [← hσ]
  refine post_seq a2 hσ2 hp fun zs c3 ws a3 hσ3 hz hp2 => ?_
  by_cases hl : xs.length = n ∧ zs.length = ks.length ∧ frzs zs = true
  · rw [if_pos hl] at hp2
    refine ⟨hv.length.symm.trans hl.1, hz.length.symm.trans hl.2.1, ?_⟩
    exact callN_ok (a2.trans a3) hσ3 ((ExVs.join a2 (hv.aft a2.rl a3 (hσ3.trans hσ2.symm)) hv.tmps (exvs_prm hz hl.2.2 pi)).app hfl) hp2
  · rw [if_neg hl] at hp2
    exact hp2.elim
end
/-! ### the head -/
def eqcB (K : PySem.W.Frag) (c : Str) : Bool := PySem.W.mroIn K (He.ga K c) (.type "object") == some true && PySem.W.findIn K (.ref (He.ga K c)) "__ne__" == some (some (.builtin "object.__ne__"))
theorem eqc_of {K : PySem.W.Frag} {c : Str} (h : eqcB K c = true) : PySem.W.mroIn K (He.ga K c) (.type "object") = some true ∧ PySem.W.findIn K (.ref (He.ga K c)) "__ne__" = some (some (.builtin "object.__ne__")) := by
  unfold eqcB at h
  rw [Bool.and_eq_true, beq_iff_eq, beq_iff_eq] at h
  exact h
theorem kwp_of {K : PySem.W.Frag} {x qual : Str} {params : Arguments} {body : List Stmt} {scope : Scope} {kws : List (Str × V)} {f : Addr} {fd : FuncData} {ps : List Str} (F : FunD K x qual params body scope [] kws f fd) (n : Nat) (ks : List Str) (pi : List Nat)
    (h : ∀ (kV doc pm : Value) (an : Option Addr) (cdv ct : Value) (us ws : List Value), us.length = n → ws.length = ks.length → bindArgs (PySem.W.fnOf x qual params body scope .none kV doc pm an cdv ct) ⟨us, ks.zip ws⟩ = pure (ps.zip (us ++ prm .none pi ws))) : KwP K fd ps n ks pi [] := by
  obtain ⟨_, _, _, kV, doc, pm, an, cdv, ct, _, rfl, _, _, hD, _⟩ := F.ex
  rcases hD with ⟨_, rfl⟩ | ⟨e, _⟩
  · intro s us ws X l1 l2
    refine BindsTo.of_looks fun M => ?_
    rw [h kV doc pm an cdv ct us ws l1 l2, List.append_nil]
    exact .of_pure rfl
  · exact absurd rfl e
end DV
namespace DV
open PySem PySem.Spec PyProof.Rows L2
/-! ### an own object's __len__, __str__, __repr__ asked by len, str, repr, bool -/
section
open PySem.W PySem.Calls Builtin
variable {prog : Program} {w : World} {M : Model} {A : Around} {E : Value → Shared → Prop} {s : Shared} {K : Frag} {x C f : Addr} {ox : Obj} {od : Option Obj}
open Builtin.Str in
theorem str_own {Q : Value → Shared → Prop} (hu : A.in1.in1.units < cLine) (X : K.In s.heap) (I : InstAt s.heap x ox C od) (hs : findIn K (.ref C) "__str__" = some (some (.ref f))) (hf : isFn K (.ref f) = true)
    (h : wpAny (model prog w) A.in1.in1 (call (.ref f) [.ref x]) (fun v s' => ∃ y t, v = .str y t ∧ Q (.str y t) s') E s) : wpAny (model prog w) A (call (.type "str") [.ref x]) Q E s := by
  refine callType_codes (T := "str") (Bi := Builtin.«object.__init__») (Q₁ := fun r s₁ => ∃ y u, r = .str y u ∧ Q r s₁) PySem.F.called_str (PySem.F.typeCall_str_1 _) PySem.F.entry_object_init ?_ ?_
  · refine codeAny_of_tree ?_
    show wpAny _ A.in1.in1 (do checkBuiltinCall "str.__new__" ⟨[.type "str", .ref x], []⟩; again (.builtin "str.__new__" ⟨[.type "str", .ref x], []⟩)) _ _ s
    refine wpAny_bind (wpAny_of_eq (PySem.F.newCall_str_1 _) (wpAny_pure ⟨plainId_quiet (by decide +kernel) _, codeAny_builtin PySem.F.entry_str_new ?_⟩))
    rw [Around.under_plainId (by decide +kernel) _]
    rw [str_new_tree]
    refine wpAny_bind (wpAny_pure ?_)
    refine wpAny_bind (wpAny_of_eq isSubtype_str_str ?_)
    have key : wpAny (model prog w) A.in1.in1 (PySem.Builtin.Str.strOf (.ref x)) (fun r s₁ => ∃ y u, r = .str y u ∧ Q r s₁) E s := by
      unfold PySem.Builtin.Str.strOf
      rw [show isExactStr (.ref x) = false from rfl]
      refine wpAny_bind (m := cRoomFor _ _) (wpAny_cRoomFor hu ?_)
      refine wpAny_bind (m := callSpecial? (.ref x) (Str.ofString "__str__")) (special_fn X I hs (beq_iff_eq.mp hf) (wpAny_mono h (fun r s' z => ?_) fun _ _ y => y))
      obtain ⟨y, t, rfl, z⟩ := z
      exact wpAny_pure ⟨_, _, rfl, z⟩
    exact wpAny_bind (wpAny_mono key (fun r s₁ hr => wpAny_pure hr) fun _ _ y => y)
  · rintro obj s₁ ⟨y, u, rfl, hq⟩
    exact ⟨typeIs_str _ _ _, PySem.F.args_object_init_2 _ _, object_init_meets PySem.F.called_str.init.lookup PySem.F.called_str.made (by decide) prog w A.in1 _ s₁ ⟨typeIs_str _ _ _, rfl, hq⟩⟩
theorem truthy_len {Q : Bool → Shared → Prop} (X : K.In s.heap) (I : InstAt s.heap x ox C od) (hb : findIn K (.ref C) "__bool__" = some none) (hs : findIn K (.ref C) "__len__" = some (some (.ref f))) (hf : isFn K (.ref f) = true)
    (h : wpAny (model prog w) A.in1 (call (.ref f) [.ref x]) (fun v s' => ∃ n t, v = .int n t ∧ 0 ≤ n ∧ n < 2 ^ 62 ∧ Q (n != 0) { s' with toks := s'.toks + 1 }) E s) : wpAny (model prog w) A (truthy (.ref x)) Q E s := by
  unfold truthy
  refine wpAny_bind (m := callSpecial? (.ref x) (Str.ofString "__bool__")) (wpAny_bind (wpAny_bind (I.type.here ((looks_findIn X hb).here (wpAny_pure ?_)))))
  refine wpAny_bind (m := specialOf (.ref x) (Str.ofString "__len__")) (wpAny_bind (I.type.here ((looks_findIn X hs).here ?_)))
  show wpAny _ _ (if (some (Value.ref f)).isNone = true then _ else _) _ _ _
  rw [if_neg (by simp)]
  refine wpAny_bind (wpAny_runValue (codeAny_builtin entry_len ?_))
  rw [Around.under_plainId plain_len _]
  unfold Builtin.«len»
  refine wpAny_bind (m := oneArg "len" _) (wpAny_pure ?_)
  refine wpAny_bind (m := callSpecial? (.ref x) (Str.ofString "__len__")) (special_fn X I hs (beq_iff_eq.mp hf) (wpAny_mono h (fun r s' z => ?_) fun _ _ y => y))
  obtain ⟨n, t, rfl, h0, h1, z⟩ := z
  refine wpAny_bind (wpAny_holding (wpAny_pure ?_))
  refine wpAny_bind (wpAny_letGo ?_)
  show wpAny _ _ (if n < 0 then _ else _) _ _ _
  rw [if_neg (by omega)]
  show wpAny _ _ (if n ≥ 2 ^ 63 then _ else _) _ _ _
  rw [if_neg (by omega)]
  exact wpAny_bind (wpAny_mkInt (wpAny_pure (wpAny_pure z)))
theorem bool_own {Q : Value → Shared → Prop} (X : K.In s.heap) (I : InstAt s.heap x ox C od) (hb : findIn K (.ref C) "__bool__" = some none) (hs : findIn K (.ref C) "__len__" = some (some (.ref f))) (hf : isFn K (.ref f) = true)
    (h : wpAny (model prog w) A.in1.in1.in1 (call (.ref f) [.ref x]) (fun v s' => ∃ n t, v = .int n t ∧ 0 ≤ n ∧ n < 2 ^ 62 ∧ Q (.bool (n != 0)) { s' with toks := s'.toks + 1 }) E s) : wpAny (model prog w) A (call (.type "bool") [.ref x]) Q E s := by
  refine callType_codes (T := "bool") (Bi := Builtin.«object.__init__») (Q₁ := fun r s₁ => ∃ y, r = .bool y ∧ Q r s₁) PySem.F.called_bool (PySem.F.typeCall_bool_1 _) PySem.F.entry_object_init ?_ ?_
  · refine codeAny_of_tree ?_
    show wpAny _ A.in1.in1 (do checkBuiltinCall "bool.__new__" ⟨[.type "bool", .ref x], []⟩; again (.builtin "bool.__new__" ⟨[.type "bool", .ref x], []⟩)) _ _ s
    refine wpAny_bind (wpAny_of_eq (PySem.F.newCall_bool_1 _) (wpAny_pure ⟨plainId_quiet (by decide +kernel) _, codeAny_builtin PySem.F.entry_bool_new ?_⟩))
    rw [Around.under_plainId (by decide +kernel) _]
    unfold Builtin.«bool.__new__»
    have f1 := PySem.F.conv_sub_bool
    have key : wpAny (model prog w) A.in1.in1 (truthy (.ref x)) (fun b s' => Q (.bool b) s') E s := truthy_len X I hb hs hf h
    refine wpAny_bind (wpAny_pure ?_)
    refine wpAny_bind (wpAny_of_eq f1 ?_)
    refine wpAny_bind (m := someArgs "bool" 0 1 _) (wpAny_pure ?_)
    refine wpAny_bind (wpAny_mono key (fun b s' hb => wpAny_pure ⟨_, rfl, hb⟩) fun _ _ y => y)
  · rintro obj s₁ ⟨y, rfl, hq⟩
    exact ⟨PySem.typeIs_bool _ _, PySem.F.args_object_init_2 _ _, object_init_meets PySem.F.called_bool.init.lookup PySem.F.called_bool.made (by decide) prog w A.in1 _ s₁ ⟨PySem.typeIs_bool _ _, rfl, hq⟩⟩
end
/-! ### by data -/
def rOwn1 (C : Addr) (sp : Sp) (P : V → Prop) (f : V → V) : List V → Hp → VK → Prop := fun xs H Q => ∃ a dx fs, xs = [.ref a] ∧ H a = some (.ins C dx fs) ∧ sp [.ref a] H (fun v H' => P v ∧ Q (f v) H') E00
def lenV (v : V) : Prop := ∃ n : Int, v = .int n ∧ 0 ≤ n ∧ n < 2 ^ 62
def strV (v : V) : Prop := ∃ z : Str, v = .str z
def truN : V → V
  | .int n => .bl (n != 0)
  | v => v
section
variable {X : Cx} {W : WX} {C f : Addr} {fd : FuncData} {ps : List Str} {sp : Sp} {k : Nat}
theorem run1 {A : Around} {pins : List (Addr × Obj)} {σ : L2.St} {H : Hp} {s : Shared} {a : Addr} {P : V → Hp → Prop} {Q : Value → Shared → Prop} (G : FnG X.prog X.w X.K X.mg X.base k f fd ps sp) (hr : Room k A) (hgd : A.guards = some []) (hb : Binds X.K fd ps [])
    (I : Inv X pins σ H s) (e0 : Env0 X.prog X.w X.K X.mg X.base A X.stack s H) (hsp : sp [.ref a] H P E00) (h : ∀ v u H' s', Inv X pins σ H' s' → L2.RelV v u → P v H' → Q u s') : wpAny (model X.prog X.w) A (call (.ref f) [.ref a]) Q X.xe s := by
  have hl := G.len _ _ _ _ hsp
  have r2 : Vals [V.ref a] [Value.ref a] := .cons rfl .nil
  have bd := hb s [.ref a] I.kIn (by simpa using hl)
  rw [List.append_nil] at bd
  refine wpAny_call (codeAny_mono (G.run A X.stack s H ⟨[.ref a], []⟩ [.ref a] [.ref a] _ E00 hr hgd e0 bd r2 hsp) fun r s' hq => ?_)
  rcases r with er | fl
  · obtain ⟨_, _, _, _, _, _, _, _, _, _, _, _, _, no⟩ := hq
  · cases fl with
    | ret w =>
      obtain ⟨z, H', I', rz, q⟩ := I.after hq
      exact h _ _ _ _ I' rz q
    | next => exact (show False from hq).elim
    | brk => exact (show False from hq).elim
    | cont => exact (show False from hq).elim
theorem call_lenG (G : FnG X.prog X.w X.K X.mg X.base k f fd ps sp) (hr : Room (k + 3) X.A) (hgd : X.A.guards = some []) (hb : Binds X.K fd ps []) (hs : PySem.W.findIn X.K (.ref C) "__len__" = some (some (.ref f))) (hf : PySem.W.isFn X.K (.ref f) = true) :
    CallR X (.builtin "len") (rOwn1 C sp lenV id) := by
  intro pins s σ H xs us Q I r h
  obtain ⟨a, dx, fs, rfl, ha, hsp⟩ := h
  obtain ⟨u, rfl, ru⟩ := vals1 r
  obtain rfl : u = Value.ref a := ru
  obtain ⟨mA, J, _⟩ := ins_get I.hok ha
  obtain ⟨od, J, _⟩ := J.look
  obtain ⟨m, hF⟩ := I.fr
  refine PySem.W.len_K hF I.ok.mod.kin J hs hf (run1 G (hr.in1.mono (by omega)) hgd hb I I.env0.in1 hsp fun v u H' s' I' rv q => ?_)
  obtain ⟨⟨n, rfl, h0, h1⟩, q⟩ := q
  obtain ⟨t, rfl⟩ := rv
  exact ⟨⟨h0, by omega⟩, .int n, H', I'.tok _, ⟨_, rfl⟩, q⟩
theorem call_reprG (G : FnG X.prog X.w X.K X.mg X.base k f fd ps sp) (hr : Room (k + 3) X.A) (hgd : X.A.guards = some []) (hb : Binds X.K fd ps []) (hs : PySem.W.findIn X.K (.ref C) "__repr__" = some (some (.ref f))) (hf : PySem.W.isFn X.K (.ref f) = true) :
    CallR X (.builtin "repr") (rOwn1 C sp strV id) := by
  intro pins s σ H xs us Q I r h
  obtain ⟨a, dx, fs, rfl, ha, hsp⟩ := h
  obtain ⟨u, rfl, ru⟩ := vals1 r
  obtain rfl : u = Value.ref a := ru
  obtain ⟨mA, J, _⟩ := ins_get I.hok ha
  obtain ⟨od, J, _⟩ := J.look
  obtain ⟨m, hF⟩ := I.fr
  refine PySem.W.repr_K (by have := hr.in1.un; omega) hF I.ok.mod.kin J hs hf (run1 G (hr.in1.mono (by omega)) hgd hb I I.env0.in1 hsp fun v u H' s' I' rv q => ?_)
  obtain ⟨⟨z, rfl⟩, q⟩ := q
  obtain ⟨t, rfl⟩ := rv
  exact ⟨.str z, H', I', ⟨_, rfl⟩, q⟩
theorem call_strG (G : FnG X.prog X.w X.K X.mg X.base k f fd ps sp) (hr : Room (k + 3) X.A) (hgd : X.A.guards = some []) (hb : Binds X.K fd ps []) (hs : PySem.W.findIn X.K (.ref C) "__str__" = some (some (.ref f))) (hf : PySem.W.isFn X.K (.ref f) = true) :
    CallR X (.type "str") (rOwn1 C sp strV id) := by
  intro pins s σ H xs us Q I r h
  obtain ⟨a, dx, fs, rfl, ha, hsp⟩ := h
  obtain ⟨u, rfl, ru⟩ := vals1 r
  obtain rfl : u = Value.ref a := ru
  obtain ⟨mA, J, _⟩ := ins_get I.hok ha
  obtain ⟨od, J, _⟩ := J.look
  have hr2 : Room (k + 1) X.A.in1.in1 := hr.in1.in1
  refine str_own (by have := hr2.un; omega) I.kIn J hs hf (run1 G (hr2.mono (by omega)) hgd hb I I.env0.in1.in1 hsp fun v u H' s' I' rv q => ?_)
  obtain ⟨⟨z, rfl⟩, q⟩ := q
  obtain ⟨t, rfl⟩ := rv
  exact ⟨z, t, rfl, .str z, H', I', ⟨_, rfl⟩, q⟩
theorem call_boolG (G : FnG X.prog X.w X.K X.mg X.base k f fd ps sp) (hr : Room (k + 3) X.A) (hgd : X.A.guards = some []) (hb : Binds X.K fd ps []) (hbb : PySem.W.findIn X.K (.ref C) "__bool__" = some none) (hs : PySem.W.findIn X.K (.ref C) "__len__" = some (some (.ref f))) (hf : PySem.W.isFn X.K (.ref f) = true) :
    CallR X (.type "bool") (rOwn1 C sp lenV truN) := by
  intro pins s σ H xs us Q I r h
  obtain ⟨a, dx, fs, rfl, ha, hsp⟩ := h
  obtain ⟨u, rfl, ru⟩ := vals1 r
  obtain rfl : u = Value.ref a := ru
  obtain ⟨mA, J, _⟩ := ins_get I.hok ha
  obtain ⟨od, J, _⟩ := J.look
  have hr3 : Room k X.A.in1.in1.in1 := hr.in1.in1.in1
  refine bool_own I.kIn J hbb hs hf (run1 G hr3 hgd hb I I.env0.in1.in1.in1 hsp fun v u H' s' I' rv q => ?_)
  obtain ⟨⟨n, rfl, h0, h1⟩, q⟩ := q
  obtain ⟨t, rfl⟩ := rv
  exact ⟨n, t, rfl, h0, h1, .bl (n != 0), H', I'.tok _, rfl, q⟩
end
end DV
namespace DV
open PySem PySem.Spec PyProof.Rows L2
/-! ### len, str, repr, bool of what may be an own object -/
structure OwnF (P : Program) (w : World) (K : PySem.W.Frag) (mg : Str → Option Value) (base : Heap) (c n : Str) (k : Nat) (m : Mir) : Prop where
  ex : ∃ (C f : Addr) (fd : FuncData) (ps : List Str), mg c = some (.ref C) ∧ PySem.W.findIn K (.ref C) n = some (some (.ref f)) ∧ PySem.W.isFn K (.ref f) = true ∧ PySem.W.findIn K (.ref C) "__bool__" = some none ∧ FnG P w K mg base k f fd ps (spM K mg m) ∧ Binds K fd ps []
def chkLen : D → Option D
  | .int n => if 0 ≤ n ∧ n < 2 ^ 62 then some (.int n) else none
  | _ => none
def chkStr : D → Option D
  | .str z => some (.str z)
  | _ => none
def chkBool : D → Option D
  | .int n => if 0 ≤ n ∧ n < 2 ^ 62 then some (.bl (n != 0)) else none
  | _ => none
def ownA (c : Str) (m : Mir) (chk : D → Option D) (op : List D → Mm Ex) (ds : List D) : Mm Ex := match ds with
  | [.ref i] => isC c (.ref i) >>= fun _ => noEx (callN m [⟨.frz, .ref i⟩]) >>= fun z => match z with
    | ⟨.frz, d⟩ => opt (chk d) >>= fun e => pure (fl e)
    | _ => bad
  | ds => op ds
section
variable {X : Cx} {W : WX}
theorem own1_of {C : Addr} {cn : Str} {m : Mir} {P : V → Prop} {g : V → V} {chk : D → Option D} (hm : X.mg cn = some (.ref C))
    (hk : ∀ (c : Cf) (v : V) (d e : D), Dat X.K X.mg c.F c.μ v d → chk d = some e → P v ∧ flat e = true ∧ vof e = g v)
    {c0 c : Cf} {us : List V} {i : Nat} {Q : VK} (a : Aft X.K X.mg c0 c) (hσ : c.σ = c0.σ) (rs : RdVs X.K X.mg c us [.ref i])
    (h : Post X.K X.mg W (ExV X.K X.mg) c0 ((isC cn (.ref i) >>= fun _ => noEx (callN m [⟨.frz, .ref i⟩]) >>= fun z => match z with
    | ⟨.frz, d⟩ => opt (chk d) >>= fun e => pure (fl e)
    | _ => bad) c.τ c.O) Q) : rOwn1 C (spM X.K X.mg m) P g us c.H Q := by
  obtain ⟨u, rfl, ru⟩ := rs.one
  obtain ⟨i', p, C', ddx, fvs, fs, e0, rfl, hO, e1, e2, e4, hp2⟩ := isC_ok a.rl ru (by rw [hm]; rfl) h
  rw [hm] at e1
  cases e1
  cases e0
  refine ⟨p, ddx, fvs, rfl, e2, ?_⟩
  have hp4 : Post X.K X.mg W0 (ExV X.K X.mg) c0 (callN m [⟨.frz, .ref i⟩] c.τ c.O) (fun v H' => P v ∧ Q (g v) H') := by
    rw [bind_app] at hp2
    unfold noEx at hp2
    cases r : callN m [⟨.frz, .ref i⟩] c.τ c.O with
    | ok y τ O =>
      rw [r] at hp2
      obtain ⟨yk, yd⟩ := y
      cases yk with
      | frz =>
        intro v H' F' μ' b hy
        obtain ⟨e, ee, hp3⟩ := post_opt (show Post X.K X.mg W (ExV X.K X.mg) c0 ((opt (chk yd) >>= fun e => pure (fl e)) τ O) Q from hp2)
        have hd : Dat X.K X.mg F' μ' v yd := hy
        obtain ⟨h1, h2, h3⟩ := hk ⟨τ, O, F', μ', c0.σ, H'⟩ v yd e hd ee
        have q := hp3 (vof e) H' F' μ' b (show Dat X.K X.mg F' μ' (vof e) e from dat_flat h2)
        rw [h3] at q
        exact ⟨h1, q⟩
      | tmp => exact hp2.elim
      | slot _ => exact hp2.elim
    | ex _ _ _ _ => rw [r] at hp2; exact hp2.elim
    | bad => rw [r] at hp2; exact hp2.elim
  exact callN_ok (W := W0) a hσ (ExVs.consF e4 .nil) hp4
theorem cr_ownA {f : Value} {op : List D → Mm Ex} {C : Addr} {cn : Str} {m : Mir} {P : V → Prop} {g : V → V} {chk : D → Option D} (h0 : Cr X W f op) (hc : CallR X f (rOwn1 C (spM X.K X.mg m) P g)) (hm : X.mg cn = some (.ref C))
    (hk : ∀ (c : Cf) (v : V) (d e : D), Dat X.K X.mg c.F c.μ v d → chk d = some e → P v ∧ flat e = true ∧ vof e = g v) : Cr X W f (ownA cn m chk op) := by
  obtain ⟨R, hR, hp⟩ := h0
  refine ⟨_, hR.or hc, fun c0 c us ds Q a hσ rs h => ?_⟩
  unfold ownA at h
  split at h
  · exact .inr (own1_of hm hk a hσ rs h)
  · exact .inl (hp c0 c us ds Q a hσ rs h)
theorem cr_lenA {cn : Str} {k j : Nat} {m : Mir} (hS : Std X W k) (hc : OwnF X.prog X.w X.K X.mg X.base cn "__len__" j m) (hj : j + 3 ≤ k := by decide) : Cr X W (.builtin "len") (ownA cn m chkLen lenB) := by
  obtain ⟨C, f, fd, ps, hm, hs, hf, _, G, hb⟩ := hc.ex
  refine cr_ownA cr_len (call_lenG G (hS.room.mono hj) hS.grd hb hs hf) hm fun c v d e hd hk => ?_
  unfold chkLen at hk
  split at hk
  · rename_i n
    split at hk
    · rename_i h
      have e2 := Option.some.inj hk
      subst e2
      cases hd
      exact ⟨⟨n, rfl, h.1, h.2⟩, rfl, rfl⟩
    · cases hk
  · cases hk
theorem cr_reprA {cn : Str} {k j : Nat} {m : Mir} (hS : Std X W k) (hc : OwnF X.prog X.w X.K X.mg X.base cn "__repr__" j m) (hj : j + 3 ≤ k := by decide) : Cr X W (.builtin "repr") (ownA cn m chkStr reprB) := by
  obtain ⟨C, f, fd, ps, hm, hs, hf, _, G, hb⟩ := hc.ex
  refine cr_ownA (cr_repr hS) (call_reprG G (hS.room.mono hj) hS.grd hb hs hf) hm fun c v d e hd hk => ?_
  cases d <;> cases hk
  cases hd
  exact ⟨⟨_, rfl⟩, rfl, rfl⟩
theorem cr_strA {cn : Str} {k j : Nat} {m : Mir} (hS : Std X W k) (hc : OwnF X.prog X.w X.K X.mg X.base cn "__str__" j m) (hj : j + 3 ≤ k := by decide) : Cr X W (.type "str") (ownA cn m chkStr strB) := by
  obtain ⟨C, f, fd, ps, hm, hs, hf, _, G, hb⟩ := hc.ex
  refine cr_ownA cr_str (call_strG G (hS.room.mono hj) hS.grd hb hs hf) hm fun c v d e hd hk => ?_
  cases d <;> cases hk
  cases hd
  exact ⟨⟨_, rfl⟩, rfl, rfl⟩
theorem cr_boolA {cn : Str} {k j : Nat} {m : Mir} (hS : Std X W k) (hc : OwnF X.prog X.w X.K X.mg X.base cn "__len__" j m) (hj : j + 3 ≤ k := by decide) : Cr X W (.type "bool") (ownA cn m chkBool boolB) := by
  obtain ⟨C, f, fd, ps, hm, hs, hf, hbb, G, hb⟩ := hc.ex
  refine cr_ownA cr_bool (call_boolG G (hS.room.mono hj) hS.grd hb hbb hs hf) hm fun c v d e hd hk => ?_
  unfold chkBool at hk
  split at hk
  · rename_i n
    split at hk
    · rename_i h
      have e2 := Option.some.inj hk
      subst e2
      cases hd
      exact ⟨⟨n, rfl, h.1, h.2⟩, rfl, rfl⟩
    · cases hk
  · cases hk
end
end DV
namespace DV
open PySem PySem.Spec PyProof.Rows L2
/-! ### == and != of what may be an own object, with whatever stands at the right -/
def strT (t : Value) : Prop := t ∈ ["NoneType", "int", "str", "bool", "tuple", "list", "dict"].map Value.type
theorem strT_first {K : PySem.W.Frag} {C : Addr} {t : Value} (h : strT t) : PySem.W.notFirst K C t = true := by
  unfold strT at h
  simp only [List.map_cons, List.map_nil, List.mem_cons, List.not_mem_nil, or_false] at h
  rcases h with rfl | rfl | rfl | rfl | rfl | rfl | rfl <;> kernel_rfl
section
variable {X : Cx} {W : WX} {C f : Addr} {fd : FuncData} {ps : List Str} {sp : Sp} {k : Nat}
def rCmpS (K : PySem.W.Frag) (C : Addr) (sp : Sp) (neg : Bool) : R2 := fun x y H Q => ∃ a dx fs, x = .ref a ∧ H a = some (.ins C dx fs) ∧ ((∃ b dy gs, y = .ref b ∧ H b = some (.ins C dy gs)) ∨ ∃ t, TyX K H y t ∧ strT t) ∧
  sp [.ref a, y] H (fun v H' => ∃ j, v = .bl j ∧ Q (.bl (neg != j)) H') E00
theorem rgt_ty {pins : List (Addr × Obj)} {σ : L2.St} {H : Hp} {s : Shared} {y : V} {u : Value} (I : Inv X pins σ H s) (ru : L2.RelV y u) (h : (∃ b dy gs, y = .ref b ∧ H b = some (.ins C dy gs)) ∨ ∃ t, TyX X.K H y t ∧ strT t) :
    ∃ tb, PySem.W.Looks (model X.prog X.w) s.heap (typeOf u) tb ∧ PySem.W.notFirst X.K C tb = true := by
  rcases h with ⟨b, dy, gs, rfl, hb⟩ | ⟨t, ht, hs⟩
  · obtain rfl : u = Value.ref b := ru
    obtain ⟨mB, J, _⟩ := ins_get I.hok hb
    obtain ⟨od, J, _⟩ := J.look
    exact ⟨.ref C, J.type, by simp [PySem.W.notFirst]⟩
  · obtain ⟨P, Z, hP, _⟩ := kit_of I ru ht
    exact ⟨t, Z.ty _ _ I.kIn hP, strT_first hs⟩
theorem op_neS (G : FnG X.prog X.w X.K X.mg X.base k f fd ps sp) (hr : Room (k + 1) X.A) (hgd : X.A.guards = some []) (hb : Binds X.K fd ps [])
    (hm : PySem.W.mroIn X.K C (.type "object") = some true) (hne : PySem.W.findIn X.K (.ref C) "__ne__" = some (some (.builtin "object.__ne__"))) (hs : PySem.W.findIn X.K (.ref C) "__eq__" = some (some (.ref f))) (hf : PySem.W.isFn X.K (.ref f) = true) :
    OpR X (compareOp .NotEq) (rCmpS X.K C sp true) := by
  intro pins s σ H x y v u Q I rx ry hq
  obtain ⟨a, dx, fs, rfl, ha, hy, hsp⟩ := hq
  cases rx
  show wpAny (model X.prog X.w) X.A (richCompare .NotEq (.ref a) u) (EP X pins σ Q) X.xe s
  obtain ⟨mA, J, _⟩ := ins_get I.hok ha
  obtain ⟨od, J, _⟩ := J.look
  obtain ⟨m, hF⟩ := I.fr
  obtain ⟨tb, hT, hn⟩ := rgt_ty I ry hy
  have u0 := hr.units
  refine ne_K (tb := tb) (by omega) hr.in1.units0 hF I.ok.mod.kin J hT hn hm hne hs hf ?_
  have hl := G.len _ _ _ _ hsp
  have r2 : Vals [V.ref a, y] [Value.ref a, u] := .cons rfl (.cons ry .nil)
  have bd := hb s [.ref a, u] I.kIn (by simpa using hl)
  rw [List.append_nil] at bd
  refine wpAny_call (codeAny_mono (G.run X.A.in1 X.stack s H ⟨[.ref a, u], []⟩ [.ref a, u] [.ref a, y] _ E00 hr.in1 hgd I.env0.in1 bd r2 hsp) fun r s' hq => ?_)
  rcases r with er | fl
  · obtain ⟨_, _, _, _, _, _, _, _, _, _, _, _, _, no⟩ := hq
  · cases fl with
    | ret w =>
      obtain ⟨z, H', I', rz, j, ez, q⟩ := I.after hq
      subst ez
      cases rz
      exact ⟨j, rfl, .bl (!j), H', I', rfl, by simpa using q⟩
    | next => exact (show False from hq).elim
    | brk => exact (show False from hq).elim
    | cont => exact (show False from hq).elim
theorem op_eqS (G : FnG X.prog X.w X.K X.mg X.base k f fd ps sp) (hr : Room (k + 1) X.A) (hgd : X.A.guards = some []) (hb : Binds X.K fd ps [])
    (hs : PySem.W.findIn X.K (.ref C) "__eq__" = some (some (.ref f))) (hf : PySem.W.isFn X.K (.ref f) = true) :
    OpR X (compareOp .Eq) (rCmpS X.K C sp false) := by
  intro pins s σ H x y v u Q I rx ry hq
  obtain ⟨a, dx, fs, rfl, ha, hy, hsp⟩ := hq
  cases rx
  show wpAny (model X.prog X.w) X.A (richCompare .Eq (.ref a) u) (EP X pins σ Q) X.xe s
  obtain ⟨mA, J, _⟩ := ins_get I.hok ha
  obtain ⟨od, J, _⟩ := J.look
  obtain ⟨m, hF⟩ := I.fr
  obtain ⟨tb, hT, hn⟩ := rgt_ty I ry hy
  refine PySem.W.cmp_K (op := .Eq) (tb := tb) hr.units0 hF I.ok.mod.kin J hT hn hs hf ?_
  have hl := G.len _ _ _ _ hsp
  have r2 : Vals [V.ref a, y] [Value.ref a, u] := .cons rfl (.cons ry .nil)
  have bd := hb s [.ref a, u] I.kIn (by simpa using hl)
  rw [List.append_nil] at bd
  refine wpAny_call (codeAny_mono (G.run X.A X.stack s H ⟨[.ref a, u], []⟩ [.ref a, u] [.ref a, y] _ E00 (hr.mono (Nat.le_succ _)) hgd I.env0 bd r2 hsp) fun r s' hq => ?_)
  rcases r with er | fl
  · obtain ⟨_, _, _, _, _, _, _, _, _, _, _, _, _, no⟩ := hq
  · cases fl with
    | ret w =>
      obtain ⟨z, H', I', rz, j, ez, q⟩ := I.after hq
      subst ez
      cases rz
      exact ⟨.bl j, H', I', rfl, by simpa using q⟩
    | next => exact (show False from hq).elim
    | brk => exact (show False from hq).elim
    | cont => exact (show False from hq).elim
def rgtC (c : Str) (y : D) : Mm Unit := match y with
  | .ref i => isC c (.ref i)
  | d => if (tyN d).isSome then pure () else bad
def cmpA (c : Str) (neg : Bool) (m : Mir) (op : D → D → Mm Ex) (x y : D) : Mm Ex := match x with
  | .ref i => isC c (.ref i) >>= fun _ => rgtC c y >>= fun _ => noEx (callN m [⟨.frz, .ref i⟩, ⟨.frz, y⟩]) >>= fun z => match z with
    | ⟨.frz, .bl j⟩ => blE (neg != j)
    | _ => bad
  | x => op x y
/-- a right operand that stands by value -/
def BiZ (X : Cx) (W : WX) (f : Value → Value → Sem Value) (op : D → D → Mm Ex) : Prop := ∃ r, OpR X f r ∧
  ∀ (c0 c : Cf) (u v : V) (dx dy : D) (Q : VK), Aft X.K X.mg c0 c → c.σ = c0.σ → RdV X.K X.mg c u dx → Dat X.K X.mg c.F c.μ v dy → Post X.K X.mg W (ExV X.K X.mg) c0 (op dx dy c.τ c.O) Q → r u v c.H Q
def binZ (fa : Mm Ex) (fb : Mm D) (op : D → D → Mm Ex) : Mm Ex := fa >>= fun x => fb >>= fun dy => rd x >>= fun dx => op dx dy
theorem tOpZ_of {r : R2} {op : D → D → Mm Ex} {fa : Mm Ex} {fb : Mm D} (h : ∀ (c0 c : Cf) (u v : V) (dx dy : D) (Q : VK), Aft X.K X.mg c0 c → c.σ = c0.σ → RdV X.K X.mg c u dx → Dat X.K X.mg c.F c.μ v dy → Post X.K X.mg W (ExV X.K X.mg) c0 (op dx dy c.τ c.O) Q → r u v c.H Q)
    {σ : L2.St} {H : Hp} {Q : VK} (q : tM X.K X.mg W (ExV X.K X.mg) (binZ fa fb op) σ H Q) :
    tOp r (tM X.K X.mg W (ExV X.K X.mg) fa) (tM X.K X.mg W (DatV X.K X.mg) fb) σ H Q := by
  refine post_fst q fun c x c2 u rl hσ hH a2 hσ2 hx hp => ?_
  rw [← hσ]
  refine post_seq a2 hσ2 hp fun dy c3 v a3 hσ3 hy hp3 => ?_
  have hx3 := hx.aft a2.rl a3 (hσ3.trans hσ2.symm)
  obtain ⟨dx, rx, hp4⟩ := rd_okS a3.rl hx3 hp3
  exact h c c3 u v dx dy Q (a2.trans a3) hσ3 rx hy hp4
theorem de_ciZ {op : CmpOp} {f : D → D → Mm Ex} {a b : Expr} {pos : Pos} {fa : Mm Ex} {fb : Mm D} (h : BiZ X W (compareOp op) f) (ha : DE X W a fa) (hb : DF X W b fb) (hm : behindInMarks op b = false := by first | rfl | exact nomark _) :
    DE X W (.Compare a [op] [b] pos) (binZ fa fb f) := let ⟨_, h1, h2⟩ := h; PE.imp (pe_cmpR h1 ha hb hm) fun σ H Q q => tOpZ_of h2 q
theorem dt_ciZ {op : CmpOp} {f : D → D → Mm Ex} {a b : Expr} {pos : Pos} {fa : Mm Ex} {fb : Mm D} (h : BiZ X W (compareOp op) f) (ha : DE X W a fa) (hb : DF X W b fb) (hm : behindInMarks op b = false := by first | rfl | exact nomark _) :
    DT X W (.Compare a [op] [b] pos) (binZ fa fb f >>= asB) := let ⟨_, h1, h2⟩ := h; PT.imp (pt_cmpR h1 ha hb hm) fun σ H Q q => tOpZ_of h2 (asB_of q)
theorem cmpA_of {C : Addr} {cn : Str} {m : Mir} {neg : Bool} {op : D → D → Mm Ex} {R : R2} (hm : X.mg cn = some (.ref C)) (h0 : Op2 X W R op)
    (c0 c : Cf) (u v : V) (dx dy : D) (Q : VK) (a : Aft X.K X.mg c0 c) (hσ : c.σ = c0.σ) (ru : RdV X.K X.mg c u dx) (rv : Dat X.K X.mg c.F c.μ v dy) (hp : Post X.K X.mg W (ExV X.K X.mg) c0 (cmpA cn neg m op dx dy c.τ c.O) Q) :
    R u v c.H Q ∨ rCmpS X.K C (spM X.K X.mg m) neg u v c.H Q := by
  have rv' : RdV X.K X.mg c v dy := ⟨false, rv⟩
  unfold cmpA at hp
  split at hp
  · rename_i i0
    right
    obtain ⟨i, p, C', ddx, fvs, fs, e0, rfl, hO, e1, e2, e4, hp2⟩ := isC_ok a.rl ru (by rw [hm]; rfl) hp
    rw [hm] at e1
    cases e1
    cases e0
    have key : ((∃ b dy gs, v = .ref b ∧ c.H b = some (.ins C dy gs)) ∨ ∃ t, TyX X.K c.H v t ∧ strT t) ∧ Post X.K X.mg W (ExV X.K X.mg) c0 ((noEx (callN m [⟨.frz, .ref i0⟩, ⟨.frz, dy⟩]) >>= fun z => match z with
        | ⟨.frz, .bl j⟩ => blE (neg != j)
        | _ => bad) c.τ c.O) Q := by
      unfold rgtC at hp2
      split at hp2
      · obtain ⟨i', p', C2, ddx', fvs', fs', e0, rfl, hO', f1, f2, f4, hp3⟩ := isC_ok a.rl rv' (by rw [hm]; rfl) hp2
        rw [hm] at f1
        cases f1
        exact ⟨.inl ⟨p', ddx', fvs', rfl, f2⟩, hp3⟩
      · rename_i d hd
        cases ht : tyN dy with
        | none => rw [ht] at hp2; exact hp2.elim
        | some T =>
          rw [ht] at hp2
          exact ⟨.inr ⟨_, tyx_of a.rl rv' ht, List.mem_map_of_mem (tyN_mem ht)⟩, hp2⟩
    obtain ⟨hy, e⟩ := key
    refine ⟨p, ddx, fvs, rfl, e2, hy, ?_⟩
    have hp4 : Post X.K X.mg W0 (ExV X.K X.mg) c0 (callN m [⟨.frz, .ref i0⟩, ⟨.frz, dy⟩] c.τ c.O) (fun v H' => ∃ j, v = .bl j ∧ Q (.bl (neg != j)) H') := by
      rw [bind_app] at e
      unfold noEx at e
      cases r : callN m [⟨.frz, .ref i0⟩, ⟨.frz, dy⟩] c.τ c.O with
      | ok y τ O =>
        rw [r] at e
        obtain ⟨yk, yd⟩ := y
        cases yk with
        | frz =>
          cases yd with
          | bl j =>
            intro v H' F' μ' b hy
            cases hy
            exact ⟨j, rfl, e (.bl (neg != j)) H' F' μ' b (.bl _)⟩
          | _ => exact e.elim
        | tmp => cases yd <;> exact e.elim
        | slot _ => cases yd <;> exact e.elim
      | ex _ _ _ _ => rw [r] at e; exact e.elim
      | bad => rw [r] at e; exact e.elim
    exact callN_ok (W := W0) a hσ (ExVs.consF e4 (ExVs.consF rv .nil)) hp4
  · exact .inl (h0 c0 c u v dx dy Q a hσ ru rv' hp)
theorem bz_ne {cn : Str} {k j : Nat} {m : Mir} (hS : Std X W k) (hc : EqF X.prog X.w X.K X.mg X.base cn j m) (hj : j + 1 ≤ k := by decide) : BiZ X W (compareOp .NotEq) (cmpA cn true m neD) := by
  obtain ⟨C, f, fd, ps, hm, hs, hf, hmro, hne, G, hb⟩ := hc.ex
  obtain ⟨R, hR, h0⟩ := bi_ne (X := X) (W := W) hS
  exact ⟨_, hR.or (op_neS G (hS.room.mono hj) hS.grd hb hmro hne hs hf), cmpA_of hm h0⟩
theorem bz_eq {cn : Str} {k j : Nat} {m : Mir} (hS : Std X W k) (hc : EqF X.prog X.w X.K X.mg X.base cn j m) (hj : j + 1 ≤ k := by decide) : BiZ X W (compareOp .Eq) (cmpA cn false m eqD) := by
  obtain ⟨C, f, fd, ps, hm, hs, hf, hmro, hne, G, hb⟩ := hc.ex
  obtain ⟨R, hR, h0⟩ := bi_eq (X := X) (W := W) hS
  exact ⟨_, hR.or (op_eqS G (hS.room.mono hj) hS.grd hb hs hf), cmpA_of hm h0⟩
end
end DV
namespace DV
open PySem PySem.Spec PyProof.Rows L2
/-! ### f'..{e}..' -/
def fmtO : D → Option Str
  | .str y => if small y.length then some y else none
  | .int i => if decide (i.natAbs.log2 < 1920) then some (toString i) else none
  | _ => none
def fs3 (s1 s2 : Str) (f : Mm Ex) : Mm Ex := f >>= fun x => rd x >>= fun d => opt (fmtO d) >>= fun z => if small ((Str.empty ++ s1) ++ z).length && small (((Str.empty ++ s1) ++ z) ++ s2).length then pure (fl (.str (((Str.empty ++ s1) ++ z) ++ s2))) else bad
section
variable {X : Cx} {W : WX}
theorem de_fs3 {e : Expr} {s1 s2 : Str} {k1 k2 : Nat} {p1 p2 pf pos : Pos} {f : Mm Ex} (h : DE X W e f) (h1 : small (Str.empty ++ s1).length = true := by decide +kernel) :
    DE X W (.JoinedStr [.Constant (.str s1) k1 p1, .FormattedValue e (-1) none pf, .Constant (.str s2) k2 p2] pos) (fs3 s1 s2 f) := by
  refine PE.imp (pe_joined (.cons pe_str (.cons (pe_fmt h) (.cons pe_str .nil)))) fun σ H Q q => ?_
  refine ⟨s1, rfl, small_le h1, ?_⟩
  refine post_fst q fun c x c2 u rl hσ hH a2 hσ2 hx hp => ?_
  obtain ⟨d, rx, hp2⟩ := rd_okS a2.rl hx hp
  obtain ⟨z, ez, hp3⟩ := post_opt hp2
  have fin : ((Str.empty ++ s1) ++ z).length ≤ sizeLine ∧ (((Str.empty ++ s1) ++ z) ++ s2).length ≤ sizeLine ∧ Q (.str (((Str.empty ++ s1) ++ z) ++ s2)) c2.H := by
    split at hp3
    · rename_i hc
      rw [Bool.and_eq_true] at hc
      exact ⟨small_le hc.1, small_le hc.2, post_fl a2 hσ2 hp3 rfl⟩
    · exact hp3.elim
  have k : ∃ y : Str, V.str z = .str y ∧ ((Str.empty ++ s1) ++ y).length ≤ sizeLine ∧ ∃ y2 : Str, V.str s2 = .str y2 ∧ (((Str.empty ++ s1) ++ y) ++ y2).length ≤ sizeLine ∧ Q (.str (((Str.empty ++ s1) ++ y) ++ y2)) c2.H := ⟨z, rfl, fin.1, s2, rfl, fin.2.1, fin.2.2⟩
  unfold fmtO at ez
  split at ez
  · split at ez
    · rename_i hz
      cases ez
      exact .inl ⟨z, rx.str, small_le hz, k⟩
    · cases ez
  · split at ez
    · rename_i hz
      cases ez
      exact .inr ⟨_, rx.int, of_decide_eq_true hz, k⟩
    · cases ez
  · cases ez
end
end DV
namespace DV
open PySem PySem.Spec PyProof.Rows L2
/-! ### the head -/
def ownB (K : PySem.W.Frag) (c : Str) : Bool := PySem.W.findIn K (.ref (He.ga K c)) "__bool__" == some none
theorem own_of {K : PySem.W.Frag} {c : Str} (h : ownB K c = true) : PySem.W.findIn K (.ref (He.ga K c)) "__bool__" = some none := by
  unfold ownB at h
  exact beq_iff_eq.mp h
end DV
namespace DV
open PySem PySem.Spec PyProof.Rows L2
/-! ### own exceptions over any of the built-in ones: fields stored on one that is being made -/
section
open PySem.W PySem.Calls PyProof.Rows PySem.HandSPX Builtin Builtin.ObjectAttr
variable {prog : Program} {w : World} {A : Around} {E : Value → Shared → Prop} {R : Result → Shared → Prop} {hp : Heap} {g : Array GenState} {d : Drawn} {t : Nat} {os : OsState} {B : String} {bmB : List Value}
theorem exc_osaG {K : PySem.W.Frag} {name : Str} {tk : Tok} {v : Value} {x C : Addr} {fv : Array Value} {cd : ClassData} (SF : StoreFacts B bmB "object.__setattr__" "object")
    (X : K.In hp) (hx : hp.get? x = some { cls := .ref C, data := .fields fv }) (hcd : PySem.W.clsIn K C = some cd) (hm : excOver K C bmB = true) (hh : cd.hasDict = true) (ha : PySem.W.findIn K (.ref C) name = some none)
    (hq : ∀ h' tk' dx, (∀ b o, b ≠ x → hp.get? b = some o → h'.get? b = some o) → hp.objs.size ≤ dx → dx ≠ x → h'.get? x = some { cls := .ref C, dict := some dx, data := .fields fv } →
      h'.Ns1 dx (fun y => if y = name then some v else none) → R (.ok (.ret .none)) ⟨h', g, d, tk', os⟩) :
    codeAny (model prog w) A (.call (.builtin "object.__setattr__") ⟨[.ref x, .str name tk, v], []⟩) R ⟨hp, g, d, t, os⟩ := by
  have I : PySem.W.InstAt hp x { cls := .ref C, data := .fields fv } C none := ⟨hx, rfl, rfl, trivial⟩
  have ht : takerIn K C name = some none := by unfold takerIn; rw [ha]; rfl
  have hxs : x ≠ hp.objs.size := Nat.ne_of_lt (Heap.lt_size hx)
  have hcls : PySem.W.Looks (model prog w) hp (classData C) cd := PySem.W.looks_clsIn X hcd
  refine osa_openX (s := ⟨hp, g, d, t, os⟩) SF X I hm ht fun b => ?_
  show wpAny _ _ (storeInOwnDict (.ref x) (.ref C) (.str name tk) name v b) _ _ _
  obtain ⟨nm, bs, mro, ns, qn, hd, sn, sb, ab, col, del⟩ := cd
  dsimp only at hh
  subst hh
  unfold storeInOwnDict ownDictForStores
  repeat (first | with_reducible refine store_in_new ?_ ?_ | with_reducible refine wpAny_loadPart_at hx ?_ | with_reducible refine hcls.at ?_ | wp_step)
  · exact ⟨_, #[], _, (Heap.get?_update_ne _ _ _ _ hxs.symm).trans (Heap.get?_push_at rfl rfl), rfl, fun e he => absurd he (by simp), fun _ => rfl⟩
  · intro h' tk' hn' hs
    have hx₁ : (hp.push { cls := .type "dict", data := .dict #[] }).get? x = some { cls := .ref C, data := .fields fv } := Heap.get?_push_of_some _ hx
    refine hq h' tk' hp.objs.size (fun b o hb ho => ?_) (Nat.le_refl _) hxs.symm ?_ hn'
    · exact (hs.2 b (Nat.ne_of_lt (Heap.lt_size ho))).trans ((Heap.get?_update_ne _ _ _ _ hb).trans (Heap.get?_push_of_some _ ho))
    · exact (hs.2 x hxs).trans (Heap.get?_update_self _ hx₁ rfl)
theorem osa_oldG {K : PySem.W.Frag} {name : Str} {tk : Tok} {v : Value} {x C dx : Addr} {fv : Array Value} {cd : ClassData} {m0 : Str → Option Value} {nl : List Str} (SF : StoreFacts B bmB "object.__setattr__" "object")
    (X : K.In hp) (hx : hp.get? x = some { cls := .ref C, dict := some dx, data := .fields fv }) (hns : hp.Ns1 dx m0) (hw : Within m0 nl) (hz : nl.length ≤ 1000) (hcd : PySem.W.clsIn K C = some cd) (hm : excOver K C bmB = true) (hh : cd.hasDict = true)
    (ha : PySem.W.findIn K (.ref C) name = some none)
    (hq : ∀ h' tk', (∀ b o, b ≠ dx → hp.get? b = some o → h'.get? b = some o) → h'.Ns1 dx (fun y => if y = name then some v else m0 y) → R (.ok (.ret .none)) ⟨h', g, d, tk', os⟩) :
    codeAny (model prog w) A (.call (.builtin "object.__setattr__") ⟨[.ref x, .str name tk, v], []⟩) R ⟨hp, g, d, t, os⟩ := by
  obtain ⟨oD, esD, epD, hoD, hdD, _⟩ := hns.count hw
  have I : PySem.W.InstAt hp x { cls := .ref C, dict := some dx, data := .fields fv } C (some oD) := ⟨hx, rfl, rfl, hoD⟩
  have ht : takerIn K C name = some none := by unfold takerIn; rw [ha]; rfl
  have hcls : PySem.W.Looks (model prog w) hp (classData C) cd := PySem.W.looks_clsIn X hcd
  refine osa_openX (s := ⟨hp, g, d, t, os⟩) SF X I hm ht fun b => ?_
  show wpAny _ _ (storeInOwnDict (.ref x) (.ref C) (.str name tk) name v b) _ _ _
  obtain ⟨nm, bs, mro, ns, qn, hd, sn, sb, ab, col, del⟩ := cd
  dsimp only at hh
  subst hh
  unfold storeInOwnDict ownDictForStores
  repeat (first | with_reducible refine PySem.OEX.store_in_old hns hw hz ?_ | with_reducible refine wpAny_loadPart_at hx ?_ | with_reducible refine hcls.at ?_ | wp_step)
  intro h' tk' hn' hs
  exact hq h' tk' (fun b o hb ho => (hs.2 b hb).trans ho) hn'
end
/-- what the written part says of the class -/
structure OexG (K : PySem.W.Frag) (C : Addr) : Prop where
  ex : ∃ (B newId initId : String) (bmB : List Value) (nm q : Str) (N : Addr) (bs bm : List Value) (sn : List Str) (sub : List Value) (ab : Bool) (col : Option Bool) (dd : Option Addr) (k0 k1 k2 k3 k5 : Option Value),
    ExcBaseFacts B newId initId bmB ∧ StoreFacts B bmB "object.__setattr__" "object" ∧ PySem.W.KxsFacts B initId ∧ K.lookup C = some (excClassObj nm q C N bs bm true sn sub ab col dd k0 k1 k2 k3 k5 newId) ∧ PySem.W.excTail bmB bm = true ∧ PySem.W.alongIn K "__init__" bm = some (some (.builtin initId)) ∧ PySem.W.subIn K (.ref C) (.type B) = some true
  sa : PySem.W.findIn K (.ref C) "__setattr__" = some (some (.builtin "object.__setattr__"))
  exC : PySem.W.subIn K (.ref C) (.type "BaseException") = some true
  tyC : PySem.W.typeIn K (.ref C) = some (.type "type")
  kC : PySem.W.keepIn K (.ref C) = true
section
variable {X : Cx} {pins : List (Addr × Obj)} {σ : L2.St} {H : Hp} {s : Shared} {a C dx : Addr} {f : Str} {y : V} {u : Value} {fs : List (Str × V)} {Q : Unit → Shared → Prop} {E : Value → Shared → Prop} {A : Around}
/-- self.f = y, the first one -/
theorem ostG_new (T : OexG X.K C) (I : Inv X pins σ H s) (e : H a = some (exo a C none)) (hno : PySem.W.findIn X.K (.ref C) f = some none) (ry : RelV y u)
    (h : ∀ dx s', H dx = none → dx ≠ a → Inv X pins σ (upd (upd H dx (exd dx [(f, y)])) a (exo a C (some dx))) s' → Q () s') : wpAny (model X.prog X.w) A (setAttr (.ref a) f u) Q E s := by
  obtain ⟨B, newId, initId, bmB, nm, q, N, bs, bm, sn, sub, ab, col, dd, k0, k1, k2, k3, k5, FB, SF, KF, hC, hbm, hal, hsB⟩ := T.ex
  have hcl : PySem.W.clsIn X.K C = some { name := nm, bases := bs, mro := .ref C :: bm, ns := N, qualname := q, hasDict := true, slotNames := sn, subclasses := sub, abstract := ab, collection := col, hasDel := false } := by unfold PySem.W.clsIn; rw [hC] <;> rfl
  have hov : PySem.W.excOver X.K C bmB = true := by unfold PySem.W.excOver; rw [hcl]; show ((C == C) && _) = true; rw [hbm]; simp
  obtain ⟨t1, ho⟩ := exo_at I.hok e
  obtain ⟨hp, g, d, t, os⟩ := s
  refine PySem.W.set_plain I.kIn (ox := { cls := .ref C, dict := none, data := .fields #[.ref t1, .none, .none, .none, .bool false, .none] }) (od := none) ⟨ho, rfl, rfl, trivial⟩ T.sa ?_
  refine exc_osaG SF I.kIn ho hcl hov rfl hno (fun h' tk' dx k dn dne hx hn => ?_)
  have hnd : H dx = none := I.hok.fresh dn
  have nd : ∀ {b : Addr} {o : Obj}, hp.get? b = some o → b ≠ dx := fun {b o} q => Nat.ne_of_lt (Nat.lt_of_lt_of_le (Heap.lt_size q) dn)
  have na : ∀ {b : Addr}, H b = none → b ≠ a := fun {b} n z => by
    rw [z, e] at n
    cases n
  have Un1 : Un X.fs [] H (upd (upd H dx (exd dx [(f, y)])) a (exo a C (some dx))) hp h' := {
    keep := fun b o q n _ _ => k b o (na n) q
    slot := fun b o q n _ _ => ⟨o.slots, k b o (na n) q⟩
    free := fun b o q n _ => by rw [upd_ne (na n), upd_ne (nd q)]; exact n
    there := fun b o q _ => by
      by_cases hb : b = a
      · exact ⟨_, by rw [hb]; exact hx⟩
      · exact ⟨o, k b o hb q⟩
    tups := fun b xs q => by rw [upd_ne (at_ne e q exo_tup), upd_ne (ne_of_none q hnd)]; exact q
    frzs := fun b o v q => by rw [upd_ne (at_ne e q exo_frz), upd_ne (ne_of_none q hnd)]; exact q
    tbls := fun b ps q => ⟨#[], by rw [upd_ne (at_ne e q exo_tbl), upd_ne (ne_of_none q hnd), q]; simp⟩ }
  refine h dx _ hnd dne (I.un (t' := tk') Un1 fun b o q => ?_)
  by_cases hb : b = a
  · subst hb
    rw [upd_same] at q
    cases q
    exact exo_ok hx
  · rw [upd_ne hb] at q
    by_cases hd : b = dx
    · subst hd
      rw [upd_same] at q
      cases q
      exact exd_ok hn (relO_put (fs := []) ry fun g => True.intro)
    · rw [upd_ne hd] at q
      exact (I.hok b o q).stay (fun c v hc z => k c v (by
          rcases hc with hc | hc
          · rw [hc]
            exact hb
          · exact at_ne e hc exo_own) z)
        (fun c hc => by rw [upd_ne (at_ne e hc exo_own), upd_ne (ne_of_none hc hnd)]; exact hc) (fun c xs hc => by rw [upd_ne (at_ne e hc exo_tup), upd_ne (ne_of_none hc hnd)]; exact hc)
/-- self.f = y, a further one -/
theorem ostG_old (T : OexG X.K C) (I : Inv X pins σ H s) (e : H a = some (exo a C (some dx))) (ed : H dx = some (exd dx fs)) (hl : fs.length ≤ 900) (hno : PySem.W.findIn X.K (.ref C) f = some none) (ry : RelV y u)
    (h : ∀ s', Inv X pins σ (upd H dx (exd dx ((f, y) :: fs))) s' → Q () s') : wpAny (model X.prog X.w) A (setAttr (.ref a) f u) Q E s := by
  obtain ⟨B, newId, initId, bmB, nm, q, N, bs, bm, sn, sub, ab, col, dd, k0, k1, k2, k3, k5, FB, SF, KF, hC, hbm, hal, hsB⟩ := T.ex
  have hcl : PySem.W.clsIn X.K C = some { name := nm, bases := bs, mro := .ref C :: bm, ns := N, qualname := q, hasDict := true, slotNames := sn, subclasses := sub, abstract := ab, collection := col, hasDel := false } := by unfold PySem.W.clsIn; rw [hC] <;> rfl
  have hov : PySem.W.excOver X.K C bmB = true := by unfold PySem.W.excOver; rw [hcl]; show ((C == C) && _) = true; rw [hbm]; simp
  obtain ⟨t1, ho⟩ := exo_at I.hok e
  obtain ⟨mA, hns, rel⟩ := exd_at I.hok ed
  have hw := within_of rel
  obtain ⟨hp, g, d, t, os⟩ := s
  obtain ⟨oD, _, _, hoD, _, _⟩ := hns.count hw
  refine PySem.W.set_plain I.kIn (ox := { cls := .ref C, dict := some dx, data := .fields #[.ref t1, .none, .none, .none, .bool false, .none] }) (od := some oD) ⟨ho, rfl, rfl, hoD⟩ T.sa ?_
  refine osa_oldG SF I.kIn ho hns hw (by rw [List.length_map]; omega) hcl hov rfl hno (fun h' tk' k hn => ?_)
  have hd : ∃ o, h'.get? dx = some o := by
    obtain ⟨o, _, _, e', _⟩ := hn
    exact ⟨o, e'⟩
  exact h _ (I.write (t' := tk') (x := dx) (e := dx) (o := exd dx ((f, y) :: fs)) (by rw [ed]; exact True.intro) (.inl rfl) k hd (exd_ok hn (relO_put ry rel)))
end
/-- self.f = e -/
def tOstG (K : PySem.W.Frag) (f : Str) (to te : TE) : TS := fun D σ H => te σ H fun y H1 => to σ H1 fun x H2 => ∃ a C : Addr, x = .ref a ∧ OexG K C ∧ PySem.W.findIn K (.ref C) f = some none ∧
  ((H2 a = some (exo a C none) ∧ ∀ dx, H2 dx = none → dx ≠ a → D.nx σ (upd (upd H2 dx (exd dx [(f, y)])) a (exo a C (some dx)))) ∨
    ∃ (dx : Addr) (fs : List (Str × V)), H2 a = some (exo a C (some dx)) ∧ H2 dx = some (exd dx fs) ∧ fs.length ≤ 900 ∧ D.nx σ (upd H2 dx (exd dx ((f, y) :: fs))))
section
variable {X : Cx} {o e : Expr} {to te : TE} {f : Str} {p' pos : Pos}
theorem ps_ostG (ho : PE X o to) (he : PE X e te) (hs : swapsWith e (some (.Attribute o f p')) pos.line X.env = pure false := by rfl) : PS X (.Assign [.Attribute o f p'] e pos) (tOstG X.K f to te) := by
  refine ⟨fun pins s σ H D I h => ?_⟩
  refine plainObj_wpAny_Assign_Attribute (thn (he.run pins s σ H _ I h) fun v s1 ⟨y, H1, I1, r1, q1⟩ => thn (ho.run pins s1 σ H1 _ I1 q1) fun u s2 ⟨x, H2, I2, r2, a, C, ex, T, hno, q⟩ => ?_) hs
  subst ex
  obtain rfl : u = Value.ref a := r2
  rcases q with ⟨ea, q⟩ | ⟨dx, fs, ea, ed, hl, q⟩
  · exact ostG_new T I2 ea hno r1 fun dx s' n ne J => ⟨σ, _, J, q dx n ne⟩
  · exact ostG_old T I2 ea ed hl hno r1 fun s' J => ⟨σ, _, J, q⟩
end
end DV
namespace DV
open PySem PySem.Spec PyProof.Rows L2
/-! ### __init__ of an own exception: super().__init__(), then its fields -/
section
open PySem.W PySem.Calls PyProof.Rows
variable {prog : Program} {w : World} {A : Around} {E : Value → Shared → Prop} {h : Heap} {g : Array GenState} {d : Drawn} {t : Nat} {os : OsState}
variable {nm q : Str} {C N : Addr} {bs bm bmB : List Value} {hdct : Bool} {sn : List Str} {sub : List Value} {ab : Bool} {col : Option Bool} {dd : Option Addr} {k0 k1 k2 k3 k5 : Option Value} {B newId initId : String}
theorem call_mwG (FB : ExcBaseFacts B newId initId bmB) {u e t0 : Addr} {rest : List Value} {Q : Value → Shared → Prop}
    (hC : h.get? C = some (excClassObj nm q C N bs bm hdct sn sub ab col dd k0 k1 k2 k3 k5 newId)) (he : h.get? e = some (PySem.HandSPX.excO C t0)) (hu : h.get? u = some (PySem.W.kxs_mw initId e)) (hrest : rest.length ≤ sizeLine)
    (hq : ∀ h' t1, (∀ b o, b ≠ e → h.get? b = some o → h'.get? b = some o) → h'.get? e = some (PySem.HandSPX.excO C t1) → Q .none ⟨h', g, d, t, os⟩) :
    wpAny (model prog w) A (call (.ref u) rest) Q E ⟨h, g, d, t, os⟩ := by
  refine wpAny_call (codeAny_of_tree ?_)
  show wpAny _ A.in1 (callAny (.ref u) ⟨rest, []⟩) _ _ _
  simp only [callAny]
  refine wpAny_bind (wpAny_load hu ?_)
  simp only [kxs_mw, show (Value.type "method-wrapper" == Value.type "method" || Value.type "method-wrapper" == Value.type "builtin_function_or_method" || Value.type "method-wrapper" == Value.type "method-wrapper") = true by decide, if_true]
  refine KFB.if_so (by decide) ?_
  refine wpAny_bind (check_bound_init FB.toExcCallFacts hC he rfl ?_)
  refine wpAny_bind (wpAny_pure (wpAny_pure ?_))
  refine ⟨plainId_quiet FB.init.plain _, codeAny_builtin FB.initEntry ?_⟩
  exact exc_init_tree (cls := .ref C) (t0 := t0) (dv := none) (c2 := .none) (c3 := .none) (b4 := .bool false) he hrest fun h' k e' _ => hq h' _ k e'
end
/-- what is written of the function __init__ of the class at C -/
structure InitK (P : Program) (K : PySem.W.Frag) (C fI : Addr) (name qual : Str) (params : Arguments) (body : List Stmt) (scope : Scope) (cc cda : Addr) : Prop where
  fn : ∃ (oc : Value) (od : Option Addr) (osl : Array (Option Value)) (doc pm ct : Value) (an : Option Addr), K.lookup fI = some ⟨oc, od, .func (PySem.W.fnX name qual params body scope [("__class__", cc)] .none .none doc pm an (.ref cda) ct), osl⟩
  code : PySem.W.codeIn K (.ref cda) qual = true
  file : ∃ (ccl : Value) (cdd : Option Addr) (ccs : Array (Option Value)) (vs : Array Value) (fl : Str) (tf : Tok), K.lookup cda = some ⟨ccl, cdd, .fields vs, ccs⟩ ∧ vs[2]? = some (.str fl tf) ∧ ((P.main.file : Str) == fl) = true
  cell : ∃ (cl : Value) (cld : Option Addr) (csl : Array (Option Value)), K.lookup cc = some ⟨cl, cld, .cell (some (.ref C)), csl⟩
  stat : PySem.W.nsIn K cStatics "thirdparty.any" = some none
  top : (P.main.scope.names.lookup ("super" : Str)).isSome = false
def initF (name qual : Str) (params : Arguments) (body : List Stmt) (scope : Scope) (cc cda : Addr) : NdefX.NF := ⟨name, qual, params, body, scope, [("__class__", cc)], cda⟩
section
variable {CX : CXT} {P : Program} {w : World} {K : PySem.W.Frag} {mg : Str → Option Value} {base : Heap} {C fI cc cda : Addr} {name qual : Str} {params : Arguments} {scope : Scope} {rest : List Stmt} {k : Nat} {N ps : List Str} {t : TS} {p0 p1 p2 p3 p4 : Pos} {fd : FuncData}
open PySem.W PySem.Calls in
theorem initOk (T : OexG K C) (G : InitK P K C fI name qual params (.Expr (.Call (.Attribute (.Call (.Name "super" p0) [] [] p1) "__init__" p2) [] [] p3) p4 :: rest) scope cc cda)
    (hfd : ∀ o, K.lookup fI = some o → o.data = .func fd)
    (S : NdefX.NScope N ps ["__class__"] scope) (hself : ∃ ar, (params.posonlyargs ++ params.args).head? = some ar ∧ ar.arg = "self") (hps : ps.head? = some "self")
    (pl : Env → Sem Bool) (he : ∀ env : Env, eval (.Call (.Attribute (.Call (.Name "super" p0) [] [] p1) "__init__" p2) [] [] p3) env = (do
      let ov ← attributeBase (.Call (.Name "super" p0) [] [] p1) "__init__" env (eval (.Call (.Name "super" p0) [] [] p1) env)
      standAt p2.atName
      let (f, first) ← holding [ov] (getMethod ov "__init__" (pl env))
      callWith p3 f first (backTo p3 (starEach [] env)) []))
    (hsup : scope.names.lookup ("super" : Str) = some .globalImplicit) (hmg : mg "super" = none)
    (hrest : ∀ (A : Around) (outer : List Env) (s : Shared) (H : Hp) (E : XK), PSs (NdefX.ncx CX P w K mg base N (initF name qual params (.Expr (.Call (.Attribute (.Call (.Name "super" p0) [] [] p1) "__init__" p2) [] [] p3) p4 :: rest) scope cc cda) fI A outer s H E) rest t) :
    FnOk P w K mg base CX (k + 1) fI fd ps (fun vs H Q _ => vs.length = ps.length ∧ (∃ a us, vs = .ref a :: us ∧ H a = some (exo a C none)) ∧ t { nx := fun _ H' => Q .non H', rt := Q } (NdefX.startF N vs [none]) H) := by
  refine ⟨fun _ _ _ _ h => h.1, fun A outer s H args us vs Q E hr e0 hb r hsp => ?_⟩
  obtain ⟨hl, ⟨a, vs', rfl, ha⟩, hq⟩ := hsp
  obtain ⟨oc, od, osl, doc, pm, ct, an, lk⟩ := G.fn
  cases hfd _ lk
  obtain ⟨B, newId, initId, bmB, nm, q, NN, bs, bm, sn, sub, ab, col, dd, k0, k1, k2, k3, k5, FB, SF, KF, hC, hbm, hal, hsB⟩ := T.ex
  obtain ⟨ccl, cdd, ccs, vsc, fl, tf, hcode, hvs, hfile⟩ := G.file
  obtain ⟨cl, cld, csl, hcell⟩ := G.cell
  obtain ⟨ar, har, hars⟩ := hself
  have KX : K.In s.heap := e0.mod.kin.keeps fun b o e => (e0.bs b o e).1
  have lim : s.heap.NoLimit := e0.mod.nolimit.keeps fun b o e => (e0.bs b o e).1
  have hcl : clsIn K C = some { name := nm, bases := bs, mro := .ref C :: bm, ns := NN, qualname := q, hasDict := true, slotNames := sn, subclasses := sub, abstract := ab, collection := col, hasDel := false } := by unfold clsIn; rw [hC] <;> rfl
  have CA : NdefX.CellsAt [("__class__", cc)] ["__class__"] [none] s.heap H := by
    refine ⟨rfl, fun y c e => ?_, fun x y c e1 e2 => ?_, fun i y e => ?_⟩
    · have : c = cc := by
        rw [List.lookup_cons] at e
        split at e
        · exact (Option.some.inj e).symm
        · cases e
      subst this
      exact ⟨(e0.bs _ _ (e0.mod.kin _ _ hcell)).2, _, ⟨_, KX _ _ hcell, rfl⟩⟩
    · have key : ∀ z, List.lookup z [(("__class__" : Str), cc)] = some c → z = "__class__" := fun z e => by
        rw [List.lookup_cons] at e
        split at e
        · rename_i hz
          exact eq_of_beq hz
        · cases e
      rw [key x e1, key y e2]
    · cases i with
      | zero =>
        cases e
        exact ⟨cc, by rw [List.lookup_cons]; rfl, fun v z => by cases z⟩
      | succ i => simp at e
  refine ks_codeAny_call_defAt hr.depth (KX _ _ lk) rfl lim (codeRec_of KX G.code) rfl hb S.nocell (fun y hy => S.par y.1 (List.of_mem_zip (show (y.1, y.2) ∈ _ from hy)).1) (fun h₁ hns kp => ?_) S.co S.gen S.kind
  have I : Inv (NdefX.ncx CX P w K mg base N (initF name qual params (.Expr (.Call (.Attribute (.Call (.Name "super" p0) [] [] p1) "__init__" p2) [] [] p3) p4 :: rest) scope cc cda) fI A outer s H E) [] (NdefX.startF N (.ref a :: vs') [none]) H { s with heap := h₁, toks := s.toks + (ps.zip us).length } := NdefX.inv_startN S hr.hd e0 hl r CA hns kp
  obtain ⟨t1, ho⟩ := exo_at I.hok ha
  have K1 : K.In h₁ := I.kIn
  have hself' : (fun y => (ps.zip us).reverse.lookup y) ar.arg = some (.ref a) := by
    cases ps with
    | nil => cases hps
    | cons p ps' =>
      cases r with
      | @cons _ u0 _ ur ra rr =>
        obtain rfl : u0 = Value.ref a := ra
        cases hps
        rw [hars]
        exact NdefX.zip_look (i := 0) (by
          have e2 := S.pre
          exact (List.nodup_append.mp (e2 ▸ S.nd.sublist (List.take_sublist _ N))).1) rfl rfl
  have hka : scope.names.lookup ar.arg = some .local := by
    rw [hars]
    refine S.par _ ?_
    cases ps with
    | nil => cases hps
    | cons p ps' => cases hps; exact List.mem_cons_self
  have hkc : scope.names.lookup ("__class__" : Str) = some .free := S.frk _ List.mem_cons_self
  obtain ⟨mb, hb1, hb2⟩ := I.mod.blt
  have hi : ∀ (n : NameKind → Bool) (L : Addr), interactive (callEnv (fnX name qual params (.Expr (.Call (.Attribute (.Call (.Name "super" p0) [] [] p1) "__init__" p2) [] [] p3) p4 :: rest) scope [("__class__", cc)] .none .none doc pm an (.ref cda) ct) L fI) = false := fun n L => by
    show (scope.kind == ScopeKind.module && _) = false
    rw [S.kind]
    rfl
  refine ks_wpAt_execs_cons (ks_wpAt_Expr_any (ks_wpAt_MethodCall (pl := pl _) ?_ (he _)) (hi (fun _ => true) _))
  refine ks_wpAt_super_base hsup hkc (by decide) rfl (K1 _ _ lk) rfl har rfl (K1 _ _ hcode) rfl hvs hfile G.top ?_
  refine ks_loadName_global S.kind hsup (loadGlobal_builtin (I.mod.glob.keeps I.bk) hmg (hb1.keeps I.bk) ((hb2 "super" (by decide +kernel)).trans (show bootBuiltins "super" = some (.type "super") by decide +kernel)) ⟨rfl, ?_⟩)
  refine wpAny_loadName_free S.kind hkc rfl ⟨_, K1 _ _ hcell, rfl⟩ ?_
  refine wpAny_loadName_local S.kind hka hns hself' ?_
  refine ks_wpAny_isType_cls (K1 _ _ hC) rfl ⟨rfl, ?_⟩
  have hx1 : h₁.get? a = some (PySem.HandSPX.excO C t1) := ho
  have IA : PySem.W.InstAt h₁ a (PySem.HandSPX.excO C t1) C none := ⟨hx1, rfl, rfl, trivial⟩
  have hCC : mroIn K C (.ref C) = some true := by
    unfold mroIn
    rw [hcl, Option.bind_some]
    simp
  refine ks_wpAny_call_super (K1 _ _ hC) rfl hx1 rfl (fun c z => by cases z) (looks_mroIn K1 hCC) (fun h2 e2 k2 => ?_)
  have K2 : K.In h2 := K1.keeps k2
  have IA2 : PySem.W.InstAt h2 a (PySem.HandSPX.excO C t1) C none := ⟨k2 _ _ hx1, rfl, rfl, trivial⟩
  have hI : Looks (model P w) h2 (isInstance (.ref a) (.type B)) true := IA2.type.andThen (looks_subIn K2 hsB)
  have hM : Looks (model P w) h2 (mroOf (.ref C)) (.ref C :: bm) := fun A Q E s k q => wpAny_bind ((looks_clsIn K2 hcl) A _ E s k (wpAny_pure q))
  have haC : a ≠ C := ks_ne K1 IA hcl
  refine kxs_getMethod KF e2 (looks_opaque K2 G.stat) hM (by simp [List.dropWhile_cons]) K2 hal hI haC (by decide) ?_
  refine kxs_callWith (i := initId) (x := a) rfl (evalArgs_empty ?_)
  refine ⟨Heap.get?_push_at rfl rfl, ?_⟩
  have k3 : ∀ b o, h2.get? b = some o → (h2.push (kxs_mw initId a)).get? b = some o := fun b o e => Heap.get?_push_of_some _ e
  refine call_mwG FB (k3 _ _ (K2 _ _ hC)) (k3 _ _ (k2 _ _ hx1)) (Heap.get?_push_at rfl rfl) (by rw [sizeLine_eq]; show 0 ≤ _; omega) fun h4 t4 k4 hx4 => ?_
  have kall : ∀ b o, b ≠ a → h₁.get? b = some o → h4.get? b = some o := fun b o n e => k4 b o n (k3 b o (k2 b o e))
  have J := I.write (t' := s.toks + (ps.zip us).length + 1) (x := a) (e := a) (o := exo a C none) (by rw [ha]; exact True.intro) (.inl rfl) kall ⟨_, hx4⟩ (exo_ok hx4)
  have eu : upd H a (exo a C none) = H := by
    funext b
    by_cases hb : b = a
    · rw [hb, upd_same, ha]
    · rw [upd_ne hb]
  rw [eu] at J
  refine wpAt_of_wpAny (wpAny_mono ((hrest A outer s H E).run [] _ _ H _ J hq) (fun fl s' hs => ?_) fun e s' hs => ?_)
  · have fin : ∀ {σ' : L2.St} {H' : Hp} {v : V} {u : Value}, Inv (NdefX.ncx CX P w K mg base N (initF name qual params (.Expr (.Call (.Attribute (.Call (.Name "super" p0) [] [] p1) "__init__" p2) [] [] p3) p4 :: rest) scope cc cda) fI A outer s H E) [] σ' H' s' → L2.RelV v u → Q v H' → CE outer P w H s Q u s' :=
      fun {σ' H' v u} J rv q => ⟨v, H', J.os, J.bare, J.base, J.hok, rv, q⟩
    cases fl with
    | ret u =>
      obtain ⟨v, σ', H', J, rv, q⟩ := hs
      exact fin J rv q
    | next =>
      obtain ⟨σ', H', J, q⟩ := hs
      exact fin (v := V.non) (u := Value.none) J rfl q
    | brk =>
      obtain ⟨_, _, _, q⟩ := hs
      exact False.elim q
    | cont =>
      obtain ⟨_, _, _, q⟩ := hs
      exact False.elim q
  · exact hs
end
end DV
namespace DV
open PySem PySem.Spec PyProof.Rows L2
/-! ### C(.., k = ..) of an own exception class, with keywords too -/
section
open PySem.W PySem.Calls PySem.HandSPX
variable {prog : Program} {w : World} {A : Around} {E : Value → Shared → Prop} {R : Result → Shared → Prop} {h : Heap} {g : Array GenState} {d : Drawn} {t : Nat} {os : OsState}
variable {nm q : Str} {C N : Addr} {bs bm bmB : List Value} {hdct : Bool} {sn : List Str} {sub : List Value} {ab : Bool} {col : Option Bool} {dd : Option Addr} {k0 k1 k2 k3 k5 : Option Value} {B newId initId : String} {kws : List (Str × Value)}
theorem check_newK {M : Model} (F : ExcBaseFacts B newId initId bmB) (hT : ∀ X : String, bm.contains (.type X) = bmB.contains (.type X)) {rest : List Value} {Q : Unit → Shared → Prop}
    (hC : h.get? C = some (excClassObj nm q C N bs bm hdct sn sub ab col dd k0 k1 k2 k3 k5 newId)) (hq : Q () ⟨h, g, d, t, os⟩) : wpAny M A (checkBuiltinCall newId ⟨.ref C :: rest, kws⟩) Q E ⟨h, g, d, t, os⟩ := by
  have hcont : (Value.ref C :: bm).contains (.type B) = true := by rw [List.contains_cons, hT, F.hasB, Bool.or_true]
  have hstar := F.noStar
  simp only [checkBuiltinCall, F.newKind, F.newSplit, F.newRow]
  repeat (first | refine wpAny_loadPart_at hC ?_ | (refine wpAny_isSubtype_exc hC ?_; rw [hcont]) | refine wpAny_staticBase_exc hC ?_ | refine wpAny_madeBy_exc hC ?_ | simp only [bne_self_eq_false, Bool.false_eq_true, if_false] | wp_step)
  exact hq
theorem new_ownK (F : ExcBaseFacts B newId initId bmB) (hT : ∀ X : String, bm.contains (.type X) = bmB.contains (.type X)) {rest : List Value}
    (hC : h.get? C = some (excClassObj nm q C N bs bm hdct sn sub ab col dd k0 k1 k2 k3 k5 newId))
    (hq : R (.ok (.ret (.ref (h.objs.size + 1)))) ⟨(h.push { cls := .type "tuple", data := .seq rest.toArray }).push
      { cls := .ref C, data := .fields #[.ref h.objs.size, .none, .none, .none, .bool false, .none] }, g, d, t, os⟩) (hrest : rest.length ≤ sizeLine) :
    codeAny (model prog w) A (.builtin newId ⟨.ref C :: rest, kws⟩) R ⟨h, g, d, t, os⟩ := by
  have hends := F.ends
  have hcB : (Value.ref C :: bm).contains (.type B) = true := by rw [List.contains_cons, hT, F.hasB, Bool.or_true]
  have hcA : (Value.ref C :: bm).contains (.type "AttributeError") = false := by rw [List.contains_cons, hT, F.noAttr]; rfl
  have hcN : (Value.ref C :: bm).contains (.type "NameError") = false := by rw [List.contains_cons, hT, F.noName]; rfl
  refine codeAny_builtinAt F.entry ?_
  unfold Builtin.«BaseException.__new__»
  refine PySem.wpAt_bind ?_
  show PySem.wpAt _ _ _ (stack >>= _) _ _ _
  refine PySem.wpAt_bind (PySem.wpAt_stack fun p below => PySem.wpAt_of_wpAny ?_)
  wp_walk
  refine PySem.wpAt_of_wpAny ?_
  rw [F.owner]
  repeat (first | with_reducible refine wpAny_madeHere_exc F.canon hC ?_ | with_reducible refine wpAny_loadPart_at hC ?_ | (with_reducible refine wpAny_isSubtype_exc hC ?_; first | rw [hcB] | rw [hcA] | rw [hcN]) | wp_step)
  show R _ _
  rw [Heap.size_push]
  exact hq
theorem type_call_ownK (F : ExcBaseFacts B newId initId bmB) (hT : ∀ X : String, bm.contains (.type X) = bmB.contains (.type X)) {rest : List Value} {fI : Addr} {Q : PySem.Fin → Shared → Prop}
    (hC : h.get? C = some (excClassObj nm q C N bs bm hdct sn sub ab col dd k0 k1 k2 k3 k5 newId))
    (hi : W.Looks (model prog w) h (typeLookup (.ref C) "__init__") (some (.ref fI))) (hb : ∀ self, W.Looks (model prog w) h (bindSpecial (.ref fI) self) (.ref fI, [self])) (hrest : rest.length ≤ sizeLine)
    (hq : codeAny (model prog w) A (.call (.ref fI) ⟨.ref (h.objs.size + 1) :: rest, kws⟩)
      (fun r s' => match r with | .ok (.ret v) => v = .none ∧ Q (.done (.ret (.ref (h.objs.size + 1)))) s' | .ok _ => False | .error e => E e s')
      ⟨(h.push (W.kdv_tup rest)).push (excO C h.objs.size), g, d, t, os⟩) :
    wpAny (model prog w) A (Builtin.«type.__call__» ⟨.ref C :: rest, kws⟩) Q E ⟨h, g, d, t, os⟩ := by
  repeat (first | with_reducible refine wpAny_loadPart_at hC ?_ | with_reducible refine wpAny_madeBy_exc hC ?_ | wp_step)
  refine codeAny_call_builtin_code (Code.quiet_builtin _ F.quiet) (check_newK F hT hC ?_)
  refine new_ownK F hT hC ?_ hrest
  show wpAny _ _ _ _ _ _
  have k : ∀ b o, h.get? b = some o → ((h.push (W.kdv_tup rest)).push (excO C h.objs.size)).get? b = some o := fun b o e => Heap.get?_push_of_some _ (Heap.get?_push_of_some _ e)
  have hC₁ := k _ _ hC
  have hget : ((h.push (W.kdv_tup rest)).push (excO C h.objs.size)).get? (h.objs.size + 1) = some (excO C h.objs.size) := by heap_get
  have hcC : (Value.ref C :: bm).contains (.ref C) = true := by simp
  have i1 := hi.keeps k
  have b1 := (hb (.ref (h.objs.size + 1))).keeps k
  unfold isInstance
  repeat (first | with_reducible refine wpAny_loadPart_at hget ?_ | (with_reducible refine wpAny_isSubtype_exc hC₁ ?_; rw [hcC]) | wp_step)
  show wpAny _ _ (typeLookup (.ref C) _) _ _ _
  refine i1.at ?_
  refine wpAny_holding (wpAny_bind (b1.at ?_))
  refine wpAny_bind (wpAny_call (codeAny_mono hq fun r s' z => ?_))
  rcases r with e | (v | _ | _ | _) <;> first | exact z | exact z.elim | skip
  obtain ⟨rfl, z⟩ := z
  first
    | exact wpAny_pure (wpAny_pure z)
    | (wp_walk; exact z)
theorem call_ownK (F : ExcBaseFacts B newId initId bmB) (hT : ∀ X : String, bm.contains (.type X) = bmB.contains (.type X)) {rest : List Value} {fI : Addr}
    (hC : h.get? C = some (excClassObj nm q C N bs bm hdct sn sub ab col dd k0 k1 k2 k3 k5 newId))
    (hi : W.Looks (model prog w) h (typeLookup (.ref C) "__init__") (some (.ref fI))) (hb : ∀ self, W.Looks (model prog w) h (bindSpecial (.ref fI) self) (.ref fI, [self])) (hrest : rest.length ≤ sizeLine)
    (hq : codeAny (model prog w) (A.under (.builtin "type.__call__" ⟨.ref C :: rest, kws⟩)) (.call (.ref fI) ⟨.ref (h.objs.size + 1) :: rest, kws⟩) (W.InitBack (h.objs.size + 1) R)
      ⟨(h.push (W.kdv_tup rest)).push (excO C h.objs.size), g, d, t, os⟩) :
    codeAny (model prog w) A (.call (.ref C) ⟨rest, kws⟩) R ⟨h, g, d, t, os⟩ := by
  have f1 := tc_lookup
  have f2 := tc_bind (.ref C)
  have hTy : (⟨h, g, d, t, os⟩ : Shared).TypeIs (.ref C) "type" := ⟨_, hC, rfl⟩
  refine codeAny_of_tree ?_
  show wpAny _ _ (callAny (.ref C) _) _ _ _
  repeat (any_goals (first | assumption | with_reducible refine wpAny_loadPart_at hC ?_ | wp_step))
  refine ⟨rfl, ?_⟩
  refine codeAny_call_builtin_at (Code.quiet_builtin _ (by decide +kernel)) entry_typeCall (wpAny_check_type_call_sub hC (type_call_ownK F hT hC hi hb hrest ?_))
  refine codeAny_mono hq fun r s' z => ?_
  rcases r with e | (v | _ | _ | _) <;> exact z
end
end DV
namespace DV
open PySem PySem.Spec PyProof.Rows L2
/-! ### an exception made, not raised -/
section
variable {X : Cx} {C f : Addr} {fd : FuncData} {ps ks : List Str} {sp : Sp} {k n : Nat} {g : List Value → List Value → List Value} {gV : List V → List V → List V}
theorem run_mkE {pins : List (Addr × Obj)} {σ : L2.St} {H : Hp} {s : Shared} {Q : VK} {us ws : List Value} {vs zs : List V} (T : OexG X.K C) (iC : PySem.W.findIn X.K (.ref C) "__init__" = some (some (.ref f))) (tI : PySem.W.typeIn X.K (.ref f) = some (.type "function"))
    (G : FnG X.prog X.w X.K X.mg X.base k f fd ps sp) (hr : Room (k + 1) X.A) (hg : X.A.guards = some []) (hb : KBn X.K fd ps (n + 1) ks g gV) (I : Inv X pins σ H s) (r : Vals vs us) (rz : Vals zs ws) (l1 : vs.length = n) (l2 : zs.length = ks.length) (hz : vs.length ≤ 1000)
    (h : ∀ a, H a = none → sp (gV (.ref a :: vs) zs) (upd H a (exo a C none)) (fun v H2 => v = .non ∧ Q (.ref a) H2) (fun _ _ _ => False)) :
    wpAny (model X.prog X.w) X.A (call (.ref C) us (ks.zip ws)) (EP X pins σ Q) X.xe s := by
  obtain ⟨B, newId, initId, bmB, nm, q, N, bs, bm, sn, sub, ab, col, dd, k0, k1, k2, k3, k5, FB, SF, KF, hC, hbm, hal, hsB⟩ := T.ex
  obtain ⟨hp, gg, dr, tk, os⟩ := s
  have hsz : hp.objs.size ≤ hp.objs.size + 1 := Nat.le_succ _
  have hn : H (hp.objs.size + 1) = none := I.hok.fresh hsz
  have hq := h (hp.objs.size + 1) hn
  have kk : ∀ b o, hp.get? b = some o → ((hp.push (PySem.W.kdv_tup us)).push (PySem.HandSPX.excO C hp.objs.size)).get? b = some o := fun b o e => Heap.get?_push_of_some _ (Heap.get?_push_of_some _ e)
  have hget : ((hp.push (PySem.W.kdv_tup us)).push (PySem.HandSPX.excO C hp.objs.size)).get? (hp.objs.size + 1) = some (PySem.HandSPX.excO C hp.objs.size) := by heap_get
  have I2 : Inv X pins σ (upd H (hp.objs.size + 1) (exo (hp.objs.size + 1) C none)) ⟨(hp.push (PySem.W.kdv_tup us)).push (PySem.HandSPX.excO C hp.objs.size), gg, dr, tk, os⟩ :=
    I.laid (t' := tk) (a := hp.objs.size + 1) (o := exo (hp.objs.size + 1) C none) (h' := (hp.push (PySem.W.kdv_tup us)).push (PySem.HandSPX.excO C hp.objs.size)) kk hsz (exo_ok hget)
  have r1 : Vals (V.ref (hp.objs.size + 1) :: vs) (Value.ref (hp.objs.size + 1) :: us) := .cons rfl r
  have r2 := hb.rel r1 rz
  have e1 : (Value.ref (hp.objs.size + 1) :: us).length = n + 1 := r1.length.symm.trans (congrArg Nat.succ l1)
  have e2 : ws.length = ks.length := rz.length.symm.trans l2
  have hus : us.length ≤ sizeLine := by
    rw [← Paired.length r, sizeLine_eq]
    omega
  refine wpAny_call (call_ownK FB (fun Y => PySem.W.excTail_contains Y _ hbm) (I.kIn _ _ hC) (PySem.W.looks_findIn I.kIn iC) (fun self => PySem.W.bind_fn I.kIn self tI) hus
    (codeAny_mono (G.run _ X.stack _ _ ⟨Value.ref (hp.objs.size + 1) :: us, ks.zip ws⟩ (g (Value.ref (hp.objs.size + 1) :: us) ws) _ _ (fun _ _ _ => False) (hr.make C us (ks.zip ws)) hg (I2.env0.make C us (ks.zip ws)) (hb.to _ (Value.ref (hp.objs.size + 1) :: us) ws I2.kIn e1 e2) r2 hq) fun r s' hq' => ?_))
  rcases r with er | fl
  · obtain ⟨_, _, _, _, _, _, _, _, _, _, _, _, _, no⟩ := hq'
  · cases fl with
    | ret u =>
      obtain ⟨v, H', I3, rv, ev, q3⟩ := I2.after hq'
      subst ev
      exact ⟨rv, ⟨V.ref (hp.objs.size + 1), H', I3, rfl, q3⟩⟩
    | next => exact (show False from hq').elim
    | brk => exact (show False from hq').elim
    | cont => exact (show False from hq').elim
/-- C(e, ..) | C(k = v, ..) -/
def tMkE (C : Addr) (n m : Nat) (sp : Sp) (gV : List V → List V → List V) (t tk : TA) : TE := fun σ H Q => t σ H fun vs H1 => tk σ H1 fun zs H2 => vs.length = n ∧ zs.length = m ∧ vs.length ≤ 1000 ∧ ∀ a, H2 a = none → sp (gV (.ref a :: vs) zs) (upd H2 a (exo a C none)) (fun v H3 => v = .non ∧ Q (.ref a) H3) (fun _ _ _ => False)
theorem pe_mkEp {x : Str} {p pos : Pos} {e : Expr} {es : List Expr} {t : TA} (T : OexG X.K C) (iC : PySem.W.findIn X.K (.ref C) "__init__" = some (some (.ref f))) (tI : PySem.W.typeIn X.K (.ref f) = some (.type "function"))
    (G : FnG X.prog X.w X.K X.mg X.base k f fd ps sp) (hr : Room (k + 1) X.A) (hgd : X.A.guards = some []) (hg : Gl X x) (hm : X.mg x = some (.ref C)) (hb : KBn X.K fd ps (n + 1) [] g gV) (ha : PA X (e :: es) t)
    (hdb : (x == ("__debug__" : Str)) = false) (he : starEach (e :: es) X.env = (false, eval e X.env) :: starEach es X.env) (hpl : (backTo pos (starEach es X.env)).any (·.1) = false) :
    PE X (.Call (.Name x p) (e :: es) [] pos) (tMkE C n 0 sp gV t tNil) := by
  refine ⟨fun pins s σ H Q I h => ?_⟩
  refine wpAny_Call_Name_kw (ld_glob I hg hm ?_ hdb)
  refine PySem.W.callWith_K (h₀ := X.base) I.ok.mod.kin T.kC (thn (ha.run pos pins s σ H _ I h) fun us s1 ⟨vs, H1, I1, r1, l1, _, hz, q1⟩ => ⟨I1.kIn, ?_⟩) he hpl
  exact run_mkE T iC tI G hr hgd hb I1 r1 .nil l1 rfl hz q1
theorem pe_mkEk {x : Str} {p pos : Pos} {kws : List Keyword} {tk' : TA} (T : OexG X.K C) (iC : PySem.W.findIn X.K (.ref C) "__init__" = some (some (.ref f))) (tI : PySem.W.typeIn X.K (.ref f) = some (.type "function"))
    (G : FnG X.prog X.w X.K X.mg X.base k f fd ps sp) (hr : Room (k + 1) X.A) (hgd : X.A.guards = some []) (hg : Gl X x) (hm : X.mg x = some (.ref C)) (hb : KBn X.K fd ps (0 + 1) ks g gV) (hkw : PK X kws tk')
    (hall : (backToKw pos (keywordEach kws X.env)).all (·.1.isSome) = true) (hks : (backToKw pos (keywordEach kws X.env)).filterMap (·.1) = ks) (hdb : (x == ("__debug__" : Str)) = false)
    (hpl : ((backTo pos (starEach [] X.env)).any (·.1) || (backToKw pos (keywordEach kws X.env)).any (·.1.isNone)) = false) :
    PE X (.Call (.Name x p) [] kws pos) (tMkE C 0 ks.length sp gV tNil tk') := by
  refine ⟨fun pins s σ H Q I h => ?_⟩
  refine wpAny_Call_Name_kw (ld_glob I hg hm ?_ hdb)
  refine PySem.W.callWith_KW0 (h₀ := X.base) I.ok.mod.kin T.kC hall (thn (hkw.run pos pins s σ H _ I h) fun ws s2 ⟨zs, H2, I2, rz, l1, l2, hz, q2⟩ => ⟨I2.kIn, ?_⟩) hpl
  rw [hks]
  exact run_mkE T iC tI G hr hgd hb I2 .nil rz l1 l2 hz q2
/-- C(), no __init__ of its own -/
theorem pe_mkE0 {bmB : List Value} {B newId initId : String} {x : Str} {p pos : Pos} (F : ExcBaseFacts B newId initId bmB) (q : PySem.W.excIn X.K C bmB newId = true) (hm : X.mg x = some (.ref C))
    (kC : PySem.W.keepIn X.K (.ref C) = true) (hg : Gl X x) (hdb : (x == ("__debug__" : Str)) = false) :
    PE X (.Call (.Name x p) [] [] pos) (fun σ H Q => ∀ a, H a = none → Q (.ref a) (upd H a (exo a C none))) := by
  refine ⟨fun pins s σ H Q I h => ?_⟩
  refine wpAny_Call_Name_kw (ld_glob I hg hm (PySem.W.callWith_K0 I.kIn kC ?_) hdb)
  show wpAny _ _ (call (.ref C) []) _ _ _
  obtain ⟨bm, N, nm, qn, bs, hdct, sn, sub, ab, col, dd, k0, k1, k2, k3, k5, mN, hC, hN, hni, T⟩ := exc_obj I.kIn q
  refine wpAny_call_exc_subT F T hC hN hni (fun h' e hx => ?_) (by rw [sizeLine_eq]; show 0 ≤ _; omega)
  obtain ⟨t, he, _, _⟩ := hx.there
  have hn : H e = none := I.hok.gone hx.new
  exact ⟨.ref e, _, I.laidN (t' := s.toks) hx.keeps hx.new hn (exo_ok he), rfl, h e hn⟩
end
end DV
namespace DV
open PySem PySem.Spec PyProof.Rows L2
/-! ### exceptions made: by data -/
def planV (plan : List (Str × Nat)) (vs : List V) : List (Str × V) := plan.map fun p => (p.1, (vs[p.2]?).getD .non)
def planD (plan : List (Str × Nat)) (ds : List D) : List (Str × D) := plan.map fun p => (p.1, (ds[p.2]?).getD .non)
structure ExF (P : Program) (w : World) (K : PySem.W.Frag) (mg : Str → Option Value) (base : Heap) (c : Str) (n : Nat) (ks : List Str) (plan : List (Str × Nat)) (k : Nat) : Prop where
  ex : ∃ (C f : Addr) (fd : FuncData) (ps : List Str) (sp : Sp) (g : List Value → List Value → List Value) (gV : List V → List V → List V), mg c = some (.ref C) ∧ OexG K C ∧ PySem.W.findIn K (.ref C) "__init__" = some (some (.ref f)) ∧ PySem.W.typeIn K (.ref f) = some (.type "function") ∧
    FnG P w K mg base k f fd ps sp ∧ KBn K fd ps (n + 1) ks g gV ∧
    ∀ (a : Addr) (vs zs : List V) (H : Hp) (Q : VK) (E : XK), vs.length = n → zs.length = ks.length → H a = none →
      (∀ d H2, H d = none → d ≠ a → H2 = upd (upd H d (exd d (planV plan (vs ++ zs)))) a (exo a C (some d)) → Q .non H2) → sp (gV (.ref a :: vs) zs) (upd H a (exo a C none)) Q E
/-- an own exception class without __init__ -/
structure Ex0 (K : PySem.W.Frag) (mg : Str → Option Value) (c : Str) : Prop where
  ex : ∃ (C : Addr) (B newId initId : String) (bmB : List Value), mg c = some (.ref C) ∧ ExcBaseFacts B newId initId bmB ∧ PySem.W.excIn K C bmB newId = true ∧ PySem.W.keepIn K (.ref C) = true
def excP (c : Str) (n : Nat) (plan : List (Str × Nat)) (fa : Mm (List Ex)) : Mm Ex := fa >>= fun xs => if frzs xs && decide (xs.length = n) && decide (n ≤ 100) then pure (fl (.obj c (planD plan (xs.map (·.d))))) else bad
def exc0 (c : Str) : Mm Ex := pure (fl (.obj c []))
section
variable {K : PySem.W.Frag} {mg : Str → Option Value} {F : Hp} {μ : List Addr}
theorem datL_at : ∀ {vs : List V} {ds : List D} (n : Nat), DatL K mg F μ vs ds → Dat K mg F μ ((vs[n]?).getD .non) ((ds[n]?).getD .non)
  | _, _, n, .nil => by simpa using .non
  | _, _, 0, .cons h _ => by simpa using h
  | _, _, n + 1, .cons _ t => by simpa using datL_at n t
theorem datF_plan {vs : List V} {ds : List D} (h : DatL K mg F μ vs ds) : ∀ plan : List (Str × Nat), DatF K mg F μ (planV plan vs) (planD plan ds)
  | [] => .nil
  | p :: t => .cons (datL_at p.2 h) (datF_plan h t)
end
section
variable {X : Cx} {W : WX}
theorem exc_end {c : Str} {C a d : Addr} {c0 c1 : Cf} {Q : VK} {fvs : List (Str × V)} {fs : List (Str × D)} (h : Aft X.K X.mg c0 c1) (hσ : c1.σ = c0.σ) (hm : X.mg c = some (.ref C)) (hf : DatF X.K X.mg c1.F c1.μ fvs fs) (ha : c1.H a = none) (hd : c1.H d = none) (ne : d ≠ a)
    (hp : Post X.K X.mg W (ExV X.K X.mg) c0 ((pure (fl (.obj c fs)) : Mm Ex) c1.τ c1.O) Q) : Q (.ref a) (upd (upd c1.H d (exd d fvs)) a (exo a C (some d))) := by
  have a1 := aft_newF h (o := exd d fvs) hd
  have ha1 : ({ c1 with F := upd c1.F d (exd d fvs), H := upd c1.H d (exd d fvs) } : Cf).H a = none := (upd_ne (Ne.symm ne)).trans ha
  have a2 := aft_newF a1 (o := exo a C (some d)) ha1
  have s1 := subF_new h (o := exd d fvs) hd
  have s2 := subF_new a1 (o := exo a C (some d)) ha1
  exact post_ok (x := fl (.obj c fs)) a2 hσ hp (.obj (.inr ⟨d, upd_same, (upd_ne ne).trans upd_same⟩) hm (hf.mono (s1.trans s2) (Pfx.refl _)))
theorem de_excP {c : Str} {np pos : Pos} {e : Expr} {es : List Expr} {k j n : Nat} {plan : List (Str × Nat)} {fa : Mm (List Ex)} (hS : Std X W k) (hc : ExF X.prog X.w X.K X.mg X.base c n [] plan j) (ha : DAs X W (e :: es) fa) (hj : j + 1 ≤ k := by decide)
    (hg : Gl X c := by rfl) (hdb : (c == ("__debug__" : Str)) = false := by decide)
    (he : starEach (e :: es) X.env = (false, eval e X.env) :: starEach es X.env := by rfl) (hpl : (backTo pos (starEach es X.env)).any (·.1) = false := by rfl) :
    DE X W (.Call (.Name c np) (e :: es) [] pos) (excP c n plan fa) := by
  obtain ⟨C, f, fd, ps, sp, g, gV, hm, T, iC, tI, G, hb, hsum⟩ := hc.ex
  refine PE.imp (pe_mkEp T iC tI G (hS.room.mono hj) hS.grd hg hm hb ha hdb he hpl) fun σ H Q q => ?_
  refine post_fst q fun c1 xs c2 vs r hσ hH a2 hσ2 hv hp => ?_
  by_cases hl : (frzs xs && decide (xs.length = n) && decide (n ≤ 100)) = true
  · rw [if_pos hl] at hp
    simp only [Bool.and_eq_true, decide_eq_true_eq] at hl
    obtain ⟨⟨h1, h2⟩, h3⟩ := hl
    have hvl : vs.length = n := hv.length.symm.trans h2
    refine ⟨hvl, rfl, by omega, fun a ha => hsum a vs [] c2.H _ _ hvl rfl ha fun d H2 hd ne e => ⟨rfl, ?_⟩⟩
    rw [e, List.append_nil]
    exact exc_end a2 hσ2 hm (datF_plan (frzs_dat hv h1) plan) ha hd ne hp
  · rw [if_neg hl] at hp
    exact hp.elim
theorem de_excK {c : Str} {np pos : Pos} {kws : List Keyword} {k j : Nat} {ks : List Str} {plan : List (Str × Nat)} {fa : Mm (List Ex)} (hS : Std X W k) (hc : ExF X.prog X.w X.K X.mg X.base c 0 ks plan j) (ha : DKs X W kws fa) (hj : j + 1 ≤ k := by decide)
    (hall : (backToKw pos (keywordEach kws X.env)).all (·.1.isSome) = true := by rfl) (hks : (backToKw pos (keywordEach kws X.env)).filterMap (·.1) = ks := by rfl) (hg : Gl X c := by rfl) (hdb : (c == ("__debug__" : Str)) = false := by decide)
    (hpl : ((backTo pos (starEach [] X.env)).any (·.1) || (backToKw pos (keywordEach kws X.env)).any (·.1.isNone)) = false := by rfl) :
    DE X W (.Call (.Name c np) [] kws pos) (excP c ks.length plan fa) := by
  obtain ⟨C, f, fd, ps, sp, g, gV, hm, T, iC, tI, G, hb, hsum⟩ := hc.ex
  refine PE.imp (pe_mkEk T iC tI G (hS.room.mono hj) hS.grd hg hm hb ha hall hks hdb hpl) fun σ H Q q => ?_
  refine post_fst q fun c1 xs c2 vs r hσ hH a2 hσ2 hv hp => ?_
  by_cases hl : (frzs xs && decide (xs.length = ks.length) && decide (ks.length ≤ 100)) = true
  · rw [if_pos hl] at hp
    simp only [Bool.and_eq_true, decide_eq_true_eq] at hl
    obtain ⟨⟨h1, h2⟩, h3⟩ := hl
    have hvl : vs.length = ks.length := hv.length.symm.trans h2
    refine ⟨rfl, hvl, by show 0 ≤ _; omega, fun a ha => hsum a [] vs c2.H _ _ rfl hvl ha fun d H2 hd ne e => ⟨rfl, ?_⟩⟩
    rw [e, List.nil_append]
    exact exc_end a2 hσ2 hm (datF_plan (frzs_dat hv h1) plan) ha hd ne hp
  · rw [if_neg hl] at hp
    exact hp.elim
theorem de_exc0 {c : Str} {np pos : Pos} (hc : Ex0 X.K X.mg c) (hg : Gl X c := by rfl) (hdb : (c == ("__debug__" : Str)) = false := by decide) :
    DE X W (.Call (.Name c np) [] [] pos) (exc0 c) := by
  obtain ⟨C, B, newId, initId, bmB, hm, F, q, kC⟩ := hc.ex
  refine PE.imp (pe_mkE0 F q hm kC hg hdb) fun σ H Q ⟨τ, O, F', μ, r, h⟩ a ha => ?_
  have a1 := aft_newF (Aft.refl r) (p := a) (o := exo a C none) ha
  exact post_ok (x := fl (.obj c [])) a1 rfl h (.obj (.inl ⟨rfl, upd_same⟩) hm .nil)
end
end DV
namespace DV
open PySem PySem.Spec PyProof.Rows L2
/-! ### isinstance(e, C), e.f of an exception that is held as a value -/
section
open PySem.W PySem.Calls
variable {prog : Program} {w : World} {A : Around} {E : Value → Shared → Prop} {s : Shared} {K : Frag} {x D : Addr} {ox : Obj} {od : Option Obj}
theorem findObj_dataD {C : Addr} {name : Str} {a g : Value} (hc : (clsIn K C).isSome = true) (ha : findIn K (.ref C) name = some (some a)) (hg : specialIn K a "__get__" = some (some g)) (ht : takesIn K a = some true) : findObj K C od name = some (.bind g a) := by
  obtain ⟨cd, hc⟩ := Option.isSome_iff_exists.mp hc
  unfold findObj
  rw [hc, Option.bind_some, ha, Option.bind_some]
  simp [hg, ht]
theorem kin_classD {Q : Option Value → Shared → Prop} (hga : findIn K (.ref D) "__getattribute__" = some (some (.builtin "BaseException.__getattribute__"))) (hgt : findIn K (.ref D) "__getattr__" = some none) (hsub : subIn K (.ref D) (.type "BaseException") = some true)
    (hdct : hasDictIn K D = true) (ha : findIn K (.ref D) "__class__" = some (some (.builtin "object.__class__")))
    (hn : specialIn K (.builtin "object.__class__") "__get__" = some (some (.builtin "getset_descriptor.__get__"))) (htk : takesIn K (.builtin "object.__class__") = some true) (hm : mroIn K D (.type "object") = some true)
    (X : K.In s.heap) (I : PySem.W.InstAt s.heap x ox D od) (h : Q (some (.ref D)) { s with toks := s.toks + 1 }) : wpAny (model prog w) A (getAttr? (.ref x) "__class__") Q E s := by
  have hf : findObj K D od "__class__" = some (.bind (.builtin "getset_descriptor.__get__") (.builtin "object.__class__")) := findObj_dataD (by obtain ⟨cd, hc, _⟩ := any_some hdct; rw [hc]; rfl) ha hn htk
  obtain ⟨hp, g, d, t, os⟩ := s
  have L0 := I.type (M := model prog w)
  have L1 := looks_findIn (M := model prog w) X hga
  have L2 := looks_findIn (M := model prog w) X hgt
  have L3 := PySem.W.looks_find (M := model prog w) X I hf
  have sub : Looks (model prog w) hp (isInstance (.ref x) (.type "BaseException")) true := L0.andThen (looks_subIn X hsub)
  have hx0 : (false && onTheHeap (Value.builtin "BaseException.__getattribute__")) = false := rfl
  have hx2 : (Value.builtin "BaseException.__getattribute__" == Value.builtin "object.__getattribute__") = false := by decide +kernel
  have hx1 : (onTheHeap (Value.ref D) && Value.builtin "BaseException.__getattribute__" == Value.builtin "object.__getattribute__") = false := by rw [hx2]; rfl
  unfold getAttr? getAttrBy? getAttrBy
  refine wpAny_bind (wpAny_mkText (wpAny_bind (wpAny_attempt (wpAny_holding (wpAny_bind (L0.at (wpAny_bind (L1.at ?_))))))))
  show wpAny _ _ (if (onTheHeap (Value.ref D) && Value.builtin "BaseException.__getattribute__" == Value.builtin "object.__getattribute__") = true then _ else _) _ _ _
  rw [hx1, if_neg Bool.false_ne_true]
  unfold getAttrByItsOwn hookBefore
  refine wpAny_bind ?_
  rw [if_pos (show onTheHeap (Value.ref D) = true from rfl)]
  refine L2.at ?_
  refine wpAny_bind (wpAny_attempt (wpAny_holding ?_))
  unfold callGetattribute
  rw [hx0, if_neg Bool.false_ne_true]
  unfold boundAndCalled
  rw [PySem.F.excAttr_ValueError.ga.bind (.ref x)]
  refine wpAny_bind (wpAny_pure ?_)
  show wpAny _ _ (call (.builtin "BaseException.__getattribute__") [.ref x, .str "__class__" t]) _ _ _
  refine wpAny_call (codeAny_call_builtin PySem.F.excAttr_ValueError.ga.plain PySem.F.entry_bexc_ga ?_)
  refine @check_slot (model prog w) _ _ ⟨hp, g, d, t + 1, os⟩ "BaseException.__getattribute__" "BaseException" "__getattribute__" (.ref x) [.str "__class__" t] [] _ (by decide +kernel) (by decide +kernel) sub (PySem.F.args_bexc_ga (.ref x) (.str "__class__" t)) ?_
  unfold Builtin.«object.__getattribute__»
  refine wpAny_bind (wpAny_of_eq (a := ((Value.ref x : Value), [Value.str "__class__" t])) (by first | rfl | (simp only [slotArgs]; rfl)) ?_)
  refine wpAny_bind (wpAny_pure (wpAny_bind (L0.at (wpAny_bind (L3.at ?_)))))
  show wpAny _ _ (holding [Value.builtin "object.__class__"] (call (.builtin "getset_descriptor.__get__") [.builtin "object.__class__", .ref x, .ref D]) >>= ret) _ _ _
  refine wpAny_bind (wpAny_holding (wpAny_call (class_get (s := ⟨hp, g, d, t + 1, os⟩) (ox := ox) (od := od) X I hm ?_)))
  refine wpAny_pure ?_
  show wpAny _ _ (handedOut (.ref D)) _ _ _
  rw [handedOut_of (v := .ref D) rfl]
  first
    | exact wpAny_pure (wpAny_pure h)
    | exact wpAny_pure h
    | exact wpAny_pure (wpAny_bind (wpAny_pure (wpAny_pure h)))
theorem kitx_excD (C : ExcC K D) : KitX K (.ref x) (.ref D) (fun h => ∃ ox od, PySem.W.InstAt h x ox D od) where
  ty := fun _ _ _ I => let ⟨_, _, I⟩ := I; I.type
  it := fun _ _ X _ => by
    obtain ⟨cdD, hcD, _⟩ := any_some C.hd
    unfold clsIn at hcD
    split at hcD
    · rename_i c' d' cd' sl' ho
      intro A' Q' E' s' k q
      unfold isType loadHead
      exact wpAny_bind (wpAny_loadPart (k _ _ (X _ _ ho)) (wpAny_pure q))
    · cases hcD
  ne := fun h tp dd its n sl X htp => (handS_kitx_exc (x := x) (ox := { cls := .none, data := .fields #[] }) C.hg C.hk C.hs C.hd C.ha C.hn C.ht C.hm).ne h tp dd its n sl X htp
  ca := fun X I k => let ⟨_, _, I⟩ := I; kin_classD C.hg C.hk C.hs C.hd C.ha C.hn C.ht C.hm X I k
end
/-- the state holds such an exception at a -/
def ExcH (H : Hp) (a C : Addr) : Prop := H a = some (exo a C none) ∨ ∃ d fs, H a = some (exo a C (some d)) ∧ H d = some (exd d fs)
theorem excH_of {H : Hp} {a C : Addr} {fvs : List (Str × V)} (h : ExcAt H a C fvs) : ExcH H a C := by
  rcases h with ⟨_, h⟩ | ⟨d, h1, h2⟩
  · exact .inl h
  · exact .inr ⟨d, fvs, h1, h2⟩
def rIsO (K : PySem.W.Frag) : List V → Hp → VK → Prop := fun xs H Q => ∃ (a D : Addr) (c : V) (cv : Value) (b : Bool), xs = [.ref a, c] ∧ ExcH H a D ∧ ExcC K D ∧ (∀ u, L2.RelV c u → u = cv) ∧ PySem.W.kitOne K (.ref D) cv = some b ∧ Q (.bl b) H
theorem exc_inst {P : Program} {w : World} {H : Hp} {h : Heap} {a C : Addr} (hok : HOk P w H h) (e : ExcH H a C) : ∃ ox od, PySem.W.InstAt h a ox C od := by
  rcases e with e | ⟨d, fs, e, ed⟩
  · obtain ⟨t1, ho⟩ := exo_at hok e
    exact ⟨_, none, ho, rfl, rfl, trivial⟩
  · obtain ⟨t1, ho⟩ := exo_at hok e
    obtain ⟨mA, ⟨od, es, ep, hod, hr⟩, rel⟩ := exd_at hok ed
    exact ⟨_, some od, ho, rfl, rfl, hod⟩
theorem call_isO {X : Cx} : CallR X (.builtin "isinstance") (rIsO X.K) := by
  intro pins s σ H xs us Q I r h
  obtain ⟨a, D, c, cv, b, rfl, eH, C, hcv, e, q⟩ := h
  cases r with
  | cons rx rr =>
    cases rr with
    | cons rt rr =>
      cases rr
      cases rx
      have ec := hcv _ rt
      subst ec
      obtain ⟨ox, od, J⟩ := exc_inst I.hok eH
      exact PySem.W.kia_one (kitx_excD C) I.kIn ⟨ox, od, J⟩ e (fun z => nomatch z) fun tk => ⟨.bl b, H, I.kept (t' := tk) fun _ _ z => z, rfl, q⟩
/-- e.f: the field of an exception -/
def tXfO (K : PySem.W.Frag) (n : Str) (te : TE) : TE := fun σ H Q => te σ H fun x H1 => ∃ (a C d : Addr) (fs : List (Str × V)) (v : V), x = .ref a ∧ H1 a = some (exo a C (some d)) ∧ H1 d = some (exd d fs) ∧ XfC K C ∧ PySem.W.findIn K (.ref C) n = some none ∧ fs.lookup n = some v ∧ Q v H1
theorem pe_xfO {X : Cx} {e : Expr} {te : TE} {pos : Pos} {n : Str} (he : PE X e te) (hb : attributeBase e n X.env (eval e X.env) = eval e X.env := by rfl) : PE X (.Attribute e n pos) (tXfO X.K n te) := by
  refine ⟨fun pins s σ H Q I h => ?_⟩
  refine attr_of hb (thn (he.run pins s σ H _ I h) fun u s1 hh => ?_)
  obtain ⟨x, H1, I1, rx, a, C, d, fs, v, ex, e1, e2, T, hno, l, q⟩ := hh
  subst ex
  obtain rfl : u = Value.ref a := rx
  obtain ⟨t1, ho⟩ := exo_at I1.hok e1
  obtain ⟨mA, hns, hr⟩ := exd_at I1.hok e2
  obtain ⟨od, hod, hl⟩ := lookIn_ns hns
  obtain ⟨u, hu, ru⟩ := RelO.some_of (v := v) (o := mA n) (by rw [← l]; exact hr n)
  have J : PySem.W.InstAt s1.heap a _ C (some od) := ⟨ho, rfl, rfl, hod⟩
  exact HandSPX.exc_get I1.kIn J T.ga T.gg T.exC (PySem.W.findObj_own T.hdC hno rfl (by rw [hl, hu])) (handed_of ru) ⟨v, H1, I1.tok _, ru, q⟩
/-! ### by data -/
/-- isinstance(e, T), e an exception of one of the classes cs -/
structure IsX (K : PySem.W.Frag) (mg : Str → Option Value) (T : Str) (cs : List (Str × Bool)) : Prop where
  no : cs.lookup ("" : Str) = none
  ex : ∃ (cv : Value), ((∃ C, mg T = some (.ref C) ∧ cv = .ref C) ∨ ∃ Ts, mg T = none ∧ bootBuiltins T = some (.type Ts) ∧ cv = .type Ts) ∧
    ∀ c' b, cs.lookup c' = some b → ∃ C', mg c' = some (.ref C') ∧ ExcC K C' ∧ PySem.W.kitOne K (.ref C') cv = some b
structure XfF (K : PySem.W.Frag) (mg : Str → Option Value) (n : Str) (cs : List Str) : Prop where
  no : cs.contains ("" : Str) = false
  ex : ∀ c ∈ cs, ∃ C, mg c = some (.ref C) ∧ XfC K C ∧ PySem.W.findIn K (.ref C) n = some none
def isiX (cs : List (Str × Bool)) (d : D) : Mm Ex := match d with
  | .obj c _ => opt (cs.lookup c) >>= fun b => blE b
  | _ => bad
def xfD (cs : List Str) (n : Str) (d : D) : Mm Ex := match d with
  | .obj c fs => if cs.contains c then opt (fs.lookup n) >>= fun e => pure (fl e) else bad
  | _ => bad
section
variable {X : Cx} {W : WX}
theorem obj_dat {c : Cf} {u : V} {cl : Str} {fs : List (Str × D)} (r : Rl X.K X.mg c) (rx : RdV X.K X.mg c u (.obj cl fs)) (hc : cl ≠ "") : ∃ a C fvs, u = .ref a ∧ ExcAt c.H a C fvs ∧ X.mg cl = some (.ref C) ∧ DatF X.K X.mg c.F c.μ fvs fs := by
  obtain ⟨b, rx⟩ := rx
  cases b with
  | false =>
    have rx : Dat X.K X.mg c.F c.μ u (.obj cl fs) := rx
    cases rx with
    | obj h1 h2 h3 => exact ⟨_, _, _, rfl, r.sub.exc h1, h2, h3⟩
    | hot => exact absurd rfl hc
  | true =>
    obtain ⟨a, rfl, h1, h2⟩ := rx
    exact h2.elim
theorem isX_arg {T : Str} {cs : List (Str × Bool)} (hF : IsX X.K X.mg T cs) {p2 : Pos} (hg2 : Gl X T) (hn : T ≠ "__name__") (hdb2 : (T == ("__debug__" : Str)) = false) :
    ∃ (v : V) (cv : Value), (∀ u, L2.RelV v u → u = cv) ∧ PE X (.Name T p2) (tC v) ∧ ∀ c' b, cs.lookup c' = some b → ∃ C', X.mg c' = some (.ref C') ∧ ExcC X.K C' ∧ PySem.W.kitOne X.K (.ref C') cv = some b := by
  obtain ⟨cv, hT, hO⟩ := hF.ex
  rcases hT with ⟨C, hm, rfl⟩ | ⟨Ts, hm, hv, rfl⟩
  · exact ⟨.ref C, .ref C, fun u h => h, pe_glob (v := .ref C) hg2 hm rfl hdb2, hO⟩
  · exact ⟨.ty Ts, .type Ts, fun u h => h, pe_bltn (v := .ty Ts) hg2 hm hv rfl hn hdb2, hO⟩
theorem de_isiX {x T : Str} {cs : List (Str × Bool)} {p p2 pos : Pos} {e : Expr} {f : Mm Ex} (ha : DE X W e f) (hx : x = ("isinstance" : Str)) (hm : X.mg x = none) (hF : IsX X.K X.mg T cs) (hg : Gl X x := by rfl) (hg2 : Gl X T := by rfl)
    (hn : T ≠ "__name__" := by decide) (hdb2 : (T == ("__debug__" : Str)) = false := by decide) (hs : starEach (e :: [.Name T p2]) X.env = (false, eval e X.env) :: starEach [.Name T p2] X.env := by rfl)
    (hs2 : starEach [.Name T p2] X.env = (false, eval (.Name T p2) X.env) :: starEach [] X.env := by rfl) (hpl : (backTo pos (starEach [.Name T p2] X.env)).any (·.1) = false := by rfl) :
    DE X W (.Call (.Name x p) [e, .Name T p2] [] pos) (f >>= fun x => rd x >>= fun d => isiX cs d) := by
  subst hx
  obtain ⟨vt, cv, hcv, hpt, hO⟩ := isX_arg (p2 := p2) hF hg2 hn hdb2
  refine PE.imp (pe_callB call_isO hg hm boot_isinstance (pa_cons ha (pa_cons hpt pa_nil hs2) hs) (by decide) (by decide) hs hpl) fun σ H Q q => ?_
  refine post_fst q fun c1 x c2 u rl hσ hH a2 hσ2 hx hp => ?_
  obtain ⟨d, rx, hp2⟩ := rd_okS a2.rl hx hp
  unfold isiX at hp2
  split at hp2
  · rename_i c fs
    obtain ⟨b, hb, hp3⟩ := post_opt hp2
    obtain ⟨a, C, fvs, rfl, h1, h2, _⟩ := obj_dat a2.rl rx (fun z => by rw [z, hF.no] at hb; cases hb)
    obtain ⟨C', e1, e2, e3⟩ := hO c b hb
    rw [h2] at e1
    cases e1
    exact ⟨a, C, vt, cv, b, rfl, excH_of h1, e2, hcv, e3, post_fl a2 hσ2 hp3 rfl⟩
  · exact hp2.elim
theorem lookup_nil_none {α : Type} {n : Str} : (([] : List (Str × α)).lookup n) = none := rfl
theorem de_xf {e : Expr} {n : Str} {cs : List Str} {pos : Pos} {f : Mm Ex} (he : DE X W e f) (hF : XfF X.K X.mg n cs) (hb : attributeBase e n X.env (eval e X.env) = eval e X.env := by rfl) :
    DE X W (.Attribute e n pos) (f >>= fun x => rd x >>= fun d => xfD cs n d) := by
  refine PE.imp (pe_xfO he hb) fun σ H Q q => ?_
  refine post_fst q fun c1 x c2 u rl hσ hH a2 hσ2 hx hp => ?_
  obtain ⟨d, rx, hp2⟩ := rd_okS a2.rl hx hp
  unfold xfD at hp2
  split at hp2
  · rename_i c fs
    split at hp2
    · rename_i hc
      obtain ⟨y, hy, hp3⟩ := post_opt hp2
      obtain ⟨a, C, fvs, rfl, h1, h2, h3⟩ := obj_dat a2.rl rx (fun z => by rw [z, hF.no] at hc; cases hc)
      obtain ⟨C', e1, e2, e3⟩ := hF.ex c (List.contains_iff_mem.1 hc)
      rw [h2] at e1
      cases e1
      obtain ⟨v, l, hv⟩ := h3.lookup hy
      rcases h1 with ⟨rfl, _⟩ | ⟨d, h4, h5⟩
      · cases l
      · exact ⟨a, C, d, fvs, v, rfl, h4, h5, e2, e3, l, post_ok (x := fl y) a2 hσ2 hp3 hv⟩
    · exact hp2.elim
  · exact hp2.elim
end
end DV
namespace DV
open PySem PySem.Spec PyProof.Rows L2
/-! ### head: own exception classes -/
def oexB (K : PySem.W.Frag) (C : Addr) (B newId initId : String) (bmB : List Value) : Bool := (match K.lookup C with
  | some ⟨.type "type", _, .cls cd, sl⟩ => (match cd.mro, sl.toList with
    | .ref C' :: bm, [_, _, _, _, some (.builtin n), _] => C' == C && (n == newId && (!cd.hasDel && (cd.hasDict && (PySem.W.excTail bmB bm && PySem.W.alongIn K "__init__" bm == some (some (.builtin initId))))))
    | _, _ => false)
  | _ => false) && (PySem.W.subIn K (.ref C) (.type B) == some true && (PySem.W.findIn K (.ref C) "__setattr__" == some (some (.builtin "object.__setattr__")) && (PySem.W.subIn K (.ref C) (.type "BaseException") == some true && (PySem.W.typeIn K (.ref C) == some (.type "type") && PySem.W.keepIn K (.ref C)))))
theorem oexG_of {K : PySem.W.Frag} {C : Addr} {B newId initId : String} {bmB : List Value} (FB : ExcBaseFacts B newId initId bmB) (SF : StoreFacts B bmB "object.__setattr__" "object") (KF : PySem.W.KxsFacts B initId) (h : oexB K C B newId initId bmB = true) : OexG K C := by
  unfold oexB at h
  rw [Bool.and_eq_true, Bool.and_eq_true, Bool.and_eq_true, Bool.and_eq_true, Bool.and_eq_true] at h
  obtain ⟨h0, h1, h2, h3, h4, h5⟩ := h
  refine ⟨?_, beq_iff_eq.1 h2, beq_iff_eq.1 h3, beq_iff_eq.1 h4, h5⟩
  split at h0
  · rename_i dd cd sl ho
    split at h0
    · rename_i C' bm k0 k1 k2 k3 n k5 hm hs
      simp only [Bool.and_eq_true, beq_iff_eq, Bool.not_eq_true'] at h0
      obtain ⟨rfl, rfl, hdel, hdc, ht, hal⟩ := h0
      obtain ⟨nm, bs, mro, ns, qn, hd, sn, sub, ab, col, del⟩ := cd
      dsimp only at hm hdel hdc
      subst hm hdel hdc
      have hsl : sl = #[k0, k1, k2, k3, some (.builtin n), k5] := by
        obtain ⟨l⟩ := sl
        simp only at hs
        rw [hs]
      subst hsl
      exact ⟨B, n, initId, bmB, nm, qn, ns, bs, bm, sn, sub, ab, col, dd, k0, k1, k2, k3, k5, FB, SF, KF, ho, ht, hal, beq_iff_eq.1 h1⟩
    · cases h0
  · cases h0
def excCB (K : PySem.W.Frag) (D : Addr) : Bool := PySem.W.findIn K (.ref D) "__getattribute__" == some (some (.builtin "BaseException.__getattribute__")) && (PySem.W.findIn K (.ref D) "__getattr__" == some none && (PySem.W.subIn K (.ref D) (.type "BaseException") == some true && (PySem.W.hasDictIn K D && (PySem.W.findIn K (.ref D) "__class__" == some (some (.builtin "object.__class__")) &&
  (PySem.W.specialIn K (.builtin "object.__class__") "__get__" == some (some (.builtin "getset_descriptor.__get__")) && (PySem.W.takesIn K (.builtin "object.__class__") == some true && PySem.W.mroIn K D (.type "object") == some true))))))
theorem excC_of {K : PySem.W.Frag} {D : Addr} (h : excCB K D = true) : ExcC K D := by
  unfold excCB at h
  simp only [Bool.and_eq_true, beq_iff_eq] at h
  obtain ⟨h1, h2, h3, h4, h5, h6, h7, h8⟩ := h
  exact ⟨h1, h2, h3, h4, h5, h6, h7, h8⟩
/-- isinstance of the exceptions of the classes cs -/
def isxB (K : PySem.W.Frag) (cv : Value) (cs : List (Str × Bool)) : Bool := cs.all fun q => excCB K (He.ga K q.1) && PySem.W.kitOne K (.ref (He.ga K q.1)) cv == some q.2
theorem isx_all {K : PySem.W.Frag} {mg : Str → Option Value} {cv : Value} {cs : List (Str × Bool)} (hg : ∀ q ∈ cs, mg q.1 = some (.ref (He.ga K q.1))) (h : isxB K cv cs = true) : ∀ c' b, cs.lookup c' = some b → ∃ C', mg c' = some (.ref C') ∧ ExcC K C' ∧ PySem.W.kitOne K (.ref C') cv = some b := fun c' b l => by
  have m := look_mem l
  have q := List.all_eq_true.1 h _ m
  rw [Bool.and_eq_true] at q
  exact ⟨_, hg _ m, excC_of q.1, beq_iff_eq.1 q.2⟩
theorem isx_own {K : PySem.W.Frag} {mg : Str → Option Value} {T : Str} {cs : List (Str × Bool)} (hT : mg T = some (.ref (He.ga K T))) (hg : ∀ q ∈ cs, mg q.1 = some (.ref (He.ga K q.1))) (h : isxB K (.ref (He.ga K T)) cs = true) (h0 : cs.lookup ("" : Str) = none := by decide +kernel) : IsX K mg T cs :=
  ⟨h0, _, .inl ⟨_, hT, rfl⟩, isx_all hg h⟩
theorem isx_blt {K : PySem.W.Frag} {mg : Str → Option Value} {T : Str} {Ts : String} {cs : List (Str × Bool)} (hT : mg T = none) (hv : bootBuiltins T = some (.type Ts)) (hg : ∀ q ∈ cs, mg q.1 = some (.ref (He.ga K q.1))) (h : isxB K (.type Ts) cs = true) (h0 : cs.lookup ("" : Str) = none := by decide +kernel) : IsX K mg T cs :=
  ⟨h0, _, .inr ⟨_, hT, hv, rfl⟩, isx_all hg h⟩
def xffB (K : PySem.W.Frag) (n : Str) (cs : List Str) : Bool := cs.all fun c => xfB K (He.ga K c) && PySem.W.findIn K (.ref (He.ga K c)) n == some none
theorem xff_of {K : PySem.W.Frag} {mg : Str → Option Value} {n : Str} {cs : List Str} (hg : ∀ c ∈ cs, mg c = some (.ref (He.ga K c))) (h : xffB K n cs = true) (h0 : cs.contains ("" : Str) = false := by decide +kernel) : XfF K mg n cs := ⟨h0, fun c hc => by
  have q := List.all_eq_true.1 h _ hc
  rw [Bool.and_eq_true] at q
  exact ⟨_, hg _ hc, xfB_ok q.1, beq_iff_eq.1 q.2⟩⟩
/-- the __init__ of an own exception class -/
structure ED where
  c : Str
  st : Stmt
  qual : Str
def ED.ad (K : PySem.W.Frag) (d : ED) : Addr := He.ma K (He.ga K d.c) "__init__"
def fnE (K : PySem.W.Frag) (a : Addr) : He.FnW := (K.lookup a).bind fun o => match o.data with
  | .func d => some (d.name, d.qualname, d.params, d.body, d.scope, d.globals, d.closure.map fun p => (p.1, 0), d.builtins)
  | _ => none
def ED.val (d : ED) : He.FnW := some ("__init__", d.qual, defArgs d.st, .stmts (defBody d.st), defScope d.st, mainGlobals, [("__class__", 0)], builtinsNs)
def ED.cd (K : PySem.W.Frag) (d : ED) : Addr := match K.lookup (d.ad K) with
  | some ⟨_, _, .func fd, _⟩ => (match fd.code with | .ref a => a | _ => 0)
  | _ => 0
def ED.cc (K : PySem.W.Frag) (d : ED) : Addr := match K.lookup (d.ad K) with
  | some ⟨_, _, .func fd, _⟩ => (match fd.closure with | [(_, a)] => a | _ => 0)
  | _ => 0
def ED.ok (K : PySem.W.Frag) (file : Str) (d : ED) : Bool := (match K.lookup (d.ad K) with
  | some ⟨_, _, .func fd, _⟩ => fd.code == .ref (d.cd K) && (fd.defaults == .none && (fd.kwdefaults == .none && (match fd.closure with | [(_, a)] => a == d.cc K | _ => false)))
  | _ => false) && (PySem.W.codeIn K (.ref (d.cd K)) d.qual && ((match K.lookup (d.cd K) with
  | some ⟨_, _, .fields vs, _⟩ => (match (vs[2]? : Option Value) with | some (.str fl _) => file == fl | _ => false)
  | _ => false) && ((match K.lookup (d.cc K) with
  | some ⟨_, _, .cell (some (.ref C)), _⟩ => C == He.ga K d.c
  | _ => false) && (PySem.W.nsIn K PySem.cStatics "thirdparty.any" == some none && (PySem.W.findIn K (.ref (He.ga K d.c)) "__init__" == some (some (.ref (d.ad K))) && PySem.W.typeIn K (.ref (d.ad K)) == some (.type "function"))))))
theorem ED.initK {P : Program} {K : PySem.W.Frag} {d : ED} {file : Str} (e : fnE K (d.ad K) = d.val) (c : d.ok K file = true) (hf : P.main.file = file) (top : (P.main.scope.names.lookup ("super" : Str)).isSome = false) :
    InitK P K (He.ga K d.c) (d.ad K) "__init__" d.qual (defArgs d.st) (defBody d.st) (defScope d.st) (d.cc K) (d.cd K) ∧ PySem.W.findIn K (.ref (He.ga K d.c)) "__init__" = some (some (.ref (d.ad K))) ∧ PySem.W.typeIn K (.ref (d.ad K)) = some (.type "function") := by
  unfold ED.ok at c
  rw [Bool.and_eq_true, Bool.and_eq_true, Bool.and_eq_true, Bool.and_eq_true, Bool.and_eq_true, Bool.and_eq_true] at c
  obtain ⟨c1, c2, c3, c4, c5, c6, c7⟩ := c
  refine ⟨⟨?_, c2, ?_, ?_, beq_iff_eq.1 c5, top⟩, beq_iff_eq.1 c6, beq_iff_eq.1 c7⟩
  · unfold fnE at e
    split at c1
    · rename_i oc od fd osl q
      rw [q] at e
      obtain ⟨a1, a2, a3, a4, a5, a6, a7, b1, b2, b3, b4, b5, b6, b7, a8⟩ := fd
      simp only [Option.bind, ED.val, Option.some.injEq, Prod.mk.injEq] at e
      obtain ⟨h1, h2, h3, h4, h5, h6, h7, h8⟩ := e
      dsimp only at c1
      simp only [Bool.and_eq_true, beq_iff_eq] at c1
      obtain ⟨e1, e2, e3, e4⟩ := c1
      subst e1 e2 e3 h1 h2 h3 h4 h5 h6 h8
      cases a7 with
      | nil => cases h7
      | cons p t =>
        cases t with
        | cons _ _ => exact absurd (congrArg List.length h7) (by simp)
        | nil =>
          obtain ⟨n, a⟩ := p
          simp only [List.map_cons, List.map_nil, List.cons.injEq, Prod.mk.injEq] at h7
          have hn : n = "__class__" := h7.1.1
          have ha : a = d.cc K := beq_iff_eq.1 e4
          rw [hn, ha] at q
          exact ⟨_, _, _, _, _, _, _, q⟩
    · cases c1
  · split at c3
    · rename_i oc od vs osl q
      split at c3
      · rename_i fl tf hv
        exact ⟨_, _, _, _, fl, tf, q, hv, by rw [hf]; exact c3⟩
      · cases c3
    · cases c3
  · split at c4
    · rename_i oc od C osl q
      rw [beq_iff_eq] at c4
      subst c4
      exact ⟨_, _, _, q⟩
    · cases c4
/-! ### their promises -/
section
variable {P : Program} {w : World} {K : PySem.W.Frag} {mg : Str → Option Value} {base : Heap} {C fI cc cda : Addr} {c qual p1 f1 p2 f2 : Str} {params : Arguments} {scope : Scope} {q0 q1 q2 q3 q4 r0 r1 r2 r3 r4 r5 r6 r7 : Pos}
/-- what calls of the class must bind -/
def BindE (qual : Str) (params : Arguments) (body : List Stmt) (scope : Scope) (ps : List Str) (n : Nat) (ks : List Str) (g : List Value → List Value → List Value) : Prop :=
  ∀ (cc cda : Addr) (doc pm ct : Value) (an : Option Addr) (us ws : List Value), us.length = n → ws.length = ks.length → bindArgs (PySem.W.fnX "__init__" qual params body scope [("__class__", cc)] .none .none doc pm an (.ref cda) ct) ⟨us, ks.zip ws⟩ = pure (ps.zip (g us ws))
theorem kbn_of {ps ks : List Str} {n : Nat} {g : List Value → List Value → List Value} {gV : List V → List V → List V} {body : List Stmt} {doc pm ct : Value} {an : Option Addr} (h : BindE qual params body scope ps n ks g) (hrel : ∀ {vs : List V} {us : List Value} {zs : List V} {ws : List Value}, Vals vs us → Vals zs ws → Vals (gV vs zs) (g us ws)) :
    KBn K (PySem.W.fnX "__init__" qual params body scope [("__class__", cc)] .none .none doc pm an (.ref cda) ct) ps n ks g gV :=
  ⟨fun s us ws X l1 l2 => BindsTo.of_looks fun M => by rw [h cc cda doc pm ct an us ws l1 l2]; exact .of_pure rfl, hrel⟩
theorem upd_e1 {H : Hp} {a d : Addr} {e0 e1 : HO} {x : HO} (ne : d ≠ a) : upd (upd (upd H a e0) d x) a e1 = upd (upd H d x) a e1 := by
  funext b
  by_cases hb : b = a
  · rw [hb, upd_same, upd_same]
  · rw [upd_ne hb, upd_ne hb]
    by_cases hd : b = d
    · rw [hd, upd_same, upd_same]
    · rw [upd_ne hd, upd_ne hd, upd_ne hb]
theorem upd_e2 {H : Hp} {a d : Addr} {e1 : HO} {x y : HO} (ne : d ≠ a) : upd (upd (upd H d x) a e1) d y = upd (upd H d y) a e1 := by
  funext b
  by_cases hd : b = d
  · rw [hd, upd_same, upd_ne ne, upd_same]
  · rw [upd_ne hd]
    by_cases hb : b = a
    · rw [hb, upd_same, upd_same]
    · rw [upd_ne hb, upd_ne hb, upd_ne hd, upd_ne hd]
/-- one field -/
theorem exF1 {body : List Stmt} {n : Nat} {ks : List Str} {g : List Value → List Value → List Value} {gV : List V → List V → List V} (hm : mg c = some (.ref C)) (T : OexG K C) (G : InitK P K C fI "__init__" qual params body scope cc cda) (iC : PySem.W.findIn K (.ref C) "__init__" = some (some (.ref fI))) (tI : PySem.W.typeIn K (.ref fI) = some (.type "function"))
    (hbd : body = [.Expr (.Call (.Attribute (.Call (.Name "super" q0) [] [] q1) "__init__" q2) [] [] q3) q4, .Assign [.Attribute (.Name "self" r0) f1 r1] (.Name p1 r2) r3])
    (S : NdefX.NScope ["self", p1, "__class__"] ["self", p1] ["__class__"] scope) (hself : ∃ ar, (params.posonlyargs ++ params.args).head? = some ar ∧ ar.arg = "self")
    (pl : Env → Sem Bool) (he : ∀ env : Env, eval (.Call (.Attribute (.Call (.Name "super" q0) [] [] q1) "__init__" q2) [] [] q3) env = (do
      let ov ← attributeBase (.Call (.Name "super" q0) [] [] q1) "__init__" env (eval (.Call (.Name "super" q0) [] [] q1) env)
      standAt q2.atName
      let (f, first) ← holding [ov] (getMethod ov "__init__" (pl env))
      callWith q3 f first (backTo q3 (starEach [] env)) []))
    (hsup : scope.names.lookup ("super" : Str) = some .globalImplicit) (hmg : mg "super" = none) (hno : PySem.W.findIn K (.ref C) f1 = some none)
    (hd1 : (p1 == ("__debug__" : Str)) = false) (hd2 : (p1 == ("__classdict__" : Str)) = false)
    (hb : BindE qual params body scope ["self", p1] (n + 1) ks g) (hrel : ∀ {vs : List V} {us : List Value} {zs : List V} {ws : List Value}, Vals vs us → Vals zs ws → Vals (gV vs zs) (g us ws))
    (hgV : ∀ (a : Addr) (vs zs : List V), vs.length = n → zs.length = ks.length → ∃ v, vs ++ zs = [v] ∧ gV (.ref a :: vs) zs = [.ref a, v]) :
    ExF P w K mg base c n ks [(f1, 0)] 1 := by
  subst hbd
  obtain ⟨oc, od, osl, doc, pm, ct, an, lk⟩ := G.fn
  have vis : ∀ x ∈ ([("self" : Str), p1] : List Str), Vis scope x := fun x hx => .inl (S.par x hx)
  refine ⟨C, fI, _, _, _, g, gV, hm, T, iC, tI, FnG.of (initOk (CX := L2.CX P w) (t := tOstG K f1 (tVar 0) (tVar 1)) (k := 0) (base := base) (w := w) (mg := mg) T G (fun o h => by rw [lk] at h; cases h; rfl) S hself rfl pl he hsup hmg fun A outer s H E => ?_), kbn_of hb hrel, fun a vs zs H Q E l1 l2 ha hq => ?_⟩
  · exact pss_one (ps_ostG (pe_var (i := 0) rfl (vis _ (by simp))) (pe_var (i := 1) rfl (vis _ (by simp)) hd1 hd2))
  · obtain ⟨v, e1, e2⟩ := hgV a vs zs l1 l2
    rw [e2]
    refine ⟨rfl, ⟨a, [v], rfl, upd_same⟩, v, rfl, .ref a, rfl, a, C, rfl, T, hno, .inl ⟨upd_same, fun dx hdx ne => ?_⟩⟩
    refine hq dx _ (by rw [upd_ne ne] at hdx; exact hdx) ne ?_
    rw [upd_e1 ne, e1]
    rfl
/-- two fields -/
theorem exF2 {body : List Stmt} {n : Nat} {ks : List Str} {plan : List (Str × Nat)} {g : List Value → List Value → List Value} {gV : List V → List V → List V} (hm : mg c = some (.ref C)) (T : OexG K C) (G : InitK P K C fI "__init__" qual params body scope cc cda) (iC : PySem.W.findIn K (.ref C) "__init__" = some (some (.ref fI))) (tI : PySem.W.typeIn K (.ref fI) = some (.type "function"))
    (hbd : body = [.Expr (.Call (.Attribute (.Call (.Name "super" q0) [] [] q1) "__init__" q2) [] [] q3) q4, .Assign [.Attribute (.Name "self" r0) f1 r1] (.Name p1 r2) r3, .Assign [.Attribute (.Name "self" r4) f2 r5] (.Name p2 r6) r7])
    (S : NdefX.NScope ["self", p1, p2, "__class__"] ["self", p1, p2] ["__class__"] scope) (hself : ∃ ar, (params.posonlyargs ++ params.args).head? = some ar ∧ ar.arg = "self")
    (pl : Env → Sem Bool) (he : ∀ env : Env, eval (.Call (.Attribute (.Call (.Name "super" q0) [] [] q1) "__init__" q2) [] [] q3) env = (do
      let ov ← attributeBase (.Call (.Name "super" q0) [] [] q1) "__init__" env (eval (.Call (.Name "super" q0) [] [] q1) env)
      standAt q2.atName
      let (f, first) ← holding [ov] (getMethod ov "__init__" (pl env))
      callWith q3 f first (backTo q3 (starEach [] env)) []))
    (hsup : scope.names.lookup ("super" : Str) = some .globalImplicit) (hmg : mg "super" = none) (hno : PySem.W.findIn K (.ref C) f1 = some none) (hno2 : PySem.W.findIn K (.ref C) f2 = some none)
    (hd1 : (p1 == ("__debug__" : Str)) = false) (hd2 : (p1 == ("__classdict__" : Str)) = false) (hd3 : (p2 == ("__debug__" : Str)) = false) (hd4 : (p2 == ("__classdict__" : Str)) = false)
    (hb : BindE qual params body scope ["self", p1, p2] (n + 1) ks g) (hrel : ∀ {vs : List V} {us : List Value} {zs : List V} {ws : List Value}, Vals vs us → Vals zs ws → Vals (gV vs zs) (g us ws))
    (hgV : ∀ (a : Addr) (vs zs : List V), vs.length = n → zs.length = ks.length → ∃ v v2, planV plan (vs ++ zs) = [(f2, v2), (f1, v)] ∧ gV (.ref a :: vs) zs = [.ref a, v, v2]) :
    ExF P w K mg base c n ks plan 1 := by
  subst hbd
  obtain ⟨oc, od, osl, doc, pm, ct, an, lk⟩ := G.fn
  have vis : ∀ x ∈ ([("self" : Str), p1, p2] : List Str), Vis scope x := fun x hx => .inl (S.par x hx)
  refine ⟨C, fI, _, _, _, g, gV, hm, T, iC, tI, FnG.of (initOk (CX := L2.CX P w) (t := tSeq (tOstG K f1 (tVar 0) (tVar 1)) (tOstG K f2 (tVar 0) (tVar 2))) (k := 0) (base := base) (w := w) (mg := mg) T G (fun o h => by rw [lk] at h; cases h; rfl) S hself rfl pl he hsup hmg fun A outer s H E => ?_), kbn_of hb hrel, fun a vs zs H Q E l1 l2 ha hq => ?_⟩
  · exact pss_cons (ps_ostG (pe_var (i := 0) rfl (vis _ (by simp))) (pe_var (i := 1) rfl (vis _ (by simp)) hd1 hd2)) (pss_one (ps_ostG (pe_var (i := 0) rfl (vis _ (by simp))) (pe_var (i := 2) rfl (vis _ (by simp)) hd3 hd4)))
  · obtain ⟨v, v2, e1, e2⟩ := hgV a vs zs l1 l2
    rw [e2]
    refine ⟨rfl, ⟨a, [v, v2], rfl, upd_same⟩, v, rfl, .ref a, rfl, a, C, rfl, T, hno, .inl ⟨upd_same, fun dx hdx ne => ?_⟩⟩
    refine ⟨v2, rfl, .ref a, rfl, a, C, rfl, T, hno2, .inr ⟨dx, [(f1, v)], upd_same, (upd_ne ne).trans upd_same, by simp, ?_⟩⟩
    refine hq dx _ (by rw [upd_ne ne] at hdx; exact hdx) ne ?_
    rw [upd_e1 ne, upd_e2 ne, e1]
end
end DV
namespace DV
open PySem PySem.Spec PyProof.Rows L2
/-! ### the hook, with own exceptions' __init__ -/
/-- what the top's names reach, the statics, sys.modules -/
def frE (g : Addr → Option Obj) (n : Nat) : PySem.W.Frag := He.frT g (sysModules :: PySem.cStatics :: He.asD g n)
def obsYE (n : Nat) (fa : List He.Fa) (fn : List He.DefD) (ts : List He.Tab) (gs : List GD) (ex : PySem.W.Frag → Bool) (g : Addr → Option Obj) : AlY :=
  ((He.obsT fa fn ts (frE g n), ex (frE g n) && gs.all fun d => d.ok (frE g n)), gs.map fun d => fnAt (frE g n) (d.ad (frE g n)))
abbrev AlE : Type := AlY × List He.FnW
def obsE (n : Nat) (fa : List He.Fa) (fn : List He.DefD) (ts : List He.Tab) (gs : List GD) (es : List ED) (ex : PySem.W.Frag → Bool) (g : Addr → Option Obj) : AlE :=
  (obsYE n fa fn ts gs ex g, es.map fun d => fnE (frE g n) (d.ad (frE g n)))
structure SaysE (fa : List He.Fa) (fn : List He.DefD) (ts : List He.Tab) (gs : List GD) (es : List ED) (ex : PySem.W.Frag → Bool) (w : World) (h : Heap) (K : PySem.W.Frag) : Prop where
  y : SaysY fa fn ts gs ex w h K
  e : es.map (fun d => fnE K (d.ad K)) = es.map ED.val
def hookE (n : Nat) (fa : List He.Fa) (fn : List He.DefD) (ts : List He.Tab) (gs : List GD) (es : List ED) (ex : PySem.W.Frag → Bool) : PySem.W.Hook where
  α := AlE
  obs := fun s => obsE n fa fn ts gs es ex s.heap.get?
  val := fun w => ((He.valX fn ts w, gs.map GD.val), es.map ED.val)
  says := fun w h => ∃ K : PySem.W.Frag, K.In h ∧ SaysE fa fn ts gs es ex w h K
  of := fun _ _ e => ⟨_, He.frT_in, ⟨⟨⟨congrArg (fun z : AlE => z.1.1.1) e, congrArg (fun z : AlE => z.1.1.2) e, fun p hp => (by cases hp), fun p hp => (by cases hp), fun p hp => (by cases hp)⟩, congrArg (fun z : AlE => z.1.2) e⟩, congrArg Prod.snd e⟩⟩
  keeps := fun _ _ _ ⟨K, hK, c⟩ k => ⟨K, PySem.W.Frag.In.keeps hK k, ⟨⟨⟨c.y.x.t, c.y.x.more, c.y.x.hd, c.y.x.out, fun p hp => k _ _ (c.y.x.empty p hp)⟩, c.y.g⟩, c.e⟩⟩
theorem obsE_eq {n : Nat} {fa : List He.Fa} {fn : List He.DefD} {ts : List He.Tab} {gs : List GD} {es : List ED} {ex : PySem.W.Frag → Bool} {g : Addr → Option Obj} {s : Shared} (h : ∀ a, g a = s.heap.get? a) : obsE n fa fn ts gs es ex g = (hookE n fa fn ts gs es ex).obs s := by
  rw [show g = s.heap.get? from funext h]
  rfl
section
variable {fa : List He.Fa} {fn : List He.DefD} {ts : List He.Tab} {gs : List GD} {es : List ED} {ex : PySem.W.Frag → Bool} {w : World} {h : Heap} {K : PySem.W.Frag}
theorem SaysE.efn (c : SaysE fa fn ts gs es ex w h K) {d : ED} (hd : d ∈ es) : fnE K (d.ad K) = d.val := List.map_inj_left.1 c.e d hd
end
end DV
namespace DV
open PySem PySem.Spec PyProof.Rows L2
/-! ### list.count(b), list.index(b) of a list of truths -/
section
variable {X : Cx} {W : WX}
def rCntF (K : PySem.W.Frag) : V → List V → Hp → VK → Prop := fun x xs H Q => ∃ (a : Addr) (ys : List V) (y : V), x = V.ref a ∧ xs = [y] ∧ SqL K H a ys ∧ flatV y = true ∧ ys.all flatV = true ∧ Q (.int ((ys.countP fun z => eqV z y : Nat) : Int)) H
theorem countP_vals {y : V} : ∀ {ys : List V} {us : List Value}, Vals ys us → ys.all flatV = true → us.countP (eqU y) = ys.countP fun z => eqV z y
  | _, _, .nil, _ => rfl
  | z :: ys, u :: us, .cons r t, f => by
    rw [List.all_cons, Bool.and_eq_true] at f
    rw [List.countP_cons, List.countP_cons, countP_vals t f.2, eqU_of r f.1]
theorem mt_countF : MtR X "list.count" (rCntF X.K) := by
  intro pins s σ H x xs v us Q I rx rxs h
  obtain ⟨a, ys, y, rfl, rfl, hs, fy, fys, q⟩ := h
  cases rx
  obtain ⟨uy, rfl, ry⟩ := rxs.one
  obtain ⟨its, rv, ⟨⟨cls, dd, data, sl⟩, n, ho, hc, hdn, hd⟩, hlen⟩ := I.list hs
  simp only at hc hd
  subst hc hd
  refine call_meets PySem.F.slot_list_count ⟨_, ho, rfl⟩ PySem.F.entry_list_count (PySem.F.args_list_count_2 _ _)
    (SeqAt.list_countAt a its.toArray n dd sl uy (eqU y)) ⟨ho, fun u' hu' => mem_eqAt ry fy rv fys u' (by simpa using hu'), ?_⟩
  refine ⟨.int _, H, I.tok _, ⟨s.toks, ?_⟩, q⟩
  show Value.int ((its.toArray.toList.countP (eqU y) : Nat) : Int) s.toks = _
  rw [show its.toArray.toList = its from rfl, countP_vals rv fys]
def countB (d : D) (ds : List D) : Mm Ex := match d, ds with
  | .lst es, [.bl b] => opt (asBls es) >>= fun l => pure (fl (.int ((l.count b : Nat) : Int)))
  | _, _ => bad
def indexB (d : D) (ds : List D) : Mm Ex := match d, ds with
  | .lst es, [.bl b] => opt (asBls es) >>= fun l => opt (l.findIdx? fun z => z == b) >>= fun j => pure (fl (.int ((j : Nat) : Int)))
  | _, _ => bad
theorem flat_bls : ∀ l : List Bool, (l.map V.bl).all flatV = true
  | [] => rfl
  | b :: l => by rw [List.map_cons, List.all_cons, flat_bls l]; rfl
theorem count_bls (b : Bool) : ∀ l : List Bool, (l.map V.bl).countP (fun z => eqV z (.bl b)) = l.count b
  | [] => rfl
  | a :: l => by
    rw [List.map_cons, List.countP_cons, List.count_cons, count_bls b l]
    rfl
theorem mr_countB : Mr X W "list.count" countB := ⟨_, mt_countF, fun c0 c u us d ds Q a hσ ru rs h => by
  unfold countB at h
  split at h
  · rename_i es b
    obtain ⟨v, rfl, rv⟩ := rs.one
    obtain ⟨l, e, h2⟩ := post_opt h
    have e' := asBls_of e
    subst e'
    obtain ⟨p, vs, rfl, h3, h4⟩ := ru.lst a.rl
    have hv := h4.bls
    subst hv
    refine ⟨p, _, .bl b, rfl, by rw [rv.bl], .inl (.inl h3), rfl, flat_bls l, ?_⟩
    rw [count_bls]
    exact post_fl a hσ h2 rfl
  · exact h.elim⟩
theorem mr_indexB : Mr X W "list.index" indexB := ⟨_, mt_index, fun c0 c u us d ds Q a hσ ru rs h => by
  unfold indexB at h
  split at h
  · rename_i es b
    obtain ⟨v, rfl, rv⟩ := rs.one
    obtain ⟨l, e, h2⟩ := post_opt h
    have e' := asBls_of e
    subst e'
    obtain ⟨j, hj, h2⟩ := post_opt h2
    obtain ⟨p, vs, rfl, h3, h4⟩ := ru.lst a.rl
    have hv := h4.bls
    subst hv
    obtain ⟨hlt, hj1, hj2⟩ := List.findIdx?_eq_some_iff_getElem.1 hj
    refine ⟨p, _, .bl b, j, .bl l[j], rfl, by rw [rv.bl], .inl (.inl h3), rfl, flat_bls l, ?_, hj1, fun m z' hm hz => ?_, post_fl a hσ h2 rfl⟩
    · rw [List.getElem?_map, List.getElem?_eq_getElem hlt]
      rfl
    · have hml : m < l.length := by omega
      rw [List.getElem?_map, List.getElem?_eq_getElem hml] at hz
      cases hz
      have := hj2 m hm
      show (l[m] == b) = false
      simpa using this
  · exact h.elim⟩
end
end DV
namespace DV
open PySem PySem.Spec PyProof.Rows L2
/-! ### {k: v}, k an int or a text -/
section
variable {prog : Program} {w : World} {K : Type} [DecidableEq K] {knd : KeyKind prog w K} {A : Around} {E : Value → Shared → Prop} {s : Shared}
theorem disp_pairsK {env : Env} {keys : List (Option Expr)} {values : List Expr} {pos : Pos} {pairs : List (Sem Value × Sem Value)} {Q : Value → Shared → Prop}
    (hshape : (evalEachOpt keys env).zip ((evalEach values env).map fun v => do let x ← v; standAt pos; pure x) = pairs.map fun p => (some p.1, p.2)) (h0 : pairs ≠ []) (hlen : pairs.length ≤ 15)
    (h : wpAny (model prog w) A (evalPairs pairs) (fun vs s₁ => ∃ kvs, Carries knd vs kvs ∧ s₁.heap.DictOf knd s.heap.objs.size [] ∧
      ∀ h', h'.DictOf knd s.heap.objs.size (merged [] kvs) → Heap.SameBut s.heap.objs.size s₁.heap h' → Q (.ref s.heap.objs.size) { s₁ with heap := h', toks := s₁.toks + vs.length }) E
      { s with heap := s.heap.push { cls := .type "dict", data := .dict #[] } }) : wpAny (model prog w) A (eval (.Dict keys values pos) env) Q E s := by
  rw [arm_eval_Dict, hshape, dictDisplay_pairs pairs h0 (by omega)]
  refine wpAny_bind (wpAny_standAt (wpAny_bind (wpAny_subDict (knd := knd) (Q := fun d t => wpAny (model prog w) A (pure (Value.ref d)) Q E t) hlen (wpAny_mono h (fun vs s1 h1 => ?_) fun _ _ e => e))))
  obtain ⟨ps, c, m, q⟩ := h1
  exact ⟨ps, c, m, fun h' a b => wpAny_pure (q h' a b)⟩
end
section
variable {X : Cx} {W : WX}
def tDispK1 (tk tv : TE) : TE := fun σ H Q => ∀ p, H p = none → tk σ (upd H p (.dK [])) fun x H1 => tv σ H1 fun y H2 => H2 p = some (.dK []) ∧ ∃ k : Key, x = kV k ∧ Q (.ref p) (upd H2 p (.dK [(k, y)]))
theorem keyIs_of {k : Key} {u : Value} (r : L2.RelV (kV k) u) : keyIs k u = true := by
  cases k with
  | inl i => obtain ⟨t, rfl⟩ := r; exact keyIs_int i t
  | inr x => obtain ⟨t, rfl⟩ := r; exact keyIs_str x t
theorem pe_dispK1 {k v : Expr} {pos : Pos} {tk tv : TE} (hk : PE X k tk) (hv : PE X v tv) : PE X (.Dict [some k] [v] pos) (tDispK1 tk tv) := by
  refine ⟨fun pins s σ H Q I q => ?_⟩
  have hn := I.hok.fresh (Nat.le_refl s.heap.objs.size)
  have I1 := I.laid (a := s.heap.objs.size) (o := .dK []) (h' := s.heap.push { cls := .type "dict", data := .dict #[] }) (t' := s.toks) (fun _ _ q => Heap.get?_push_of_some _ q) (Nat.le_refl _) (dk_empty s.heap I.big)
  refine disp_pairsK (knd := mixKind X.prog X.w) (zip_pairTrees [some k] [v] X.env pos rfl rfl) (by simp [pairTrees]) (by simp [pairTrees]) ?_
  refine thn ((pps_cons hk hv pps_nil).run pins _ σ _ (fun ps H2 => match ps with
    | [(x, y)] => H2 s.heap.objs.size = some (.dK []) ∧ ∃ k : Key, x = kV k ∧ Q (.ref s.heap.objs.size) (upd H2 s.heap.objs.size (.dK [(k, y)]))
    | _ => False) I1 (q _ hn)) fun ws s2 ⟨ps, H2, I2, rel, e⟩ => ?_
  match ps, e with
  | [(x, y)], e =>
    obtain ⟨e1, k, rfl, q2⟩ := e
    cases rel with
    | @cons _ wp _ wr r1 r2 =>
      cases r2
      obtain ⟨kw, vw⟩ := wp
      obtain ⟨z, hd, xs0, r0, dd⟩ := dk_of I2.hok e1
      cases r0
      refine ⟨[(k, vw)], ⟨keyIs_of r1.1, rfl, True.intro⟩, dd, fun h' dd' hs => ⟨.ref s.heap.objs.size, _, ?_, rfl, q2⟩⟩
      obtain ⟨o, es, ep, ho, h2, h3, h4, h5, h6⟩ := dd'
      exact d_write I2 (by rw [e1]; exact True.intro) hs ⟨o, ho⟩ ⟨by rw [List.length_singleton, sizeLine_eq]; decide, hd, [(k, vw)], .cons ⟨rfl, r1.2⟩ .nil, o, es, ep, ho, h2, h3, h4, h5, h6⟩
def dispK1 (fk : Mm D) (fv : Mm D) : Mm Ex := fk >>= fun k => fv >>= fun d => if isK false k then pure ⟨.tmp, .dct false [(k, d)]⟩ else bad
theorem de_dispK1 {k v : Expr} {pos : Pos} {fk fv : Mm D} (hk : DF X W k fk) (hv : DF X W v fv) : DE X W (.Dict [some k] [v] pos) (dispK1 fk fv) := by
  refine PE.imp (pe_dispK1 hk hv) fun σ H Q ⟨τ, O, F, μ, r, h⟩ p hn => ?_
  have a0 := aft_newT (Aft.refl r) (p := p) (o := .dK []) hn
  have np : ¬ Mine ⟨τ, O, F, μ, σ, upd H p (.dK [])⟩ p := not_mine_new r hn
  have hF : F p = none := by
    cases e : F p with
    | none => rfl
    | some o =>
      have z : H p = some o := r.sub _ _ e
      rw [hn] at z
      cases z
  refine post_seq (c := ⟨τ, O, F, μ, σ, H⟩) (c1 := ⟨τ, O, F, μ, σ, upd H p (.dK [])⟩) a0 rfl h fun kd c2 x a2 hσ2 hx hp2 => ?_
  have hx' : Dat X.K X.mg c2.F c2.μ x kd := hx
  refine post_seq (c := ⟨τ, O, F, μ, σ, H⟩) (a0.trans a2) hσ2 hp2 fun d c3 y a3 hσ3 hy hp3 => ?_
  have hy' : Dat X.K X.mg c3.F c3.μ y d := hy
  have a23 := a2.trans a3
  cases hc : isK false kd with
  | false => simp only [hc] at hp3; exact hp3.elim
  | true =>
    simp only [hc, if_true] at hp3
    obtain ⟨f1, f2⟩ := a23.fr p _ upd_same np
    have f2' : c3.F p = none := f2.trans hF
    refine ⟨f1, ?_⟩
    have nm : ¬ Mine c3 p := fun m => by
      rcases a23.mi p m with z | z
      · exact np z
      · have z' : upd H p (HO.dK []) p = none := z
        rw [upd_same] at z'
        cases z'
    have key : ∃ ks : Key, keyR ks kd ∧ x = kV ks := by
      cases kd with
      | int i => cases hx'; exact ⟨.inl i, rfl, rfl⟩
      | str z => cases hx'; exact ⟨.inr z, rfl, rfl⟩
      | _ => cases hc
    obtain ⟨ks, e1, rfl⟩ := key
    have a4 : Aft X.K X.mg ⟨τ, O, F, μ, σ, H⟩ { c3 with H := upd c3.H p (.dK [(ks, y)]) } := aft_junk (a0.trans a23) f2' nm hn
    exact ⟨ks, rfl, post_ok (x := (⟨.tmp, .dct false [(kd, d)]⟩ : Ex)) a4 hσ3 hp3 ⟨p, rfl, f2', .inl ⟨rfl, _, upd_same, .cons e1 hy' .nil⟩, nm, hn⟩⟩
end
/-! ### repr of what may hold dicts -/
mutual
inductive Dq (K : PySem.W.Frag) (H : Hp) : V → PyData → Prop
  | non : Dq K H .non .none
  | bl (b : Bool) : Dq K H (.bl b) (.bool b)
  | int (i : Int) : Dq K H (.int i) (.int i)
  | str (x : Str) : Dq K H (.str x) (.str x)
  | lst {a : Addr} {xs : List V} {ds : List PyData} : SqL K H a xs → DqAll K H xs ds → Dq K H (.ref a) (.list ds)
  | tup {a : Addr} {xs : List V} {ds : List PyData} : SqT K H a xs → DqAll K H xs ds → Dq K H (.ref a) (.tuple ds)
  | dct {a : Addr} {kvs : List (Key × V)} {ps : List (PyData × PyData)} : Rd H a (.dK kvs) → DqKV K H kvs ps → Dq K H (.ref a) (.dict ps)
inductive DqAll (K : PySem.W.Frag) (H : Hp) : List V → List PyData → Prop
  | nil : DqAll K H [] []
  | cons {v : V} {vs : List V} {d : PyData} {ds : List PyData} : Dq K H v d → DqAll K H vs ds → DqAll K H (v :: vs) (d :: ds)
inductive DqKV (K : PySem.W.Frag) (H : Hp) : List (Key × V) → List (PyData × PyData) → Prop
  | nil : DqKV K H [] []
  | cons {k : Key} {v : V} {kvs : List (Key × V)} {kd d : PyData} {ps : List (PyData × PyData)} : Dq K H (kV k) kd → Dq K H v d → DqKV K H kvs ps → DqKV K H ((k, v) :: kvs) ((kd, d) :: ps)
end
/-- sys.modules is a dict -/
def SmB (K : PySem.W.Frag) : Bool := match K.lookup sysModules with
  | some o => o.cls == .type "dict"
  | none => false
section
variable {X : Cx} {pins : List (Addr × Obj)} {σ : L2.St} {H : Hp} {s : Shared}
theorem sm_ne (hS : SmB X.K = true) (I : Inv X pins σ H s) {a : Addr} {o : Obj} {T : String} (ho : s.heap.get? a = some o) (hc : o.cls = .type T) (hT : T ≠ "dict") : a ≠ sysModules := fun e => by
  unfold SmB at hS
  split at hS
  · rename_i o' l
    have h2 := I.kIn _ _ l
    rw [← e, ho] at h2
    cases h2
    rw [hc, beq_iff_eq] at hS
    exact hT (Value.type.inj hS)
  · cases hS
mutual
theorem Dq.reads (hS : SmB X.K = true) (I : Inv X pins σ H s) : ∀ (d : PyData) (v : V) (u : Value), Dq X.K H v d → L2.RelV v u → ∃ as, Reads s.heap u d as ∧ sysModules ∉ as
  | .none, _, _, h, r => by cases h; cases r; exact ⟨_, Reads.none, by simp⟩
  | .bool b, _, _, h, r => by cases h; cases r; exact ⟨_, Reads.bool b, by simp⟩
  | .int i, _, _, h, r => by cases h; obtain ⟨t, rfl⟩ := r; exact ⟨_, Reads.int i t, by simp⟩
  | .str x, _, _, h, r => by cases h; obtain ⟨t, rfl⟩ := r; exact ⟨_, Reads.str x t, by simp⟩
  | .list ds, _, _, h, r => by
    cases h with
    | lst hs ha =>
      cases r
      obtain ⟨its, rv, ⟨o, n, ho, hc, _, hd⟩, _⟩ := I.list hs
      obtain ⟨as, hr, hn⟩ := Dq.readsAll hS I ds _ its ha rv
      refine ⟨_, Reads.list ho hc hd hr, fun m => ?_⟩
      rcases List.mem_cons.1 m with e | m
      · exact sm_ne hS I ho hc (by decide) e.symm
      · exact hn m
  | .tuple ds, _, _, h, r => by
    cases h with
    | tup hs ha =>
      cases r
      obtain ⟨its, rv, ⟨o, ho, hc, n, hd⟩, _⟩ := I.tuple hs
      obtain ⟨as, hr, hn⟩ := Dq.readsAll hS I ds _ its ha rv
      exact ⟨_, Reads.tuple ho hc hd hr, hn⟩
  | .dict ps, _, _, h, r => by
    cases h with
    | @dct a kvs _ hs ha =>
      cases r
      obtain ⟨_, hne, vs, hkv, o, es, ep, ho, hx, hd, hk, hp, _⟩ := dk_rd I.hok hs
      obtain ⟨as, bs, h1, h2, h3, h4⟩ := Dq.readsKV hS I ps kvs ha hkv hp
      refine ⟨_, Reads.dict ho hx.1 hd h1 h2, fun m => ?_⟩
      rcases List.mem_append.1 m with m | m
      · rcases List.mem_cons.1 m with e | m
        · rw [← e] at hne
          simp at hne
        · exact h3 m
      · exact h4 m
theorem Dq.readsAll (hS : SmB X.K = true) (I : Inv X pins σ H s) : ∀ (ds : List PyData) (vs : List V) (us : List Value), DqAll X.K H vs ds → Vals vs us → ∃ as, ReadsAll s.heap us ds as ∧ sysModules ∉ as
  | [], _, _, h, r => by cases h; cases r; exact ⟨_, ReadsAll.nil, by simp⟩
  | d :: ds, _, _, h, r => by
    cases h with
    | cons h1 h2 =>
      cases r with
      | cons r1 r2 =>
        obtain ⟨as, q1, n1⟩ := Dq.reads hS I d _ _ h1 r1
        obtain ⟨bs, q2, n2⟩ := Dq.readsAll hS I ds _ _ h2 r2
        exact ⟨_, ReadsAll.cons q1 q2, fun m => (List.mem_append.1 m).elim n1 n2⟩
theorem Dq.readsKV (hS : SmB X.K = true) (I : Inv X pins σ H s) : ∀ (ps : List (PyData × PyData)) (kvs : List (Key × V)) {vs : List (Key × Value)} {es : List DictEntry}, DqKV X.K H kvs ps → KV kvs vs → Pairs (mixKind X.prog X.w) es vs →
    ∃ as bs, ReadsAll s.heap (es.map (·.key)) (ps.map (·.1)) as ∧ ReadsAll s.heap (es.map (·.val)) (ps.map (·.2)) bs ∧ sysModules ∉ as ∧ sysModules ∉ bs
  | [], _, _, _, h, r, p => by cases h; cases r; cases p; exact ⟨_, _, ReadsAll.nil, ReadsAll.nil, by simp, by simp⟩
  | (kd, d) :: ps, _, _, _, h, r, p => by
    cases h with
    | cons h1 h2 h3 =>
      cases r with
      | cons r1 r2 =>
        cases p with
        | cons p1 p2 p3 =>
          obtain ⟨e1, e2⟩ := r1
          rename_i k v kvs' kv vs' e es'
          obtain ⟨k', v'⟩ := kv
          dsimp only at e1 e2 p1 p2
          subst e1
          have rk : L2.RelV (kV k) e.key := by
            rcases keyIs_shape p1 with ⟨i, t, rfl, ek⟩ | ⟨x, t, rfl, ek⟩
            · exact ⟨t, ek⟩
            · exact ⟨t, ek⟩
          obtain ⟨as, q1, n1⟩ := Dq.reads hS I kd _ _ h1 rk
          obtain ⟨bs, q2, n2⟩ := Dq.reads hS I d v e.val h2 (by rw [p2]; exact e2)
          obtain ⟨as', bs', q3, q4, n3, n4⟩ := Dq.readsKV hS I ps _ h3 r2 p3
          exact ⟨_, _, ReadsAll.cons q1 q3, ReadsAll.cons q2 q4, fun m => (List.mem_append.1 m).elim n1 n3, fun m => (List.mem_append.1 m).elim n2 n4⟩
end
end
mutual
def toPyD : D → Option PyData
  | .non => some .none
  | .bl b => some (.bool b)
  | .int i => some (.int i)
  | .str s => some (.str s)
  | .lst ds => match toPyDs ds with
    | some xs => some (.list xs)
    | none => none
  | .tup ds => match toPyDs ds with
    | some xs => some (.tuple xs)
    | none => none
  | .dct false kvs => match toPyKV kvs with
    | some xs => some (.dict xs)
    | none => none
  | _ => none
def toPyDs : List D → Option (List PyData)
  | [] => some []
  | d :: ds => match toPyD d, toPyDs ds with
    | some x, some xs => some (x :: xs)
    | _, _ => none
def toPyKV : List (D × D) → Option (List (PyData × PyData))
  | [] => some []
  | (k, d) :: ds => match toPyD k, toPyD d, toPyKV ds with
    | some y, some x, some xs => some ((y, x) :: xs)
    | _, _, _ => none
end
section
variable {K : PySem.W.Frag} {mg : Str → Option Value} {H : Hp} {μ : List Addr}
mutual
theorem dq_of : ∀ (d : D) {v : V} {pd : PyData}, Dat K mg H μ v d → toPyD d = some pd → Dq K H v pd
  | .non, v, pd, h, e => by cases h; cases e; exact .non
  | .bl b, v, pd, h, e => by cases h; cases e; exact .bl b
  | .int i, v, pd, h, e => by cases h; cases e; exact .int i
  | .str s, v, pd, h, e => by cases h; cases e; exact .str s
  | .lst ds, v, pd, h, e => by
    cases h with
    | lst h1 h2 =>
      rw [toPyD] at e
      split at e
      · rename_i xs q
        cases e
        exact .lst (.inl (.inl h1)) (dqs_of ds h2 q)
      · cases e
  | .tup ds, v, pd, h, e => by
    cases h with
    | tup h1 h2 =>
      rw [toPyD] at e
      split at e
      · rename_i xs q
        cases e
        exact .tup (SqT.of h1) (dqs_of ds h2 q)
      · cases e
  | .dct false kvs, v, pd, h, e => by
    cases h with
    | dctK h1 h2 =>
      rw [toPyD] at e
      split at e
      · rename_i xs q
        cases e
        exact .dct h1 (dqkv_of kvs h2 q)
      · cases e
  | .dct true _, v, pd, h, e => by cases e
  | .obj _ _, v, pd, h, e => by cases e
  | .ref _, v, pd, h, e => by cases e
  | .fn _, v, pd, h, e => by cases e
  | .scr _, v, pd, h, e => by cases e
theorem dqs_of : ∀ (ds : List D) {vs : List V} {ps : List PyData}, DatL K mg H μ vs ds → toPyDs ds = some ps → DqAll K H vs ps
  | [], vs, ps, h, e => by cases h; cases e; exact .nil
  | d :: ds, vs, ps, h, e => by
    cases h with
    | cons h1 h2 =>
      rw [toPyDs] at e
      split at e
      · rename_i x xs q1 q2
        cases e
        exact .cons (dq_of d h1 q1) (dqs_of ds h2 q2)
      · cases e
theorem dqkv_of : ∀ (kvs : List (D × D)) {vs : List (Key × V)} {ps : List (PyData × PyData)}, DatK K mg H μ vs kvs → toPyKV kvs = some ps → DqKV K H vs ps
  | [], vs, ps, h, e => by cases h; cases e; exact .nil
  | (kd, d) :: ds, vs, ps, h, e => by
    cases h with
    | @cons k _ v vs' _ _ hk h1 h2 =>
      rw [toPyKV] at e
      split at e
      · rename_i y x xs q0 q1 q2
        cases e
        refine .cons ?_ (dq_of d h1 q1) (dqkv_of ds h2 q2)
        cases k with
        | inl i =>
          have hk : kd = .int i := hk
          subst hk
          cases q0
          exact .int i
        | inr z =>
          have hk : kd = .str z := hk
          subst hk
          cases q0
          exact .str z
      · cases e
end
end
def rShownX (d : D) : Option Str := match toPyD d with
  | some p => if decide (p.depth ≤ 64) && p.showable && small p.shown.length then some p.shown else none
  | none => none
def reprX (ds : List D) : Mm Ex := match ds with
  | [d] => opt (rShownX d) >>= fun z => pure (fl (.str z))
  | _ => bad
def rReprX (K : PySem.W.Frag) : List V → Hp → VK → Prop := fun xs H Q => ∃ x p, xs = [x] ∧ Dq K H x p ∧ p.depth ≤ 64 ∧ p.showable = true ∧ p.shown.length ≤ sizeLine ∧ Q (.str p.shown) H
section
variable {X : Cx} {W : WX}
theorem call_reprX {k : Nat} (hS : Std X W k) (hM : SmB X.K = true) : CallR X (.builtin "repr") (rReprX X.K) := by
  intro pins s σ H xs us Q I r h
  obtain ⟨x, p, rfl, hd, hdep, hw, hz, q⟩ := h
  obtain ⟨u, rfl, ru⟩ := vals1 r
  obtain ⟨as, hr, hn⟩ := Dq.reads hM I p x u hd ru
  have hu := hS.un
  cases hd with
  | non =>
    cases (show u = Value.none from ru)
    exact PySem.P.repr_of_none ⟨.str _, H, I.tok _, ⟨_, rfl⟩, q⟩
  | bl b =>
    cases (show u = Value.bool b from ru)
    exact PySem.P.repr_of_bool ⟨.str _, H, I.tok _, ⟨_, rfl⟩, q⟩
  | int i =>
    obtain ⟨t, rfl⟩ := ru
    exact PySem.P.repr_of_int (of_decide_eq_true hw) ⟨.str _, H, I.tok _, ⟨_, rfl⟩, q⟩
  | str z =>
    obtain ⟨t, rfl⟩ := ru
    exact PySem.P.repr_of_str ⟨.str _, H, I.tok _, ⟨_, rfl⟩, q⟩ hz
  | lst h1 h2 =>
    cases (show u = Value.ref _ from ru)
    exact repr_of_reads' hr hw (fun _ => hn) hS.grd (by omega) (fun _ _ e => e) (fun h' u tk hk => ⟨.str _, H, I.kept hk, ⟨_, rfl⟩, q⟩) hz
  | tup h1 h2 =>
    cases (show u = Value.ref _ from ru)
    exact repr_of_reads' hr hw (fun _ => hn) hS.grd (by omega) (fun _ _ e => e) (fun h' u tk hk => ⟨.str _, H, I.kept hk, ⟨_, rfl⟩, q⟩) hz
  | dct h1 h2 =>
    cases (show u = Value.ref _ from ru)
    exact repr_of_reads' hr hw (fun _ => hn) hS.grd (by omega) (fun _ _ e => e) (fun h' u tk hk => ⟨.str _, H, I.kept hk, ⟨_, rfl⟩, q⟩) hz
theorem cr_reprX {k : Nat} (hS : Std X W k) (hM : SmB X.K = true) : Cr X W (.builtin "repr") reprX := ⟨_, call_reprX hS hM, fun c0 c us ds Q a hσ rs h => by
  unfold reprX at h
  split at h
  · obtain ⟨u, rfl, ru⟩ := rs.one
    obtain ⟨z, e, h'⟩ := post_opt h
    unfold rShownX at e
    split at e
    · rename_i p hp
      split at e
      · rename_i hc
        rw [Bool.and_eq_true, Bool.and_eq_true, decide_eq_true_eq] at hc
        cases e
        exact ⟨u, p, rfl, dq_of _ (ru.dat a.rl) hp, hc.1.1, hc.1.2, small_le hc.2, post_fl a hσ h' rfl⟩
      · cases e
    · cases e
  · exact h.elim⟩
end
end DV
namespace DV
open PySem PySem.Spec PyProof.Rows L2
def swp {α : Type} : List α → List α
  | [a, b] => [b, a]
  | l => l
theorem swp_vals {zs : List V} {ws : List Value} (h : Vals zs ws) : Vals (swp zs) (swp ws) := by
  cases h with
  | nil => exact .nil
  | cons r t =>
    cases t with
    | nil => exact .cons r .nil
    | cons r2 t2 =>
      cases t2 with
      | nil => exact .cons r2 (.cons r .nil)
      | cons r3 t3 => exact .cons r (.cons r2 (.cons r3 t3))
theorem exl {l : List Bool} (h : l.all id = true) {b : Bool} (i : Nat) (e : l[i]? = some b) : b = true := List.all_eq_true.1 h _ (List.mem_of_getElem? e)
end DV
namespace DV
open PySem PySem.Spec PyProof.Rows L2
/-! ### raise C(e, ..) -/
section
variable {X : Cx} {C f : Addr} {fd : FuncData} {ps ks : List Str} {sp : Sp} {k n : Nat} {g : List Value → List Value → List Value} {gV : List V → List V → List V}
/-- the reading: the exception is let go, its dict stands -/
def tRsE (C : Addr) (n : Nat) (sp : Sp) (gV : List V → List V → List V) (t : TA) : L2.St → Hp → XK → Prop := fun σ H Q => t σ H fun vs H1 => vs.length = n ∧ vs.length ≤ 1000 ∧ ∀ a, H1 a = none → sp (gV (.ref a :: vs) []) (upd H1 a (exo a C none))
  (fun v H2 => v = .non ∧ ∃ (d : Addr) (fs : List (Str × V)), H2 a = some (exo a C (some d)) ∧ H2 d = some (exd d fs) ∧ H1 d = none ∧ Q (.ref C) (some d) (upd (del H2 a) d (.xd fs))) (fun _ _ _ => False)
theorem pmk_mkE {x : Str} {p pos : Pos} {e : Expr} {es : List Expr} {t : TA} (T : OexG X.K C) (iC : PySem.W.findIn X.K (.ref C) "__init__" = some (some (.ref f))) (tI : PySem.W.typeIn X.K (.ref f) = some (.type "function"))
    (G : FnG X.prog X.w X.K X.mg X.base k f fd ps sp) (hr : Room (k + 1) X.A) (hgd : X.A.guards = some []) (hg : Gl X x) (hm : X.mg x = some (.ref C)) (hb : KBn X.K fd ps (n + 1) [] g gV) (ha : PA X (e :: es) t)
    (hdb : (x == ("__debug__" : Str)) = false) (he : starEach (e :: es) X.env = (false, eval e X.env) :: starEach es X.env) (hpl : (backTo pos (starEach es X.env)).any (·.1) = false) :
    L2.PMk X (.Call (.Name x p) (e :: es) [] pos) (tRsE C n sp gV t) := by
  intro pins s σ H Q I h
  obtain ⟨B, newId, initId, bmB, nm, q, N, bs, bm, sn, sub, ab, col, dd, k0, k1, k2, k3, k5, FB, SF, KF, hC, hbm, hal, hsB⟩ := T.ex
  refine wpAny_Call_Name_kw (ld_glob I hg hm ?_ hdb)
  refine PySem.W.callWith_K (h₀ := X.base) I.ok.mod.kin T.kC (thn (ha.run pos pins s σ H _ I h) fun us s1 ⟨vs, H1, I1, r1, l1, hz, q1⟩ => ⟨I1.kIn, ?_⟩) he hpl
  show wpAny _ _ (call (.ref C) us) _ _ _
  obtain ⟨hp, gg, dr, tk, os⟩ := s1
  have hsz : hp.objs.size ≤ hp.objs.size + 1 := Nat.le_succ _
  have hn : H1 (hp.objs.size + 1) = none := I1.hok.fresh hsz
  have hq := q1 (hp.objs.size + 1) hn
  have kk : ∀ b o, hp.get? b = some o → ((hp.push (PySem.W.kdv_tup us)).push (PySem.HandSPX.excO C hp.objs.size)).get? b = some o := fun b o e => Heap.get?_push_of_some _ (Heap.get?_push_of_some _ e)
  have hget : ((hp.push (PySem.W.kdv_tup us)).push (PySem.HandSPX.excO C hp.objs.size)).get? (hp.objs.size + 1) = some (PySem.HandSPX.excO C hp.objs.size) := by heap_get
  have I2 : Inv X pins σ (upd H1 (hp.objs.size + 1) (exo (hp.objs.size + 1) C none)) ⟨(hp.push (PySem.W.kdv_tup us)).push (PySem.HandSPX.excO C hp.objs.size), gg, dr, tk, os⟩ :=
    I1.laid (t' := tk) (a := hp.objs.size + 1) (o := exo (hp.objs.size + 1) C none) (h' := (hp.push (PySem.W.kdv_tup us)).push (PySem.HandSPX.excO C hp.objs.size)) kk hsz (exo_ok hget)
  have r0 : Vals (V.ref (hp.objs.size + 1) :: vs) (Value.ref (hp.objs.size + 1) :: us) := .cons rfl r1
  have rn : Vals [] [] := .nil
  have r2 := hb.rel r0 rn
  have e1 : (Value.ref (hp.objs.size + 1) :: us).length = n + 1 := by rw [List.length_cons, ← r1.length, l1]
  have hus : us.length ≤ sizeLine := by
    rw [← Paired.length r1, sizeLine_eq]
    omega
  refine wpAny_call (call_ownK (kws := []) FB (fun Y => PySem.W.excTail_contains Y _ hbm) (I1.kIn _ _ hC) (PySem.W.looks_findIn I1.kIn iC) (fun self => PySem.W.bind_fn I1.kIn self tI) hus
    (codeAny_mono (G.run _ X.stack _ _ ⟨Value.ref (hp.objs.size + 1) :: us, []⟩ (g (Value.ref (hp.objs.size + 1) :: us) []) _ _ (fun _ _ _ => False) (hr.make C us []) hgd (I2.env0.make C us []) (hb.to _ (Value.ref (hp.objs.size + 1) :: us) [] I2.kIn e1 rfl) r2 hq) fun r s' hq' => ?_))
  rcases r with er | fl
  · obtain ⟨_, _, _, _, _, _, _, _, _, _, _, _, _, no⟩ := hq'
  · cases fl with
    | ret u =>
      obtain ⟨v, H2, os2, bare2, un2, hok2, rv, ev, d, fs, ea, ed, hd1, q2⟩ := hq'
      subst ev
      obtain ⟨h2, g2, d2, t2, os'⟩ := s'
      exact ⟨rv, mk_end (raises_own T.exC T.tyC) I1 hsz kk un2 hok2 os2 bare2 ea ed hd1 q2⟩
    | next => exact (show False from hq').elim
    | brk => exact (show False from hq').elim
    | cont => exact (show False from hq').elim
/-- C(), no __init__ of its own -/
theorem pmk_mk0 {bmB : List Value} {B newId initId : String} {x : Str} {p pos : Pos} (F : ExcBaseFacts B newId initId bmB) (q : PySem.W.excIn X.K C bmB newId = true) (hm : X.mg x = some (.ref C))
    (kC : PySem.W.keepIn X.K (.ref C) = true) (r : Raises X (.ref C)) (hg : Gl X x) (hdb : (x == ("__debug__" : Str)) = false) :
    L2.PMk X (.Call (.Name x p) [] [] pos) (fun _ H Q => Q (.ref C) none H) := by
  intro pins s σ H Q I h
  refine wpAny_Call_Name_kw (ld_glob I hg hm (PySem.W.callWith_K0 I.kIn kC ?_) hdb)
  show wpAny _ _ (call (.ref C) []) _ _ _
  obtain ⟨bm, N, nm, qn, bs, hdct, sn, sub, ab, col, dd, k0, k1, k2, k3, k5, mN, hC, hN, hni, T⟩ := exc_obj I.kIn q
  refine wpAny_call_exc_subT F T hC hN hni (fun h' e hx => ?_) (by rw [sizeLine_eq]; show 0 ≤ _; omega)
  exact L2.mk_of I hx r h (I.hok.gone hx.new)
end
/-! ### by data -/
def exM (c : Str) (fs : List (Str × D)) : Mm Fl := fun τ O => .ex c fs τ O
def raiseP (c : Str) (n : Nat) (plan : List (Str × Nat)) (fa : Mm (List Ex)) : Mm Fl := fa >>= fun xs => if frzs xs && decide (xs.length = n) && decide (n ≤ 100) then exM c (planD plan (xs.map (·.d))) else bad
def raise0 (c : Str) : Mm Fl := fun τ O => .ex c [] τ O
/-- an own exception class without __init__, to be raised -/
structure Ex0R (K : PySem.W.Frag) (mg : Str → Option Value) (c : Str) : Prop where
  ex : Ex0 K mg c
  r : ∀ C, mg c = some (.ref C) → PySem.W.subIn K (.ref C) (.type "BaseException") = some true ∧ PySem.W.typeIn K (.ref C) = some (.type "type")
section
variable {X : Cx} {W : WX} {pin : List Nat}
theorem raise_end {c : Str} {C a d : Addr} {c0 c1 : Cf} {DD : Ends} {fvs : List (Str × V)} {fs : List (Str × D)} {H2 : Hp} (h : Aft X.K X.mg c0 c1) (hσ : c1.σ = c0.σ) (hm : X.mg c = some (.ref C)) (hf : DatF X.K X.mg c1.F c1.μ fvs fs) (ha : c1.H a = none) (hd : c1.H d = none) (ne : d ≠ a)
    (e : H2 = upd (upd c1.H d (exd d fvs)) a (exo a C (some d))) (hp : PostS X.K X.mg W pin c0 (.ex c fs c1.τ c1.O) DD) : W (.ref C) (some d) c0.σ (upd (del H2 a) d (.xd fvs)) := by
  have a1 := aft_newF h (o := .xd fvs) hd
  have e2 : upd (del H2 a) d (HO.xd fvs) = upd c1.H d (.xd fvs) := by
    funext b
    by_cases hb : b = d
    · rw [hb, upd_same, upd_same]
    · rw [upd_ne hb, upd_ne hb]
      by_cases hb2 : b = a
      · rw [hb2, del_same, ha]
      · rw [del_ne hb2, e, upd_ne hb2, upd_ne hb]
  rw [e2]
  obtain ⟨τ1, O1, F1, μ1, σ1, H1⟩ := c1
  have hσ' : σ1 = c0.σ := hσ
  subst hσ'
  exact hp C (some d) c0.σ _ _ _ a1 (Pin.refl _ _) hm (.inr ⟨d, fvs, rfl, upd_same, hf.mono (subF_new h hd) (Pfx.refl _)⟩)
theorem ds_raiseP {c : Str} {np pos pos' : Pos} {e : Expr} {es : List Expr} {k j n : Nat} {plan : List (Str × Nat)} {fa : Mm (List Ex)} (hS : Std X W k) (hcl : X.calm = true) (hc : ExF X.prog X.w X.K X.mg X.base c n [] plan j) (ha : DAs X W (e :: es) fa) (hj : j + 1 ≤ k := by decide)
    (hg : Gl X c := by rfl) (hdb : (c == ("__debug__" : Str)) = false := by decide)
    (he : starEach (e :: es) X.env = (false, eval e X.env) :: starEach es X.env := by rfl) (hpl : (backTo pos (starEach es X.env)).any (·.1) = false := by rfl) :
    DS X W pin (.Raise (some (.Call (.Name c np) (e :: es) [] pos)) none pos') (raiseP c n plan fa) := by
  obtain ⟨C, f, fd, ps, sp, g, gV, hm, T, iC, tI, G, hb, hsum⟩ := hc.ex
  refine PS.imp (L2.ps_raise hcl hS.tk (pmk_mkE T iC tI G (hS.room.mono hj) hS.grd hg hm hb ha hdb he hpl)) fun D σ H q => ?_
  refine posts_fst q fun c1 xs c2 vs r hσ hH a2 hσ2 hv hp => ?_
  by_cases hl : (frzs xs && decide (xs.length = n) && decide (n ≤ 100)) = true
  · rw [if_pos hl] at hp
    simp only [Bool.and_eq_true, decide_eq_true_eq] at hl
    obtain ⟨⟨h1, h2⟩, h3⟩ := hl
    have hvl : vs.length = n := hv.length.symm.trans h2
    refine ⟨hvl, by omega, fun a ha => hsum a vs [] c2.H _ _ hvl rfl ha fun d H2 hd ne e => ⟨rfl, d, planV plan (vs ++ []), ?_, ?_, hd, ?_⟩⟩
    · rw [e, upd_same]
    · rw [e, upd_ne ne, upd_same]
    · rw [List.append_nil] at e ⊢
      rw [← hσ]
      exact raise_end a2 hσ2 hm (datF_plan (frzs_dat hv h1) plan) ha hd ne e hp
  · rw [if_neg hl] at hp
    exact hp.elim
theorem ds_raise0 {c : Str} {np pos pos' : Pos} {k : Nat} (hS : Std X W k) (hcl : X.calm = true) (hc : Ex0R X.K X.mg c) (hg : Gl X c := by rfl) (hdb : (c == ("__debug__" : Str)) = false := by decide) :
    DS X W pin (.Raise (some (.Call (.Name c np) [] [] pos)) none pos') (raise0 c) := by
  obtain ⟨C, B, newId, initId, bmB, hm, F, q, kC⟩ := hc.ex.ex
  obtain ⟨h1, h2⟩ := hc.r C hm
  refine PS.imp (L2.ps_raise hcl hS.tk (pmk_mk0 F q hm kC (raises_own h1 h2) hg hdb)) fun D σ H ⟨τ, O, F', μ, r, h⟩ => ?_
  exact h C none σ H F' μ (Aft.refl r) (Pin.refl _ _) hm (.inl ⟨rfl, rfl⟩)
end
end DV
namespace DV
open PySem PySem.Spec PyProof.Rows L2
/-! ### what repr shows of what may hold dicts, and how long it is -/
structure ShX (d : D) (dp L : Nat) : Prop where
  ex : ∃ p, toPyD d = some p ∧ p.depth ≤ dp ∧ p.showable = true ∧ p.shown.length ≤ L
structure ShXL (ds : List D) (dp L : Nat) : Prop where
  ex : ∃ ps, toPyDs ds = some ps ∧ PyData.depthAll ps ≤ dp ∧ PyData.showableAll ps = true ∧ piled (PyData.shownAll ps) ≤ L
theorem ShX.mono {d : D} {dp dp' L L' : Nat} (h : ShX d dp L) (h1 : dp ≤ dp') (h2 : L ≤ L') : ShX d dp' L' := by
  obtain ⟨p, a, c, e, g⟩ := h.ex
  exact ⟨p, a, by omega, e, by omega⟩
theorem ShXL.mono {d : List D} {dp dp' L L' : Nat} (h : ShXL d dp L) (h1 : dp ≤ dp') (h2 : L ≤ L') : ShXL d dp' L' := by
  obtain ⟨p, a, c, e, g⟩ := h.ex
  exact ⟨p, a, by omega, e, by omega⟩
theorem shxl_nil : ShXL [] 0 0 := ⟨[], rfl, Nat.le_refl _, rfl, Nat.le_refl _⟩
theorem shxl_cons {d : D} {ds : List D} {dp L1 L2 : Nat} (h : ShX d dp L1) (t : ShXL ds dp L2) : ShXL (d :: ds) dp (L1 + 2 + L2) := by
  obtain ⟨p, a1, a3, a4, a6⟩ := h.ex
  obtain ⟨ps, b1, b3, b4, b6⟩ := t.ex
  refine ⟨p :: ps, ?_, ?_, ?_, ?_⟩
  · show (match toPyD d, toPyDs ds with | some x, some xs => some (x :: xs) | _, _ => none) = _
    rw [a1, b1]
  · show max (PyData.depth p) (PyData.depthAll ps) ≤ dp
    omega
  · show (PyData.showable p && PyData.showableAll ps) = true
    rw [a4, b4]; rfl
  · show piled (PyData.shown p :: PyData.shownAll ps) ≤ _
    rw [piled_cons]
    omega
theorem shx_lst {ds : List D} {dp L : Nat} (h : ShXL ds dp L) : ShX (.lst ds) (dp + 1) (L + 3) := by
  obtain ⟨ps, b1, b3, b4, b6⟩ := h.ex
  refine ⟨.list ps, ?_, ?_, b4, ?_⟩
  · show (match toPyDs ds with | some xs => some (PyData.list xs) | none => none) = _
    rw [b1]
  · show PyData.depthAll ps + 1 ≤ _
    omega
  · show (listText (PyData.shownAll ps)).length ≤ _
    have := lst_len (PyData.shownAll ps)
    omega
theorem ShX.shown {d : D} {dp L : Nat} (h : ShX d dp L) (h1 : dp ≤ 64) (h2 : L ≤ 16777216) : ∃ z, rShownX d = some z := by
  obtain ⟨p, a1, a3, a4, a6⟩ := h.ex
  unfold rShownX
  rw [a1]
  have s : decide (p.depth ≤ 64) = true := decide_eq_true (by omega)
  have l : small p.shown.length = true := decide_eq_true (by omega)
  exact ⟨p.shown, by simp only [s, a4, l]; rfl⟩
/-- of one ground value, by computing -/
def shxB (dp L : Nat) (d : D) : Bool := match toPyD d with
  | some p => decide (p.depth ≤ dp) && p.showable && decide (p.shown.length ≤ L)
  | none => false
theorem shx_of {dp L : Nat} {d : D} (h : shxB dp L d = true) : ShX d dp L := by
  unfold shxB at h
  split at h
  · rename_i p e
    rw [Bool.and_eq_true, Bool.and_eq_true, decide_eq_true_eq, decide_eq_true_eq] at h
    exact ⟨p, e, h.1.1, h.1.2, h.2⟩
  · cases h
end DV
namespace LW
open PySem PySem.Spec PyProof.Rows L2 DV
def topS (i : Nat) : Stmt := PySem.Challenge.pw_drawnbelow_k01_errors_and_limits.main.body.getD i (.Pass ⟨0, 0, 0, 0⟩)
def FUEL : Nat := 1000000000
def clsBody : Stmt → List Stmt
  | .ClassDef _ _ _ b _ _ _ _ _ _ _ => b
  | _ => []
def clsS (i j : Nat) : Stmt := (clsBody (topS i)).getD j (.Pass ⟨0, 0, 0, 0⟩)
def ix_ArithmeticError : List (Str × Bool) := [("WrongValue", false), ("InvalidNumber", false), ("InvalidWell", false), ("InvalidBits", false), ("InvalidCourse", false), ("InvalidText", false), ("InvalidName", false), ("InvalidWish", false), ("NotAProgram", false), ("InvalidRows", false), ("InvalidExchanges", false), ("InvalidWishes", false), ("WrongName", false), ("UnknownName", false), ("InUse", false), ("NoAnswer", true), ("TooWide", true), ("Ended", true), ("Broken", true), ("NothingToUndo", true)]
def ix_Broken : List (Str × Bool) := [("WrongValue", false), ("InvalidNumber", false), ("InvalidWell", false), ("InvalidBits", false), ("InvalidCourse", false), ("InvalidText", false), ("InvalidName", false), ("InvalidWish", false), ("NotAProgram", false), ("InvalidRows", false), ("InvalidExchanges", false), ("InvalidWishes", false), ("WrongName", false), ("UnknownName", false), ("InUse", false), ("NoAnswer", false), ("TooWide", false), ("Ended", false), ("Broken", true), ("NothingToUndo", false)]
def ix_Ended : List (Str × Bool) := [("WrongValue", false), ("InvalidNumber", false), ("InvalidWell", false), ("InvalidBits", false), ("InvalidCourse", false), ("InvalidText", false), ("InvalidName", false), ("InvalidWish", false), ("NotAProgram", false), ("InvalidRows", false), ("InvalidExchanges", false), ("InvalidWishes", false), ("WrongName", false), ("UnknownName", false), ("InUse", false), ("NoAnswer", false), ("TooWide", false), ("Ended", true), ("Broken", false), ("NothingToUndo", false)]
def ix_InUse : List (Str × Bool) := [("WrongValue", false), ("InvalidNumber", false), ("InvalidWell", false), ("InvalidBits", false), ("InvalidCourse", false), ("InvalidText", false), ("InvalidName", false), ("InvalidWish", false), ("NotAProgram", false), ("InvalidRows", false), ("InvalidExchanges", false), ("InvalidWishes", false), ("WrongName", false), ("UnknownName", false), ("InUse", true), ("NoAnswer", false), ("TooWide", false), ("Ended", false), ("Broken", false), ("NothingToUndo", false)]
def ix_InvalidBits : List (Str × Bool) := [("WrongValue", false), ("InvalidNumber", false), ("InvalidWell", false), ("InvalidBits", true), ("InvalidCourse", false), ("InvalidText", false), ("InvalidName", false), ("InvalidWish", false), ("NotAProgram", false), ("InvalidRows", false), ("InvalidExchanges", false), ("InvalidWishes", false), ("WrongName", false), ("UnknownName", false), ("InUse", false), ("NoAnswer", false), ("TooWide", false), ("Ended", false), ("Broken", false), ("NothingToUndo", false)]
def ix_InvalidCourse : List (Str × Bool) := [("WrongValue", false), ("InvalidNumber", false), ("InvalidWell", false), ("InvalidBits", false), ("InvalidCourse", true), ("InvalidText", false), ("InvalidName", false), ("InvalidWish", false), ("NotAProgram", false), ("InvalidRows", false), ("InvalidExchanges", false), ("InvalidWishes", false), ("WrongName", false), ("UnknownName", false), ("InUse", false), ("NoAnswer", false), ("TooWide", false), ("Ended", false), ("Broken", false), ("NothingToUndo", false)]
def ix_InvalidExchanges : List (Str × Bool) := [("WrongValue", false), ("InvalidNumber", false), ("InvalidWell", false), ("InvalidBits", false), ("InvalidCourse", false), ("InvalidText", false), ("InvalidName", false), ("InvalidWish", false), ("NotAProgram", false), ("InvalidRows", false), ("InvalidExchanges", true), ("InvalidWishes", false), ("WrongName", false), ("UnknownName", false), ("InUse", false), ("NoAnswer", false), ("TooWide", false), ("Ended", false), ("Broken", false), ("NothingToUndo", false)]
def ix_InvalidName : List (Str × Bool) := [("WrongValue", false), ("InvalidNumber", false), ("InvalidWell", false), ("InvalidBits", false), ("InvalidCourse", false), ("InvalidText", false), ("InvalidName", true), ("InvalidWish", false), ("NotAProgram", false), ("InvalidRows", false), ("InvalidExchanges", false), ("InvalidWishes", false), ("WrongName", false), ("UnknownName", false), ("InUse", false), ("NoAnswer", false), ("TooWide", false), ("Ended", false), ("Broken", false), ("NothingToUndo", false)]
def ix_InvalidNumber : List (Str × Bool) := [("WrongValue", false), ("InvalidNumber", true), ("InvalidWell", false), ("InvalidBits", false), ("InvalidCourse", false), ("InvalidText", false), ("InvalidName", false), ("InvalidWish", false), ("NotAProgram", false), ("InvalidRows", false), ("InvalidExchanges", false), ("InvalidWishes", false), ("WrongName", false), ("UnknownName", false), ("InUse", false), ("NoAnswer", false), ("TooWide", false), ("Ended", false), ("Broken", false), ("NothingToUndo", false)]
def ix_InvalidRows : List (Str × Bool) := [("WrongValue", false), ("InvalidNumber", false), ("InvalidWell", false), ("InvalidBits", false), ("InvalidCourse", false), ("InvalidText", false), ("InvalidName", false), ("InvalidWish", false), ("NotAProgram", false), ("InvalidRows", true), ("InvalidExchanges", false), ("InvalidWishes", false), ("WrongName", false), ("UnknownName", false), ("InUse", false), ("NoAnswer", false), ("TooWide", false), ("Ended", false), ("Broken", false), ("NothingToUndo", false)]
def ix_InvalidText : List (Str × Bool) := [("WrongValue", false), ("InvalidNumber", false), ("InvalidWell", false), ("InvalidBits", false), ("InvalidCourse", false), ("InvalidText", true), ("InvalidName", false), ("InvalidWish", false), ("NotAProgram", false), ("InvalidRows", false), ("InvalidExchanges", false), ("InvalidWishes", false), ("WrongName", false), ("UnknownName", false), ("InUse", false), ("NoAnswer", false), ("TooWide", false), ("Ended", false), ("Broken", false), ("NothingToUndo", false)]
def ix_InvalidWell : List (Str × Bool) := [("WrongValue", false), ("InvalidNumber", false), ("InvalidWell", true), ("InvalidBits", false), ("InvalidCourse", false), ("InvalidText", false), ("InvalidName", false), ("InvalidWish", false), ("NotAProgram", false), ("InvalidRows", false), ("InvalidExchanges", false), ("InvalidWishes", false), ("WrongName", false), ("UnknownName", false), ("InUse", false), ("NoAnswer", false), ("TooWide", false), ("Ended", false), ("Broken", false), ("NothingToUndo", false)]
def ix_InvalidWish : List (Str × Bool) := [("WrongValue", false), ("InvalidNumber", false), ("InvalidWell", false), ("InvalidBits", false), ("InvalidCourse", false), ("InvalidText", false), ("InvalidName", false), ("InvalidWish", true), ("NotAProgram", false), ("InvalidRows", false), ("InvalidExchanges", false), ("InvalidWishes", false), ("WrongName", false), ("UnknownName", false), ("InUse", false), ("NoAnswer", false), ("TooWide", false), ("Ended", false), ("Broken", false), ("NothingToUndo", false)]
def ix_InvalidWishes : List (Str × Bool) := [("WrongValue", false), ("InvalidNumber", false), ("InvalidWell", false), ("InvalidBits", false), ("InvalidCourse", false), ("InvalidText", false), ("InvalidName", false), ("InvalidWish", false), ("NotAProgram", false), ("InvalidRows", false), ("InvalidExchanges", false), ("InvalidWishes", true), ("WrongName", false), ("UnknownName", false), ("InUse", false), ("NoAnswer", false), ("TooWide", false), ("Ended", false), ("Broken", false), ("NothingToUndo", false)]
def ix_LookupError : List (Str × Bool) := [("WrongValue", false), ("InvalidNumber", false), ("InvalidWell", false), ("InvalidBits", false), ("InvalidCourse", false), ("InvalidText", false), ("InvalidName", false), ("InvalidWish", false), ("NotAProgram", false), ("InvalidRows", false), ("InvalidExchanges", false), ("InvalidWishes", false), ("WrongName", true), ("UnknownName", true), ("InUse", true), ("NoAnswer", false), ("TooWide", false), ("Ended", false), ("Broken", false), ("NothingToUndo", false)]
def ix_NoAnswer : List (Str × Bool) := [("WrongValue", false), ("InvalidNumber", false), ("InvalidWell", false), ("InvalidBits", false), ("InvalidCourse", false), ("InvalidText", false), ("InvalidName", false), ("InvalidWish", false), ("NotAProgram", false), ("InvalidRows", false), ("InvalidExchanges", false), ("InvalidWishes", false), ("WrongName", false), ("UnknownName", false), ("InUse", false), ("NoAnswer", true), ("TooWide", true), ("Ended", true), ("Broken", true), ("NothingToUndo", true)]
def ix_NotAProgram : List (Str × Bool) := [("WrongValue", false), ("InvalidNumber", false), ("InvalidWell", false), ("InvalidBits", false), ("InvalidCourse", false), ("InvalidText", false), ("InvalidName", false), ("InvalidWish", false), ("NotAProgram", true), ("InvalidRows", false), ("InvalidExchanges", false), ("InvalidWishes", false), ("WrongName", false), ("UnknownName", false), ("InUse", false), ("NoAnswer", false), ("TooWide", false), ("Ended", false), ("Broken", false), ("NothingToUndo", false)]
def ix_NothingToUndo : List (Str × Bool) := [("WrongValue", false), ("InvalidNumber", false), ("InvalidWell", false), ("InvalidBits", false), ("InvalidCourse", false), ("InvalidText", false), ("InvalidName", false), ("InvalidWish", false), ("NotAProgram", false), ("InvalidRows", false), ("InvalidExchanges", false), ("InvalidWishes", false), ("WrongName", false), ("UnknownName", false), ("InUse", false), ("NoAnswer", false), ("TooWide", false), ("Ended", false), ("Broken", false), ("NothingToUndo", true)]
def ix_TooWide : List (Str × Bool) := [("WrongValue", false), ("InvalidNumber", false), ("InvalidWell", false), ("InvalidBits", false), ("InvalidCourse", false), ("InvalidText", false), ("InvalidName", false), ("InvalidWish", false), ("NotAProgram", false), ("InvalidRows", false), ("InvalidExchanges", false), ("InvalidWishes", false), ("WrongName", false), ("UnknownName", false), ("InUse", false), ("NoAnswer", false), ("TooWide", true), ("Ended", false), ("Broken", false), ("NothingToUndo", false)]
def ix_UnknownName : List (Str × Bool) := [("WrongValue", false), ("InvalidNumber", false), ("InvalidWell", false), ("InvalidBits", false), ("InvalidCourse", false), ("InvalidText", false), ("InvalidName", false), ("InvalidWish", false), ("NotAProgram", false), ("InvalidRows", false), ("InvalidExchanges", false), ("InvalidWishes", false), ("WrongName", false), ("UnknownName", true), ("InUse", false), ("NoAnswer", false), ("TooWide", false), ("Ended", false), ("Broken", false), ("NothingToUndo", false)]
def ix_ValueError : List (Str × Bool) := [("WrongValue", true), ("InvalidNumber", true), ("InvalidWell", true), ("InvalidBits", true), ("InvalidCourse", true), ("InvalidText", true), ("InvalidName", true), ("InvalidWish", true), ("NotAProgram", true), ("InvalidRows", true), ("InvalidExchanges", true), ("InvalidWishes", true), ("WrongName", false), ("UnknownName", false), ("InUse", false), ("NoAnswer", false), ("TooWide", false), ("Ended", false), ("Broken", false), ("NothingToUndo", false)]
def ix_WrongName : List (Str × Bool) := [("WrongValue", false), ("InvalidNumber", false), ("InvalidWell", false), ("InvalidBits", false), ("InvalidCourse", false), ("InvalidText", false), ("InvalidName", false), ("InvalidWish", false), ("NotAProgram", false), ("InvalidRows", false), ("InvalidExchanges", false), ("InvalidWishes", false), ("WrongName", true), ("UnknownName", true), ("InUse", true), ("NoAnswer", false), ("TooWide", false), ("Ended", false), ("Broken", false), ("NothingToUndo", false)]
def ix_WrongValue : List (Str × Bool) := [("WrongValue", true), ("InvalidNumber", true), ("InvalidWell", true), ("InvalidBits", true), ("InvalidCourse", true), ("InvalidText", true), ("InvalidName", true), ("InvalidWish", true), ("NotAProgram", true), ("InvalidRows", true), ("InvalidExchanges", true), ("InvalidWishes", true), ("WrongName", false), ("UnknownName", false), ("InUse", false), ("NoAnswer", false), ("TooWide", false), ("Ended", false), ("Broken", false), ("NothingToUndo", false)]
def xc_end : List Str := ["Ended"]
def xc_given : List Str := ["InvalidNumber", "InvalidWell", "InvalidBits", "InvalidCourse", "InvalidText", "InvalidName", "InvalidWish", "NotAProgram", "UnknownName", "TooWide"]
def xc_index : List Str := ["InvalidRows", "InvalidExchanges", "InvalidWishes", "InUse", "Broken"]
def xc_shown : List Str := ["Broken"]
structure Bt (K : PySem.W.Frag) (w : World) (mg : Str → Option Value) : Prop where
  sm : SmB K = true
  ix_ArithmeticError : IsX K mg "ArithmeticError" ix_ArithmeticError
  ix_Broken : IsX K mg "Broken" ix_Broken
  ix_Ended : IsX K mg "Ended" ix_Ended
  ix_InUse : IsX K mg "InUse" ix_InUse
  ix_InvalidBits : IsX K mg "InvalidBits" ix_InvalidBits
  ix_InvalidCourse : IsX K mg "InvalidCourse" ix_InvalidCourse
  ix_InvalidExchanges : IsX K mg "InvalidExchanges" ix_InvalidExchanges
  ix_InvalidName : IsX K mg "InvalidName" ix_InvalidName
  ix_InvalidNumber : IsX K mg "InvalidNumber" ix_InvalidNumber
  ix_InvalidRows : IsX K mg "InvalidRows" ix_InvalidRows
  ix_InvalidText : IsX K mg "InvalidText" ix_InvalidText
  ix_InvalidWell : IsX K mg "InvalidWell" ix_InvalidWell
  ix_InvalidWish : IsX K mg "InvalidWish" ix_InvalidWish
  ix_InvalidWishes : IsX K mg "InvalidWishes" ix_InvalidWishes
  ix_LookupError : IsX K mg "LookupError" ix_LookupError
  ix_NoAnswer : IsX K mg "NoAnswer" ix_NoAnswer
  ix_NotAProgram : IsX K mg "NotAProgram" ix_NotAProgram
  ix_NothingToUndo : IsX K mg "NothingToUndo" ix_NothingToUndo
  ix_TooWide : IsX K mg "TooWide" ix_TooWide
  ix_UnknownName : IsX K mg "UnknownName" ix_UnknownName
  ix_ValueError : IsX K mg "ValueError" ix_ValueError
  ix_WrongName : IsX K mg "WrongName" ix_WrongName
  ix_WrongValue : IsX K mg "WrongValue" ix_WrongValue
  xf_end : XfF K mg "end" xc_end
  xf_given : XfF K mg "given" xc_given
  xf_index : XfF K mg "index" xc_index
  xf_shown : XfF K mg "shown" xc_shown
  b_abs : mg "abs" = none
  b_all : mg "all" = none
  b_divmod : mg "divmod" = none
  b_int : mg "int" = none
  b_isinstance : mg "isinstance" = none
  b_len : mg "len" = none
  b_max : mg "max" = none
  b_min : mg "min" = none
  b_range : mg "range" = none
  b_repr : mg "repr" = none
  i_MOST_BITS : ∃ t, mg "MOST_BITS" = some (.int 30 t)
  i_MOST_EXCHANGES : ∃ t, mg "MOST_EXCHANGES" = some (.int 6 t)
  i_MOST_FULL : ∃ t, mg "MOST_FULL" = some (.int 2 t)
  i_MOST_ROWS : ∃ t, mg "MOST_ROWS" = some (.int 8 t)
  i_MOST_TIMES : ∃ t, mg "MOST_TIMES" = some (.int 4 t)
  i_MOST_TOLD : ∃ t, mg "MOST_TOLD" = some (.int 60 t)
  i_MOST_WIDE : ∃ t, mg "MOST_WIDE" = some (.int 8 t)
section
variable {P : Program} {w : World} {K : PySem.W.Frag} {mg : Str → Option Value} {base : Heap}
abbrev s__law_spring : Stmt := topS 29
theorem sc__law_spring : FnScope ["_law_cells", "_law_k", "_law_cell", "_law_mixed", "_law_each"] ["_law_cells", "_law_k"] (defScope s__law_spring) := ⟨rfl, rfl, rfl, by decide +kernel, rfl, by decide +kernel, by decide +kernel⟩
def g__law_spring (n : Nat) : Mm Fl := (seqM ((ifM ((bin (var 1) (blt ((var 0) >>= fun x => (pure []) >>= fun xs => pure (x :: xs)) lenB) ltD) >>= asB) (bin (var 0) (var 1) ixAny) (bin (bin (cst (.int 7)) (var 1) mulD) (cst (.int 2)) addD)) >>= fun x => stX 2 x >>= fun _ => pure .nx)
    (seqM ((bin (cst (.int 90001)) (bin (cst (.int 7919)) (var 1) mulD) addD) >>= fun x => stX 3 x >>= fun _ => pure .nx)
    (seqM ((((bin ((var 0) >>= fun x => (pure none) >>= fun l => ((cst (.int 8)) >>= asI) >>= fun h => rd x >>= fun d => slE d l h) ((((var 2) >>= frzX) >>= fun x => (pure []) >>= fun xs => pure (x :: xs)) >>= mkLst) addD) >>= frzX) >>= fun d => opt (seqD d)) >>= forM fun d => (fun d => st1 4 false d) d >>= fun _ => ((bin (blt ((bin (bin (bin (var 3) (cst (.int 48271)) mulD) (blt ((var 4) >>= fun x => (pure []) >>= fun xs => pure (x :: xs)) intB) addD) (bin (cst (.int 11)) (var 1) mulD) addD) >>= fun x => (pure []) >>= fun xs => pure (x :: xs)) intB) (cst (.int 2147483647)) modD) >>= fun x => stX 3 x >>= fun _ => pure .nx))
    (((((ifM (orC ((bin (var 2) (cst (.int 0)) ltD) >>= asB) ((bin (var 2) (bin (cst (.int 10)) (cst (.int 18)) powD) geD) >>= asB)) (blt ((var 2) >>= fun x => (pure []) >>= fun xs => pure (x :: xs)) absB) (cst (.int 0))) >>= frzX) >>= fun x => (((var 3) >>= frzX) >>= fun x => (((cst (.int 0)) >>= frzX) >>= fun x => (pure []) >>= fun xs => pure (x :: xs)) >>= fun xs => pure (x :: xs)) >>= fun xs => pure (x :: xs)) >>= mkLst) >>= fun x => pure (.rt x)))))
def m__law_spring : Mir := ⟨2, none, fun ds O => bodyO none 5 (g__law_spring FUEL) ds O⟩
theorem ok__law_spring (B : Bt K w mg) {dvs : List V} {kws : List (Str × V)} {f : Addr} {fd : FuncData} (Fu : FunD K "_law_spring" "_law_spring" (defArgs s__law_spring) (defBody s__law_spring) (defScope s__law_spring) dvs kws f fd) (hm : mg "_law_spring" = some (.ref f)) (hk : PySem.W.keepIn K (.ref f) = true) (hb : Binds K fd ["_law_cells", "_law_k"] []) : Callee P w K mg base "_law_spring" 1 m__law_spring :=
  callee_mir (k := 0) (g := g__law_spring) Fu hm hk hb sc__law_spring rfl (by decide) (fun cdv A outer s H E hS n =>
    (dss_cons (ds_set 2 sc__law_spring.nd (de_ifx (dt_ci bi_lt (de_var 1) (de_bltB cr_len (das_cons (de_var 0) das_nil) B.b_len bt_len)) (de_ixi (ix_any hS.std) (de_var 0) (de_var 1)) (de_bi bi_add (de_bi bi_mul de_int (de_var 1)) de_int)) (hp := by show (2 : Nat) ∉ pinOf none; decide))
    (dss_cons (ds_set 3 sc__law_spring.nd (de_bi bi_add de_int (de_bi bi_mul de_int (de_var 1))) (hp := by show (3 : Nat) ∉ pinOf none; decide))
    (dss_cons (ds_for hS.po hS.calm (di_seq (DF.of (de_bi bi_add (de_slice (de_var 0) do_none (do_some de_int)) (de_lst (dfs_cons (DF.of (de_var 2)) dfs_nil))))) (dg_name 4 sc__law_spring.nd (hp := by show (4 : Nat) ∉ pinOf none; decide)) (dss_one (ds_set 3 sc__law_spring.nd (de_bi bi_mod (de_bltT cr_int (das_cons (de_bi bi_add (de_bi bi_add (de_bi bi_mul (de_var 3) de_int) (de_bltT cr_int (das_cons (de_var 4) das_nil) B.b_int bt_int)) (de_bi bi_mul de_int (de_var 1))) das_nil) B.b_int bt_int) de_int) (hp := by show (3 : Nat) ∉ pinOf none; decide))))
    (dss_one (ds_ret (de_lst (dfs_cons (DF.of (de_ifx (PW.pt (dw_or (dt_ci bi_lt (de_var 2) de_int) (dw_or1 (dt_ci bi_ge (de_var 2) (de_bi bi_pow de_int de_int))))) (de_bltB cr_abs (das_cons (de_var 2) das_nil) B.b_abs bt_abs) de_int)) (dfs_cons (DF.of (de_var 3)) (dfs_cons (DF.of de_int) dfs_nil)))))))))) (fun ds O _ _ => ⟨FUEL, rfl⟩)
abbrev s__law_draw : Stmt := topS 30
theorem sc__law_draw : FnScope ["_law_spring_here", "_law_size", "_law_digit", "_law_far", "_law_mixed"] ["_law_spring_here", "_law_size"] (defScope s__law_draw) := ⟨rfl, rfl, rfl, by decide +kernel, rfl, by decide +kernel, by decide +kernel⟩
def g__law_draw (n : Nat) : Mm Fl := (seqM (((bin (bin (var 0) (cst (.int 2)) ixAny) (cst (.int 1)) addD) >>= frzX) >>= fun d => ifB 0 ((cst (.int 2)) >>= fun y => rd y >>= fun k => setA 0 k d >>= fun _ => pure .nx))
    (seqM (((bin (blt ((bin (bin (bin (bin (var 0) (cst (.int 1)) ixAny) (cst (.int 69621)) mulD) (bin (cst (.int 40503)) (bin (var 0) (cst (.int 2)) ixAny) mulD) addD) (cst (.int 1)) addD) >>= fun x => (pure []) >>= fun xs => pure (x :: xs)) intB) (cst (.int 2147483647)) modD) >>= frzX) >>= fun d => ifB 0 ((cst (.int 1)) >>= fun y => rd y >>= fun k => setA 0 k d >>= fun _ => pure .nx))
    (seqM (((bin (bin (var 0) (cst (.int 0)) ixAny) (cst (.int 0)) gtD) >>= asB) >>= fun b => if b then (seqM ((blt ((bin (var 0) (cst (.int 0)) ixAny) >>= fun x => ((var 1) >>= fun x => (pure []) >>= fun xs => pure (x :: xs)) >>= fun xs => pure (x :: xs)) divmodB) >>= fun x => frzX x >>= fun d => (unpT 2 [(fun d => (cst (.int 0)) >>= fun y => rd y >>= fun k => setM 0 k d), (fun d => st1 2 false d)]) d >>= fun _ => pure .nx)
    ((var 2) >>= fun x => pure (.rt x))) else (pure .nx))
    (seqM ((bin (bin (var 0) (cst (.int 1)) ixAny) (cst (.int 12345)) addD) >>= fun x => stX 3 x >>= fun _ => pure .nx)
    (seqM ((bin (blt ((bin (bin (var 3) (bin (var 0) (cst (.int 1)) ixAny) mulD) (bin (var 0) (cst (.int 2)) ixAny) addD) >>= fun x => (pure []) >>= fun xs => pure (x :: xs)) intB) (cst (.int 2147483629)) modD) >>= fun x => stX 4 x >>= fun _ => pure .nx)
    ((bin (blt ((bin (var 4) (cst (.int 256)) fdivD) >>= fun x => (pure []) >>= fun xs => pure (x :: xs)) intB) (var 1) modD) >>= fun x => pure (.rt x)))))))
def m__law_draw : Mir := ⟨2, (some 0), fun ds O => bodyO (some 0) 5 (g__law_draw FUEL) ds O⟩
theorem ok__law_draw (B : Bt K w mg) {dvs : List V} {kws : List (Str × V)} {f : Addr} {fd : FuncData} (Fu : FunD K "_law_draw" "_law_draw" (defArgs s__law_draw) (defBody s__law_draw) (defScope s__law_draw) dvs kws f fd) (hm : mg "_law_draw" = some (.ref f)) (hk : PySem.W.keepIn K (.ref f) = true) (hb : Binds K fd ["_law_spring_here", "_law_size"] []) : Callee P w K mg base "_law_draw" 1 m__law_draw :=
  callee_mir (k := 0) (g := g__law_draw) Fu hm hk hb sc__law_draw rfl (by decide) (fun cdv A outer s H E hS n =>
    (dss_cons (ds_setIx 0 hS.std (de_bi bi_add (de_ixi (ix_any hS.std) (de_var 0) de_int) de_int) de_int)
    (dss_cons (ds_setIx 0 hS.std (de_bi bi_mod (de_bltT cr_int (das_cons (de_bi bi_add (de_bi bi_add (de_bi bi_mul (de_ixi (ix_any hS.std) (de_var 0) de_int) de_int) (de_bi bi_mul de_int (de_ixi (ix_any hS.std) (de_var 0) de_int))) de_int) das_nil) B.b_int bt_int) de_int) de_int)
    (dss_cons (ds_if (dt_ci bi_gt (de_ixi (ix_any hS.std) (de_var 0) de_int) de_int) (dss_cons (ds_asg (de_bltB cr_divmod (das_cons (de_ixi (ix_any hS.std) (de_var 0) de_int) (das_cons (de_var 1) das_nil)) B.b_divmod bt_divmod) (dg_tup 2 hS.calm (dgs_cons (dg_set 0 (W' := W0) de_int pure_cst) (dgs_cons (dg_name 2 sc__law_draw.nd (hp := by show (2 : Nat) ∉ pinOf (some 0); decide)) dgs_nil))))
    (dss_one (ds_ret (de_var 2)))) dss_nil)
    (dss_cons (ds_set 3 sc__law_draw.nd (de_bi bi_add (de_ixi (ix_any hS.std) (de_var 0) de_int) de_int) (hp := by show (3 : Nat) ∉ pinOf (some 0); decide))
    (dss_cons (ds_set 4 sc__law_draw.nd (de_bi bi_mod (de_bltT cr_int (das_cons (de_bi bi_add (de_bi bi_mul (de_var 3) (de_ixi (ix_any hS.std) (de_var 0) de_int)) (de_ixi (ix_any hS.std) (de_var 0) de_int)) das_nil) B.b_int bt_int) de_int) (hp := by show (4 : Nat) ∉ pinOf (some 0); decide))
    (dss_one (ds_ret (de_bi bi_mod (de_bltT cr_int (das_cons (de_bi bi_fdiv (de_var 4) de_int) das_nil) B.b_int bt_int) (de_var 1)))))))))) (fun ds O _ _ => ⟨FUEL, rfl⟩)
abbrev s__law_of : Stmt := topS 31
theorem sc__law_of : FnScope ["_law_spring_here", "_law_menu"] ["_law_spring_here", "_law_menu"] (defScope s__law_of) := ⟨rfl, rfl, rfl, by decide +kernel, rfl, by decide +kernel, by decide +kernel⟩
def g__law_of (n : Nat) : Mm Fl := ((bin (var 1) (((var 0) >>= fun x => (((blt ((var 1) >>= fun x => (pure []) >>= fun xs => pure (x :: xs)) lenB) >>= frzX) >>= fun x => (pure []) >>= fun xs => pure (⟨.frz, x⟩ :: xs)) >>= fun xs => pure (x :: xs)) >>= callN m__law_draw) ixAny) >>= fun x => pure (.rt x))
def m__law_of : Mir := ⟨2, (some 0), fun ds O => bodyO (some 0) 2 (g__law_of FUEL) ds O⟩
theorem ok__law_of (B : Bt K w mg) (c__law_draw : Callee P w K mg base "_law_draw" 1 m__law_draw) {dvs : List V} {kws : List (Str × V)} {f : Addr} {fd : FuncData} (Fu : FunD K "_law_of" "_law_of" (defArgs s__law_of) (defBody s__law_of) (defScope s__law_of) dvs kws f fd) (hm : mg "_law_of" = some (.ref f)) (hk : PySem.W.keepIn K (.ref f) = true) (hb : Binds K fd ["_law_spring_here", "_law_menu"] []) : Callee P w K mg base "_law_of" 2 m__law_of :=
  callee_mir (k := 1) (g := g__law_of) Fu hm hk hb sc__law_of rfl (by decide) (fun cdv A outer s H E hS n =>
    (dss_one (ds_ret (de_ixi (ix_any hS.std) (de_var 1) (de_call hS.std c__law_draw (das_cons (de_var 0) (das_consF (DF.of (de_bltB cr_len (das_cons (de_var 1) das_nil) B.b_len bt_len)) das_nil))))))) (fun ds O _ _ => ⟨FUEL, rfl⟩)
abbrev s__law_error : Stmt := topS 32
theorem sc__law_error : FnScope ["_law_e", "_law_fits", "_law_words", "_law_bases", "_law_plain", "_law_at"] ["_law_e"] (defScope s__law_error) := ⟨rfl, rfl, rfl, by decide +kernel, rfl, by decide +kernel, by decide +kernel⟩
def g__law_error (n : Nat) : Mm Fl := (seqM ((((((var 0) >>= fun x => rd x >>= fun d => isiX ix_InvalidNumber d) >>= frzX) >>= fun x => ((((var 0) >>= fun x => rd x >>= fun d => isiX ix_InvalidWell d) >>= frzX) >>= fun x => ((((var 0) >>= fun x => rd x >>= fun d => isiX ix_InvalidBits d) >>= frzX) >>= fun x => (pure []) >>= fun xs => pure (x :: xs)) >>= fun xs => pure (x :: xs)) >>= fun xs => pure (x :: xs)) >>= mkLst) >>= fun x => stX 1 x >>= fun _ => pure .nx)
    (seqM ((bin (var 1) (((((var 0) >>= fun x => rd x >>= fun d => isiX ix_InvalidCourse d) >>= frzX) >>= fun x => ((((var 0) >>= fun x => rd x >>= fun d => isiX ix_InvalidText d) >>= frzX) >>= fun x => ((((var 0) >>= fun x => rd x >>= fun d => isiX ix_InvalidName d) >>= frzX) >>= fun x => (pure []) >>= fun xs => pure (x :: xs)) >>= fun xs => pure (x :: xs)) >>= fun xs => pure (x :: xs)) >>= mkLst) addD) >>= fun x => stX 1 x >>= fun _ => pure .nx)
    (seqM ((bin (var 1) (((((var 0) >>= fun x => rd x >>= fun d => isiX ix_InvalidWish d) >>= frzX) >>= fun x => ((((var 0) >>= fun x => rd x >>= fun d => isiX ix_NotAProgram d) >>= frzX) >>= fun x => ((((var 0) >>= fun x => rd x >>= fun d => isiX ix_InvalidRows d) >>= frzX) >>= fun x => (pure []) >>= fun xs => pure (x :: xs)) >>= fun xs => pure (x :: xs)) >>= fun xs => pure (x :: xs)) >>= mkLst) addD) >>= fun x => stX 1 x >>= fun _ => pure .nx)
    (seqM ((bin (var 1) (((((var 0) >>= fun x => rd x >>= fun d => isiX ix_InvalidExchanges d) >>= frzX) >>= fun x => ((((var 0) >>= fun x => rd x >>= fun d => isiX ix_InvalidWishes d) >>= frzX) >>= fun x => ((((var 0) >>= fun x => rd x >>= fun d => isiX ix_UnknownName d) >>= frzX) >>= fun x => (pure []) >>= fun xs => pure (x :: xs)) >>= fun xs => pure (x :: xs)) >>= fun xs => pure (x :: xs)) >>= mkLst) addD) >>= fun x => stX 1 x >>= fun _ => pure .nx)
    (seqM ((bin (var 1) (((((var 0) >>= fun x => rd x >>= fun d => isiX ix_InUse d) >>= frzX) >>= fun x => ((((var 0) >>= fun x => rd x >>= fun d => isiX ix_TooWide d) >>= frzX) >>= fun x => ((((var 0) >>= fun x => rd x >>= fun d => isiX ix_Ended d) >>= frzX) >>= fun x => ((((var 0) >>= fun x => rd x >>= fun d => isiX ix_Broken d) >>= frzX) >>= fun x => (pure []) >>= fun xs => pure (x :: xs)) >>= fun xs => pure (x :: xs)) >>= fun xs => pure (x :: xs)) >>= fun xs => pure (x :: xs)) >>= mkLst) addD) >>= fun x => stX 1 x >>= fun _ => pure .nx)
    (seqM ((bin (var 1) (((((var 0) >>= fun x => rd x >>= fun d => isiX ix_NothingToUndo d) >>= frzX) >>= fun x => (pure []) >>= fun xs => pure (x :: xs)) >>= mkLst) addD) >>= fun x => stX 1 x >>= fun _ => pure .nx)
    (seqM (((((cst (.str "InvalidNumber")) >>= frzX) >>= fun x => (((cst (.str "InvalidWell")) >>= frzX) >>= fun x => (((cst (.str "InvalidBits")) >>= frzX) >>= fun x => (((cst (.str "InvalidCourse")) >>= frzX) >>= fun x => (((cst (.str "InvalidText")) >>= frzX) >>= fun x => (((cst (.str "InvalidName")) >>= frzX) >>= fun x => (pure []) >>= fun xs => pure (x :: xs)) >>= fun xs => pure (x :: xs)) >>= fun xs => pure (x :: xs)) >>= fun xs => pure (x :: xs)) >>= fun xs => pure (x :: xs)) >>= fun xs => pure (x :: xs)) >>= mkLst) >>= fun x => stX 2 x >>= fun _ => pure .nx)
    (seqM ((bin (var 2) ((((cst (.str "InvalidWish")) >>= frzX) >>= fun x => (((cst (.str "NotAProgram")) >>= frzX) >>= fun x => (((cst (.str "InvalidRows")) >>= frzX) >>= fun x => (((cst (.str "InvalidExchanges")) >>= frzX) >>= fun x => (((cst (.str "InvalidWishes")) >>= frzX) >>= fun x => (((cst (.str "UnknownName")) >>= frzX) >>= fun x => (pure []) >>= fun xs => pure (x :: xs)) >>= fun xs => pure (x :: xs)) >>= fun xs => pure (x :: xs)) >>= fun xs => pure (x :: xs)) >>= fun xs => pure (x :: xs)) >>= fun xs => pure (x :: xs)) >>= mkLst) addD) >>= fun x => stX 2 x >>= fun _ => pure .nx)
    (seqM ((bin (var 2) ((((cst (.str "InUse")) >>= frzX) >>= fun x => (((cst (.str "TooWide")) >>= frzX) >>= fun x => (((cst (.str "Ended")) >>= frzX) >>= fun x => (((cst (.str "Broken")) >>= frzX) >>= fun x => (((cst (.str "NothingToUndo")) >>= frzX) >>= fun x => (pure []) >>= fun xs => pure (x :: xs)) >>= fun xs => pure (x :: xs)) >>= fun xs => pure (x :: xs)) >>= fun xs => pure (x :: xs)) >>= fun xs => pure (x :: xs)) >>= mkLst) addD) >>= fun x => stX 2 x >>= fun _ => pure .nx)
    (seqM ((((((var 0) >>= fun x => rd x >>= fun d => isiX ix_WrongValue d) >>= frzX) >>= fun x => ((((var 0) >>= fun x => rd x >>= fun d => isiX ix_WrongName d) >>= frzX) >>= fun x => ((((var 0) >>= fun x => rd x >>= fun d => isiX ix_NoAnswer d) >>= frzX) >>= fun x => (pure []) >>= fun xs => pure (x :: xs)) >>= fun xs => pure (x :: xs)) >>= fun xs => pure (x :: xs)) >>= mkLst) >>= fun x => stX 3 x >>= fun _ => pure .nx)
    (seqM ((((((var 0) >>= fun x => rd x >>= fun d => isiX ix_ValueError d) >>= frzX) >>= fun x => ((((var 0) >>= fun x => rd x >>= fun d => isiX ix_LookupError d) >>= frzX) >>= fun x => ((((var 0) >>= fun x => rd x >>= fun d => isiX ix_ArithmeticError d) >>= frzX) >>= fun x => (pure []) >>= fun xs => pure (x :: xs)) >>= fun xs => pure (x :: xs)) >>= fun xs => pure (x :: xs)) >>= mkLst) >>= fun x => stX 4 x >>= fun _ => pure .nx)
    (seqM ((orC ((bin (methM "list" (var 1) ((cst (.bl true)) >>= fun x => (pure []) >>= fun xs => pure (x :: xs)) countB) (cst (.int 1)) neD) >>= asB) ((bin (var 3) (var 4) neD) >>= asB)) >>= fun b => if b then ((cst (.str "")) >>= fun x => pure (.rt x)) else (pure .nx))
    (seqM ((methM "list" (var 1) ((cst (.bl true)) >>= fun x => (pure []) >>= fun xs => pure (x :: xs)) indexB) >>= fun x => stX 5 x >>= fun _ => pure .nx)
    ((ifM ((bin (var 3) ((((bin (var 5) (cst (.int 11)) ltD) >>= frzX) >>= fun x => (((chainM (cst (.int 10)) (var 5) (cst (.int 13)) ltD ltD) >>= frzX) >>= fun x => (((bin (var 5) (cst (.int 12)) gtD) >>= frzX) >>= fun x => (pure []) >>= fun xs => pure (x :: xs)) >>= fun xs => pure (x :: xs)) >>= fun xs => pure (x :: xs)) >>= mkLst) eqD) >>= asB) (bin (var 2) (var 5) ixAny) (cst (.str ""))) >>= fun x => pure (.rt x)))))))))))))))
def m__law_error : Mir := ⟨1, none, fun ds O => bodyO none 6 (g__law_error FUEL) ds O⟩
theorem ok__law_error (B : Bt K w mg) {dvs : List V} {kws : List (Str × V)} {f : Addr} {fd : FuncData} (Fu : FunD K "_law_error" "_law_error" (defArgs s__law_error) (defBody s__law_error) (defScope s__law_error) dvs kws f fd) (hm : mg "_law_error" = some (.ref f)) (hk : PySem.W.keepIn K (.ref f) = true) (hb : Binds K fd ["_law_e"] []) : Callee P w K mg base "_law_error" 1 m__law_error :=
  callee_mir (k := 0) (g := g__law_error) Fu hm hk hb sc__law_error rfl (by decide) (fun cdv A outer s H E hS n =>
    (dss_cons (ds_set 1 sc__law_error.nd (de_lst (dfs_cons (DF.of (de_isiX (de_var 0) rfl B.b_isinstance B.ix_InvalidNumber)) (dfs_cons (DF.of (de_isiX (de_var 0) rfl B.b_isinstance B.ix_InvalidWell)) (dfs_cons (DF.of (de_isiX (de_var 0) rfl B.b_isinstance B.ix_InvalidBits)) dfs_nil)))) (hp := by show (1 : Nat) ∉ pinOf none; decide))
    (dss_cons (ds_set 1 sc__law_error.nd (de_bi bi_add (de_var 1) (de_lst (dfs_cons (DF.of (de_isiX (de_var 0) rfl B.b_isinstance B.ix_InvalidCourse)) (dfs_cons (DF.of (de_isiX (de_var 0) rfl B.b_isinstance B.ix_InvalidText)) (dfs_cons (DF.of (de_isiX (de_var 0) rfl B.b_isinstance B.ix_InvalidName)) dfs_nil))))) (hp := by show (1 : Nat) ∉ pinOf none; decide))
    (dss_cons (ds_set 1 sc__law_error.nd (de_bi bi_add (de_var 1) (de_lst (dfs_cons (DF.of (de_isiX (de_var 0) rfl B.b_isinstance B.ix_InvalidWish)) (dfs_cons (DF.of (de_isiX (de_var 0) rfl B.b_isinstance B.ix_NotAProgram)) (dfs_cons (DF.of (de_isiX (de_var 0) rfl B.b_isinstance B.ix_InvalidRows)) dfs_nil))))) (hp := by show (1 : Nat) ∉ pinOf none; decide))
    (dss_cons (ds_set 1 sc__law_error.nd (de_bi bi_add (de_var 1) (de_lst (dfs_cons (DF.of (de_isiX (de_var 0) rfl B.b_isinstance B.ix_InvalidExchanges)) (dfs_cons (DF.of (de_isiX (de_var 0) rfl B.b_isinstance B.ix_InvalidWishes)) (dfs_cons (DF.of (de_isiX (de_var 0) rfl B.b_isinstance B.ix_UnknownName)) dfs_nil))))) (hp := by show (1 : Nat) ∉ pinOf none; decide))
    (dss_cons (ds_set 1 sc__law_error.nd (de_bi bi_add (de_var 1) (de_lst (dfs_cons (DF.of (de_isiX (de_var 0) rfl B.b_isinstance B.ix_InUse)) (dfs_cons (DF.of (de_isiX (de_var 0) rfl B.b_isinstance B.ix_TooWide)) (dfs_cons (DF.of (de_isiX (de_var 0) rfl B.b_isinstance B.ix_Ended)) (dfs_cons (DF.of (de_isiX (de_var 0) rfl B.b_isinstance B.ix_Broken)) dfs_nil)))))) (hp := by show (1 : Nat) ∉ pinOf none; decide))
    (dss_cons (ds_set 1 sc__law_error.nd (de_bi bi_add (de_var 1) (de_lst (dfs_cons (DF.of (de_isiX (de_var 0) rfl B.b_isinstance B.ix_NothingToUndo)) dfs_nil))) (hp := by show (1 : Nat) ∉ pinOf none; decide))
    (dss_cons (ds_set 2 sc__law_error.nd (de_lst (dfs_cons (DF.of de_str) (dfs_cons (DF.of de_str) (dfs_cons (DF.of de_str) (dfs_cons (DF.of de_str) (dfs_cons (DF.of de_str) (dfs_cons (DF.of de_str) dfs_nil))))))) (hp := by show (2 : Nat) ∉ pinOf none; decide))
    (dss_cons (ds_set 2 sc__law_error.nd (de_bi bi_add (de_var 2) (de_lst (dfs_cons (DF.of de_str) (dfs_cons (DF.of de_str) (dfs_cons (DF.of de_str) (dfs_cons (DF.of de_str) (dfs_cons (DF.of de_str) (dfs_cons (DF.of de_str) dfs_nil)))))))) (hp := by show (2 : Nat) ∉ pinOf none; decide))
    (dss_cons (ds_set 2 sc__law_error.nd (de_bi bi_add (de_var 2) (de_lst (dfs_cons (DF.of de_str) (dfs_cons (DF.of de_str) (dfs_cons (DF.of de_str) (dfs_cons (DF.of de_str) (dfs_cons (DF.of de_str) dfs_nil))))))) (hp := by show (2 : Nat) ∉ pinOf none; decide))
    (dss_cons (ds_set 3 sc__law_error.nd (de_lst (dfs_cons (DF.of (de_isiX (de_var 0) rfl B.b_isinstance B.ix_WrongValue)) (dfs_cons (DF.of (de_isiX (de_var 0) rfl B.b_isinstance B.ix_WrongName)) (dfs_cons (DF.of (de_isiX (de_var 0) rfl B.b_isinstance B.ix_NoAnswer)) dfs_nil)))) (hp := by show (3 : Nat) ∉ pinOf none; decide))
    (dss_cons (ds_set 4 sc__law_error.nd (de_lst (dfs_cons (DF.of (de_isiX (de_var 0) rfl B.b_isinstance B.ix_ValueError)) (dfs_cons (DF.of (de_isiX (de_var 0) rfl B.b_isinstance B.ix_LookupError)) (dfs_cons (DF.of (de_isiX (de_var 0) rfl B.b_isinstance B.ix_ArithmeticError)) dfs_nil)))) (hp := by show (4 : Nat) ∉ pinOf none; decide))
    (dss_cons (ds_if (PW.pt (dw_or (dt_ci (bi_ne hS.std) (de_meth mr_countB PySem.F.plainAttrs_list PySem.F.slot_list_count PySem.F.type_list_count (de_var 1) (das_cons de_bl das_nil)) de_int) (dw_or1 (dt_ci (bi_ne hS.std) (de_var 3) (de_var 4))))) (dss_one (ds_ret de_str)) dss_nil)
    (dss_cons (ds_set 5 sc__law_error.nd (de_meth mr_indexB PySem.F.plainAttrs_list PySem.F.slot_list_index PySem.F.type_list_index (de_var 1) (das_cons de_bl das_nil)) (hp := by show (5 : Nat) ∉ pinOf none; decide))
    (dss_one (ds_ret (de_ifx (dt_ci (bi_eq hS.std) (de_var 3) (de_lst (dfs_cons (DF.of (de_ci bi_lt (de_var 5) de_int)) (dfs_cons (DF.of (de_chain bi_lt bi_lt de_int (de_var 5) de_int)) (dfs_cons (DF.of (de_ci bi_gt (de_var 5) de_int)) dfs_nil))))) (de_ixi (ix_any hS.std) (de_var 2) (de_var 5)) de_str))))))))))))))))) (fun ds O _ _ => ⟨FUEL, rfl⟩)
abbrev s__law_field : Stmt := topS 33
theorem sc__law_field : FnScope ["_law_e", "_law_word"] ["_law_e", "_law_word"] (defScope s__law_field) := ⟨rfl, rfl, rfl, by decide +kernel, rfl, by decide +kernel, by decide +kernel⟩
def g__law_field (n : Nat) : Mm Fl := (seqM (((bin (var 1) ((((cst (.str "InvalidRows")) >>= frzX) >>= fun x => (((cst (.str "InvalidExchanges")) >>= frzX) >>= fun x => (((cst (.str "InvalidWishes")) >>= frzX) >>= fun x => (((cst (.str "InUse")) >>= frzX) >>= fun x => (pure []) >>= fun xs => pure (x :: xs)) >>= fun xs => pure (x :: xs)) >>= fun xs => pure (x :: xs)) >>= fun xs => pure (x :: xs)) >>= mkLst) inAny) >>= asB) >>= fun b => if b then (((var 0) >>= fun x => rd x >>= fun d => xfD xc_index "index" d) >>= fun x => pure (.rt x)) else (pure .nx))
    (seqM (((bin (var 1) (cst (.str "Broken")) eqD) >>= asB) >>= fun b => if b then ((((((var 0) >>= fun x => rd x >>= fun d => xfD xc_index "index" d) >>= frzX) >>= fun x => ((((var 0) >>= fun x => rd x >>= fun d => xfD xc_shown "shown" d) >>= frzX) >>= fun x => (pure []) >>= fun xs => pure (x :: xs)) >>= fun xs => pure (x :: xs)) >>= mkLst) >>= fun x => pure (.rt x)) else (pure .nx))
    (seqM (((bin (var 1) ((((cst (.str "Ended")) >>= frzX) >>= fun x => (((cst (.str "NothingToUndo")) >>= frzX) >>= fun x => (((cst (.str "")) >>= frzX) >>= fun x => (pure []) >>= fun xs => pure (x :: xs)) >>= fun xs => pure (x :: xs)) >>= fun xs => pure (x :: xs)) >>= mkLst) inAny) >>= asB) >>= fun b => if b then ((ifM ((bin (var 1) (cst (.str "Ended")) eqD) >>= asB) ((var 0) >>= fun x => rd x >>= fun d => xfD xc_end "end" d) (cst .non)) >>= fun x => pure (.rt x)) else (pure .nx))
    (((var 0) >>= fun x => rd x >>= fun d => xfD xc_given "given" d) >>= fun x => pure (.rt x)))))
def m__law_field : Mir := ⟨2, none, fun ds O => bodyO none 2 (g__law_field FUEL) ds O⟩
theorem ok__law_field (B : Bt K w mg) {dvs : List V} {kws : List (Str × V)} {f : Addr} {fd : FuncData} (Fu : FunD K "_law_field" "_law_field" (defArgs s__law_field) (defBody s__law_field) (defScope s__law_field) dvs kws f fd) (hm : mg "_law_field" = some (.ref f)) (hk : PySem.W.keepIn K (.ref f) = true) (hb : Binds K fd ["_law_e", "_law_word"] []) : Callee P w K mg base "_law_field" 1 m__law_field :=
  callee_mir (k := 0) (g := g__law_field) Fu hm hk hb sc__law_field rfl (by decide) (fun cdv A outer s H E hS n =>
    (dss_cons (ds_if (dt_ci (bi_inA hS.std) (de_var 1) (de_lst (dfs_cons (DF.of de_str) (dfs_cons (DF.of de_str) (dfs_cons (DF.of de_str) (dfs_cons (DF.of de_str) dfs_nil)))))) (dss_one (ds_ret (de_xf (de_var 0) B.xf_index))) dss_nil)
    (dss_cons (ds_if (dt_ci (bi_eq hS.std) (de_var 1) de_str) (dss_one (ds_ret (de_lst (dfs_cons (DF.of (de_xf (de_var 0) B.xf_index)) (dfs_cons (DF.of (de_xf (de_var 0) B.xf_shown)) dfs_nil))))) dss_nil)
    (dss_cons (ds_if (dt_ci (bi_inA hS.std) (de_var 1) (de_lst (dfs_cons (DF.of de_str) (dfs_cons (DF.of de_str) (dfs_cons (DF.of de_str) dfs_nil))))) (dss_one (ds_ret (de_ifx (dt_ci (bi_eq hS.std) (de_var 1) de_str) (de_xf (de_var 0) B.xf_end) de_non))) dss_nil)
    (dss_one (ds_ret (de_xf (de_var 0) B.xf_given))))))) (fun ds O _ _ => ⟨FUEL, rfl⟩)
abbrev s__law_odd : Stmt := topS 34
theorem sc__law_odd : FnScope ["_law_spring_here", "_law_some"] ["_law_spring_here"] (defScope s__law_odd) := ⟨rfl, rfl, rfl, by decide +kernel, rfl, by decide +kernel, by decide +kernel⟩
def g__law_odd (n : Nat) : Mm Fl := (seqM (((((cst .non) >>= frzX) >>= fun x => (((cst (.bl true)) >>= frzX) >>= fun x => (((cst (.bl false)) >>= frzX) >>= fun x => (((cst (.int 0)) >>= frzX) >>= fun x => (((cst (.int 1)) >>= frzX) >>= fun x => ((((cst (.int 1)) >>= fun x => rd x >>= fun d => negD d) >>= frzX) >>= fun x => (((cst (.int 7)) >>= frzX) >>= fun x => (((bin (cst (.int 10)) (cst (.int 39)) powD) >>= frzX) >>= fun x => (((cst (.str "")) >>= frzX) >>= fun x => (((cst (.str "a")) >>= frzX) >>= fun x => (((cst (.str "01")) >>= frzX) >>= fun x => (((cst (.str "take")) >>= frzX) >>= fun x => (((cst (.str "again")) >>= frzX) >>= fun x => (((cst (.str "go 0")) >>= frzX) >>= fun x => (((cst (.str "give c")) >>= frzX) >>= fun x => (((cst (.str "012")) >>= frzX) >>= fun x => (pure []) >>= fun xs => pure (x :: xs)) >>= fun xs => pure (x :: xs)) >>= fun xs => pure (x :: xs)) >>= fun xs => pure (x :: xs)) >>= fun xs => pure (x :: xs)) >>= fun xs => pure (x :: xs)) >>= fun xs => pure (x :: xs)) >>= fun xs => pure (x :: xs)) >>= fun xs => pure (x :: xs)) >>= fun xs => pure (x :: xs)) >>= fun xs => pure (x :: xs)) >>= fun xs => pure (x :: xs)) >>= fun xs => pure (x :: xs)) >>= fun xs => pure (x :: xs)) >>= fun xs => pure (x :: xs)) >>= fun xs => pure (x :: xs)) >>= mkLst) >>= fun x => stX 1 x >>= fun _ => pure .nx)
    (seqM ((bin (var 1) ((((cst (.str "even")) >>= frzX) >>= fun x => (((cst (.str "inside")) >>= frzX) >>= fun x => (((cst (.str "alike")) >>= frzX) >>= fun x => ((((pure []) >>= mkTup) >>= frzX) >>= fun x => ((((((cst (.int 0)) >>= frzX) >>= fun x => (pure []) >>= fun xs => pure (x :: xs)) >>= mkTup) >>= frzX) >>= fun x => ((((((cst (.int 1)) >>= frzX) >>= fun x => (pure []) >>= fun xs => pure (x :: xs)) >>= mkTup) >>= frzX) >>= fun x => ((((((cst (.int 0)) >>= frzX) >>= fun x => (((cst (.int 0)) >>= frzX) >>= fun x => (pure []) >>= fun xs => pure (x :: xs)) >>= fun xs => pure (x :: xs)) >>= mkTup) >>= frzX) >>= fun x => ((((((cst (.int 0)) >>= frzX) >>= fun x => (((cst (.int 1)) >>= frzX) >>= fun x => (pure []) >>= fun xs => pure (x :: xs)) >>= fun xs => pure (x :: xs)) >>= mkTup) >>= frzX) >>= fun x => ((((((cst (.str "alike")) >>= frzX) >>= fun x => (((cst (.str "a")) >>= frzX) >>= fun x => (pure []) >>= fun xs => pure (x :: xs)) >>= fun xs => pure (x :: xs)) >>= mkTup) >>= frzX) >>= fun x => ((((((cst (.str "even")) >>= frzX) >>= fun x => (((cst (.str "a")) >>= frzX) >>= fun x => (pure []) >>= fun xs => pure (x :: xs)) >>= fun xs => pure (x :: xs)) >>= mkTup) >>= frzX) >>= fun x => (pure []) >>= fun xs => pure (x :: xs)) >>= fun xs => pure (x :: xs)) >>= fun xs => pure (x :: xs)) >>= fun xs => pure (x :: xs)) >>= fun xs => pure (x :: xs)) >>= fun xs => pure (x :: xs)) >>= fun xs => pure (x :: xs)) >>= fun xs => pure (x :: xs)) >>= fun xs => pure (x :: xs)) >>= fun xs => pure (x :: xs)) >>= mkLst) addD) >>= fun x => stX 1 x >>= fun _ => pure .nx)
    (seqM ((bin (var 1) (((((((cst (.str "alike")) >>= frzX) >>= fun x => (((cst (.str "a")) >>= frzX) >>= fun x => (((cst (.str "a")) >>= frzX) >>= fun x => (pure []) >>= fun xs => pure (x :: xs)) >>= fun xs => pure (x :: xs)) >>= fun xs => pure (x :: xs)) >>= mkTup) >>= frzX) >>= fun x => ((((pure []) >>= mkLst) >>= frzX) >>= fun x => ((((((cst (.int 0)) >>= frzX) >>= fun x => (pure []) >>= fun xs => pure (x :: xs)) >>= mkLst) >>= frzX) >>= fun x => ((((((cst (.str "take")) >>= frzX) >>= fun x => (pure []) >>= fun xs => pure (x :: xs)) >>= mkLst) >>= frzX) >>= fun x => (((pure ⟨.tmp, .dct false []⟩) >>= frzX) >>= fun x => (((dispK1 ((cst (.str "a")) >>= frzX) ((cst (.int 0)) >>= frzX)) >>= frzX) >>= fun x => (((((((pure []) >>= mkLst) >>= frzX) >>= fun x => (pure []) >>= fun xs => pure (x :: xs)) >>= mkTup) >>= frzX) >>= fun x => ((((((cst .non) >>= frzX) >>= fun x => (pure []) >>= fun xs => pure (x :: xs)) >>= mkTup) >>= frzX) >>= fun x => (((((((pure []) >>= mkTup) >>= frzX) >>= fun x => (pure []) >>= fun xs => pure (x :: xs)) >>= mkTup) >>= frzX) >>= fun x => ((((((cst (.str "even")) >>= frzX) >>= fun x => (pure []) >>= fun xs => pure (x :: xs)) >>= mkTup) >>= frzX) >>= fun x => ((((((cst (.int 0)) >>= frzX) >>= fun x => (((cst (.str "again")) >>= frzX) >>= fun x => (pure []) >>= fun xs => pure (x :: xs)) >>= fun xs => pure (x :: xs)) >>= mkTup) >>= frzX) >>= fun x => (pure []) >>= fun xs => pure (x :: xs)) >>= fun xs => pure (x :: xs)) >>= fun xs => pure (x :: xs)) >>= fun xs => pure (x :: xs)) >>= fun xs => pure (x :: xs)) >>= fun xs => pure (x :: xs)) >>= fun xs => pure (x :: xs)) >>= fun xs => pure (x :: xs)) >>= fun xs => pure (x :: xs)) >>= fun xs => pure (x :: xs)) >>= fun xs => pure (x :: xs)) >>= mkLst) addD) >>= fun x => stX 1 x >>= fun _ => pure .nx)
    ((((var 0) >>= fun x => (((var 1) >>= frzX) >>= fun x => (pure []) >>= fun xs => pure (⟨.frz, x⟩ :: xs)) >>= fun xs => pure (x :: xs)) >>= callN m__law_of) >>= fun x => pure (.rt x)))))
def m__law_odd : Mir := ⟨1, (some 0), fun ds O => bodyO (some 0) 2 (g__law_odd FUEL) ds O⟩
theorem ok__law_odd (B : Bt K w mg) (c__law_of : Callee P w K mg base "_law_of" 2 m__law_of) {dvs : List V} {kws : List (Str × V)} {f : Addr} {fd : FuncData} (Fu : FunD K "_law_odd" "_law_odd" (defArgs s__law_odd) (defBody s__law_odd) (defScope s__law_odd) dvs kws f fd) (hm : mg "_law_odd" = some (.ref f)) (hk : PySem.W.keepIn K (.ref f) = true) (hb : Binds K fd ["_law_spring_here"] []) : Callee P w K mg base "_law_odd" 3 m__law_odd :=
  callee_mir (k := 2) (g := g__law_odd) Fu hm hk hb sc__law_odd rfl (by decide) (fun cdv A outer s H E hS n =>
    (dss_cons (ds_set 1 sc__law_odd.nd (de_lst (dfs_cons (DF.of de_non) (dfs_cons (DF.of de_bl) (dfs_cons (DF.of de_bl) (dfs_cons (DF.of de_int) (dfs_cons (DF.of de_int) (dfs_cons (DF.of (de_neg de_int)) (dfs_cons (DF.of de_int) (dfs_cons (DF.of (de_bi bi_pow de_int de_int)) (dfs_cons (DF.of de_str) (dfs_cons (DF.of de_str) (dfs_cons (DF.of de_str) (dfs_cons (DF.of de_str) (dfs_cons (DF.of de_str) (dfs_cons (DF.of de_str) (dfs_cons (DF.of de_str) (dfs_cons (DF.of de_str) dfs_nil))))))))))))))))) (hp := by show (1 : Nat) ∉ pinOf (some 0); decide))
    (dss_cons (ds_set 1 sc__law_odd.nd (de_bi bi_add (de_var 1) (de_lst (dfs_cons (DF.of de_str) (dfs_cons (DF.of de_str) (dfs_cons (DF.of de_str) (dfs_cons (DF.of (de_tup dfs_nil)) (dfs_cons (DF.of (de_tup (dfs_cons (DF.of de_int) dfs_nil))) (dfs_cons (DF.of (de_tup (dfs_cons (DF.of de_int) dfs_nil))) (dfs_cons (DF.of (de_tup (dfs_cons (DF.of de_int) (dfs_cons (DF.of de_int) dfs_nil)))) (dfs_cons (DF.of (de_tup (dfs_cons (DF.of de_int) (dfs_cons (DF.of de_int) dfs_nil)))) (dfs_cons (DF.of (de_tup (dfs_cons (DF.of de_str) (dfs_cons (DF.of de_str) dfs_nil)))) (dfs_cons (DF.of (de_tup (dfs_cons (DF.of de_str) (dfs_cons (DF.of de_str) dfs_nil)))) dfs_nil)))))))))))) (hp := by show (1 : Nat) ∉ pinOf (some 0); decide))
    (dss_cons (ds_set 1 sc__law_odd.nd (de_bi bi_add (de_var 1) (de_lst (dfs_cons (DF.of (de_tup (dfs_cons (DF.of de_str) (dfs_cons (DF.of de_str) (dfs_cons (DF.of de_str) dfs_nil))))) (dfs_cons (DF.of (de_lst dfs_nil)) (dfs_cons (DF.of (de_lst (dfs_cons (DF.of de_int) dfs_nil))) (dfs_cons (DF.of (de_lst (dfs_cons (DF.of de_str) dfs_nil))) (dfs_cons (DF.of de_dictK) (dfs_cons (DF.of (de_dispK1 (DF.of de_str) (DF.of de_int))) (dfs_cons (DF.of (de_tup (dfs_cons (DF.of (de_lst dfs_nil)) dfs_nil))) (dfs_cons (DF.of (de_tup (dfs_cons (DF.of de_non) dfs_nil))) (dfs_cons (DF.of (de_tup (dfs_cons (DF.of (de_tup dfs_nil)) dfs_nil))) (dfs_cons (DF.of (de_tup (dfs_cons (DF.of de_str) dfs_nil))) (dfs_cons (DF.of (de_tup (dfs_cons (DF.of de_int) (dfs_cons (DF.of de_str) dfs_nil)))) dfs_nil))))))))))))) (hp := by show (1 : Nat) ∉ pinOf (some 0); decide))
    (dss_one (ds_ret (de_call hS.std c__law_of (das_cons (de_var 0) (das_consF (DF.of (de_var 1)) das_nil))))))))) (fun ds O _ _ => ⟨FUEL, rfl⟩)
abbrev s__law_errors : Stmt := topS 35
theorem sc__law_errors : FnScope ["_law_thing", "_law_some"] ["_law_thing"] (defScope s__law_errors) := ⟨rfl, rfl, rfl, by decide +kernel, rfl, by decide +kernel, by decide +kernel⟩
def g__law_errors (n : Nat) : Mm Fl := (seqM (((((excP "InvalidNumber" 1 [("given", 0)] (((var 0) >>= frzX) >>= fun x => (pure []) >>= fun xs => pure (⟨.frz, x⟩ :: xs))) >>= frzX) >>= fun x => (((excP "InvalidNumber" 1 [("given", 0)] (((var 0) >>= frzX) >>= fun x => (pure []) >>= fun xs => pure (⟨.frz, x⟩ :: xs))) >>= frzX) >>= fun x => (((excP "InvalidWell" 1 [("given", 0)] (((var 0) >>= frzX) >>= fun x => (pure []) >>= fun xs => pure (⟨.frz, x⟩ :: xs))) >>= frzX) >>= fun x => (((excP "InvalidWell" 1 [("given", 0)] (((var 0) >>= frzX) >>= fun x => (pure []) >>= fun xs => pure (⟨.frz, x⟩ :: xs))) >>= frzX) >>= fun x => (pure []) >>= fun xs => pure (x :: xs)) >>= fun xs => pure (x :: xs)) >>= fun xs => pure (x :: xs)) >>= fun xs => pure (x :: xs)) >>= mkLst) >>= fun x => stX 1 x >>= fun _ => pure .nx)
    (seqM ((bin (var 1) ((((excP "InvalidBits" 1 [("given", 0)] (((var 0) >>= frzX) >>= fun x => (pure []) >>= fun xs => pure (⟨.frz, x⟩ :: xs))) >>= frzX) >>= fun x => (((excP "InvalidBits" 1 [("given", 0)] (((var 0) >>= frzX) >>= fun x => (pure []) >>= fun xs => pure (⟨.frz, x⟩ :: xs))) >>= frzX) >>= fun x => (((excP "InvalidCourse" 1 [("given", 0)] (((var 0) >>= frzX) >>= fun x => (pure []) >>= fun xs => pure (⟨.frz, x⟩ :: xs))) >>= frzX) >>= fun x => (((excP "InvalidCourse" 1 [("given", 0)] (((var 0) >>= frzX) >>= fun x => (pure []) >>= fun xs => pure (⟨.frz, x⟩ :: xs))) >>= frzX) >>= fun x => (pure []) >>= fun xs => pure (x :: xs)) >>= fun xs => pure (x :: xs)) >>= fun xs => pure (x :: xs)) >>= fun xs => pure (x :: xs)) >>= mkLst) addD) >>= fun x => stX 1 x >>= fun _ => pure .nx)
    (seqM ((bin (var 1) ((((excP "InvalidText" 1 [("given", 0)] (((var 0) >>= frzX) >>= fun x => (pure []) >>= fun xs => pure (⟨.frz, x⟩ :: xs))) >>= frzX) >>= fun x => (((excP "InvalidText" 1 [("given", 0)] (((var 0) >>= frzX) >>= fun x => (pure []) >>= fun xs => pure (⟨.frz, x⟩ :: xs))) >>= frzX) >>= fun x => (((excP "InvalidName" 1 [("given", 0)] (((var 0) >>= frzX) >>= fun x => (pure []) >>= fun xs => pure (⟨.frz, x⟩ :: xs))) >>= frzX) >>= fun x => (((excP "InvalidName" 1 [("given", 0)] (((var 0) >>= frzX) >>= fun x => (pure []) >>= fun xs => pure (⟨.frz, x⟩ :: xs))) >>= frzX) >>= fun x => (pure []) >>= fun xs => pure (x :: xs)) >>= fun xs => pure (x :: xs)) >>= fun xs => pure (x :: xs)) >>= fun xs => pure (x :: xs)) >>= mkLst) addD) >>= fun x => stX 1 x >>= fun _ => pure .nx)
    (seqM ((bin (var 1) ((((excP "InvalidWish" 1 [("given", 0)] (((var 0) >>= frzX) >>= fun x => (pure []) >>= fun xs => pure (⟨.frz, x⟩ :: xs))) >>= frzX) >>= fun x => (((excP "InvalidWish" 1 [("given", 0)] (((var 0) >>= frzX) >>= fun x => (pure []) >>= fun xs => pure (⟨.frz, x⟩ :: xs))) >>= frzX) >>= fun x => (((excP "NotAProgram" 1 [("given", 0)] (((var 0) >>= frzX) >>= fun x => (pure []) >>= fun xs => pure (⟨.frz, x⟩ :: xs))) >>= frzX) >>= fun x => (((excP "NotAProgram" 1 [("given", 0)] (((var 0) >>= frzX) >>= fun x => (pure []) >>= fun xs => pure (⟨.frz, x⟩ :: xs))) >>= frzX) >>= fun x => (pure []) >>= fun xs => pure (x :: xs)) >>= fun xs => pure (x :: xs)) >>= fun xs => pure (x :: xs)) >>= fun xs => pure (x :: xs)) >>= mkLst) addD) >>= fun x => stX 1 x >>= fun _ => pure .nx)
    (seqM ((bin (var 1) ((((excP "InvalidRows" 1 [("index", 0)] (((var 0) >>= frzX) >>= fun x => (pure []) >>= fun xs => pure (⟨.frz, x⟩ :: xs))) >>= frzX) >>= fun x => (((excP "InvalidRows" 1 [("index", 0)] (((var 0) >>= frzX) >>= fun x => (pure []) >>= fun xs => pure (⟨.frz, x⟩ :: xs))) >>= frzX) >>= fun x => (((excP "InvalidExchanges" 1 [("index", 0)] (((var 0) >>= frzX) >>= fun x => (pure []) >>= fun xs => pure (⟨.frz, x⟩ :: xs))) >>= frzX) >>= fun x => (((excP "InvalidExchanges" 1 [("index", 0)] (((var 0) >>= frzX) >>= fun x => (pure []) >>= fun xs => pure (⟨.frz, x⟩ :: xs))) >>= frzX) >>= fun x => (pure []) >>= fun xs => pure (x :: xs)) >>= fun xs => pure (x :: xs)) >>= fun xs => pure (x :: xs)) >>= fun xs => pure (x :: xs)) >>= mkLst) addD) >>= fun x => stX 1 x >>= fun _ => pure .nx)
    (seqM ((bin (var 1) ((((excP "InvalidWishes" 1 [("index", 0)] (((var 0) >>= frzX) >>= fun x => (pure []) >>= fun xs => pure (⟨.frz, x⟩ :: xs))) >>= frzX) >>= fun x => (((excP "InvalidWishes" 1 [("index", 0)] (((var 0) >>= frzX) >>= fun x => (pure []) >>= fun xs => pure (⟨.frz, x⟩ :: xs))) >>= frzX) >>= fun x => (((excP "UnknownName" 1 [("given", 0)] (((var 0) >>= frzX) >>= fun x => (pure []) >>= fun xs => pure (⟨.frz, x⟩ :: xs))) >>= frzX) >>= fun x => (((excP "UnknownName" 1 [("given", 0)] (((var 0) >>= frzX) >>= fun x => (pure []) >>= fun xs => pure (⟨.frz, x⟩ :: xs))) >>= frzX) >>= fun x => (pure []) >>= fun xs => pure (x :: xs)) >>= fun xs => pure (x :: xs)) >>= fun xs => pure (x :: xs)) >>= fun xs => pure (x :: xs)) >>= mkLst) addD) >>= fun x => stX 1 x >>= fun _ => pure .nx)
    (seqM ((bin (var 1) ((((excP "InUse" 1 [("index", 0)] (((var 0) >>= frzX) >>= fun x => (pure []) >>= fun xs => pure (⟨.frz, x⟩ :: xs))) >>= frzX) >>= fun x => (((excP "InUse" 1 [("index", 0)] (((var 0) >>= frzX) >>= fun x => (pure []) >>= fun xs => pure (⟨.frz, x⟩ :: xs))) >>= frzX) >>= fun x => (((excP "TooWide" 1 [("given", 0)] (((var 0) >>= frzX) >>= fun x => (pure []) >>= fun xs => pure (⟨.frz, x⟩ :: xs))) >>= frzX) >>= fun x => (((excP "TooWide" 1 [("given", 0)] (((var 0) >>= frzX) >>= fun x => (pure []) >>= fun xs => pure (⟨.frz, x⟩ :: xs))) >>= frzX) >>= fun x => (pure []) >>= fun xs => pure (x :: xs)) >>= fun xs => pure (x :: xs)) >>= fun xs => pure (x :: xs)) >>= fun xs => pure (x :: xs)) >>= mkLst) addD) >>= fun x => stX 1 x >>= fun _ => pure .nx)
    ((bin (var 1) ((((excP "Ended" 1 [("end", 0)] (((var 0) >>= frzX) >>= fun x => (pure []) >>= fun xs => pure (⟨.frz, x⟩ :: xs))) >>= frzX) >>= fun x => (((excP "Ended" 1 [("end", 0)] (((var 0) >>= frzX) >>= fun x => (pure []) >>= fun xs => pure (⟨.frz, x⟩ :: xs))) >>= frzX) >>= fun x => (pure []) >>= fun xs => pure (x :: xs)) >>= fun xs => pure (x :: xs)) >>= mkLst) addD) >>= fun x => pure (.rt x)))))))))
def m__law_errors : Mir := ⟨1, none, fun ds O => bodyO none 2 (g__law_errors FUEL) ds O⟩
theorem ok__law_errors (B : Bt K w mg) (e0_Ended_end : ExF P w K mg base "Ended" 0 ["end"] [("end", 0)] 1) (e0_InUse_index : ExF P w K mg base "InUse" 0 ["index"] [("index", 0)] 1) (e0_InvalidBits_given : ExF P w K mg base "InvalidBits" 0 ["given"] [("given", 0)] 1) (e0_InvalidCourse_given : ExF P w K mg base "InvalidCourse" 0 ["given"] [("given", 0)] 1) (e0_InvalidExchanges_index : ExF P w K mg base "InvalidExchanges" 0 ["index"] [("index", 0)] 1) (e0_InvalidName_given : ExF P w K mg base "InvalidName" 0 ["given"] [("given", 0)] 1) (e0_InvalidNumber_given : ExF P w K mg base "InvalidNumber" 0 ["given"] [("given", 0)] 1) (e0_InvalidRows_index : ExF P w K mg base "InvalidRows" 0 ["index"] [("index", 0)] 1) (e0_InvalidText_given : ExF P w K mg base "InvalidText" 0 ["given"] [("given", 0)] 1) (e0_InvalidWell_given : ExF P w K mg base "InvalidWell" 0 ["given"] [("given", 0)] 1) (e0_InvalidWish_given : ExF P w K mg base "InvalidWish" 0 ["given"] [("given", 0)] 1) (e0_InvalidWishes_index : ExF P w K mg base "InvalidWishes" 0 ["index"] [("index", 0)] 1) (e0_NotAProgram_given : ExF P w K mg base "NotAProgram" 0 ["given"] [("given", 0)] 1) (e0_TooWide_given : ExF P w K mg base "TooWide" 0 ["given"] [("given", 0)] 1) (e0_UnknownName_given : ExF P w K mg base "UnknownName" 0 ["given"] [("given", 0)] 1) (e1_Ended : ExF P w K mg base "Ended" 1 [] [("end", 0)] 1) (e1_InUse : ExF P w K mg base "InUse" 1 [] [("index", 0)] 1) (e1_InvalidBits : ExF P w K mg base "InvalidBits" 1 [] [("given", 0)] 1) (e1_InvalidCourse : ExF P w K mg base "InvalidCourse" 1 [] [("given", 0)] 1) (e1_InvalidExchanges : ExF P w K mg base "InvalidExchanges" 1 [] [("index", 0)] 1) (e1_InvalidName : ExF P w K mg base "InvalidName" 1 [] [("given", 0)] 1) (e1_InvalidNumber : ExF P w K mg base "InvalidNumber" 1 [] [("given", 0)] 1) (e1_InvalidRows : ExF P w K mg base "InvalidRows" 1 [] [("index", 0)] 1) (e1_InvalidText : ExF P w K mg base "InvalidText" 1 [] [("given", 0)] 1) (e1_InvalidWell : ExF P w K mg base "InvalidWell" 1 [] [("given", 0)] 1) (e1_InvalidWish : ExF P w K mg base "InvalidWish" 1 [] [("given", 0)] 1) (e1_InvalidWishes : ExF P w K mg base "InvalidWishes" 1 [] [("index", 0)] 1) (e1_NotAProgram : ExF P w K mg base "NotAProgram" 1 [] [("given", 0)] 1) (e1_TooWide : ExF P w K mg base "TooWide" 1 [] [("given", 0)] 1) (e1_UnknownName : ExF P w K mg base "UnknownName" 1 [] [("given", 0)] 1) {dvs : List V} {kws : List (Str × V)} {f : Addr} {fd : FuncData} (Fu : FunD K "_law_errors" "_law_errors" (defArgs s__law_errors) (defBody s__law_errors) (defScope s__law_errors) dvs kws f fd) (hm : mg "_law_errors" = some (.ref f)) (hk : PySem.W.keepIn K (.ref f) = true) (hb : Binds K fd ["_law_thing"] []) : Callee P w K mg base "_law_errors" 3 m__law_errors :=
  callee_mir (k := 2) (g := g__law_errors) Fu hm hk hb sc__law_errors rfl (by decide) (fun cdv A outer s H E hS n =>
    (dss_cons (ds_set 1 sc__law_errors.nd (de_lst (dfs_cons (DF.of (de_excP hS.std e1_InvalidNumber (das_consF (DF.of (de_var 0)) das_nil))) (dfs_cons (DF.of (de_excK (ks := ["given"]) hS.std e0_InvalidNumber_given (dk_consF (DF.of (de_var 0)) dk_nil))) (dfs_cons (DF.of (de_excP hS.std e1_InvalidWell (das_consF (DF.of (de_var 0)) das_nil))) (dfs_cons (DF.of (de_excK (ks := ["given"]) hS.std e0_InvalidWell_given (dk_consF (DF.of (de_var 0)) dk_nil))) dfs_nil))))) (hp := by show (1 : Nat) ∉ pinOf none; decide))
    (dss_cons (ds_set 1 sc__law_errors.nd (de_bi bi_add (de_var 1) (de_lst (dfs_cons (DF.of (de_excP hS.std e1_InvalidBits (das_consF (DF.of (de_var 0)) das_nil))) (dfs_cons (DF.of (de_excK (ks := ["given"]) hS.std e0_InvalidBits_given (dk_consF (DF.of (de_var 0)) dk_nil))) (dfs_cons (DF.of (de_excP hS.std e1_InvalidCourse (das_consF (DF.of (de_var 0)) das_nil))) (dfs_cons (DF.of (de_excK (ks := ["given"]) hS.std e0_InvalidCourse_given (dk_consF (DF.of (de_var 0)) dk_nil))) dfs_nil)))))) (hp := by show (1 : Nat) ∉ pinOf none; decide))
    (dss_cons (ds_set 1 sc__law_errors.nd (de_bi bi_add (de_var 1) (de_lst (dfs_cons (DF.of (de_excP hS.std e1_InvalidText (das_consF (DF.of (de_var 0)) das_nil))) (dfs_cons (DF.of (de_excK (ks := ["given"]) hS.std e0_InvalidText_given (dk_consF (DF.of (de_var 0)) dk_nil))) (dfs_cons (DF.of (de_excP hS.std e1_InvalidName (das_consF (DF.of (de_var 0)) das_nil))) (dfs_cons (DF.of (de_excK (ks := ["given"]) hS.std e0_InvalidName_given (dk_consF (DF.of (de_var 0)) dk_nil))) dfs_nil)))))) (hp := by show (1 : Nat) ∉ pinOf none; decide))
    (dss_cons (ds_set 1 sc__law_errors.nd (de_bi bi_add (de_var 1) (de_lst (dfs_cons (DF.of (de_excP hS.std e1_InvalidWish (das_consF (DF.of (de_var 0)) das_nil))) (dfs_cons (DF.of (de_excK (ks := ["given"]) hS.std e0_InvalidWish_given (dk_consF (DF.of (de_var 0)) dk_nil))) (dfs_cons (DF.of (de_excP hS.std e1_NotAProgram (das_consF (DF.of (de_var 0)) das_nil))) (dfs_cons (DF.of (de_excK (ks := ["given"]) hS.std e0_NotAProgram_given (dk_consF (DF.of (de_var 0)) dk_nil))) dfs_nil)))))) (hp := by show (1 : Nat) ∉ pinOf none; decide))
    (dss_cons (ds_set 1 sc__law_errors.nd (de_bi bi_add (de_var 1) (de_lst (dfs_cons (DF.of (de_excP hS.std e1_InvalidRows (das_consF (DF.of (de_var 0)) das_nil))) (dfs_cons (DF.of (de_excK (ks := ["index"]) hS.std e0_InvalidRows_index (dk_consF (DF.of (de_var 0)) dk_nil))) (dfs_cons (DF.of (de_excP hS.std e1_InvalidExchanges (das_consF (DF.of (de_var 0)) das_nil))) (dfs_cons (DF.of (de_excK (ks := ["index"]) hS.std e0_InvalidExchanges_index (dk_consF (DF.of (de_var 0)) dk_nil))) dfs_nil)))))) (hp := by show (1 : Nat) ∉ pinOf none; decide))
    (dss_cons (ds_set 1 sc__law_errors.nd (de_bi bi_add (de_var 1) (de_lst (dfs_cons (DF.of (de_excP hS.std e1_InvalidWishes (das_consF (DF.of (de_var 0)) das_nil))) (dfs_cons (DF.of (de_excK (ks := ["index"]) hS.std e0_InvalidWishes_index (dk_consF (DF.of (de_var 0)) dk_nil))) (dfs_cons (DF.of (de_excP hS.std e1_UnknownName (das_consF (DF.of (de_var 0)) das_nil))) (dfs_cons (DF.of (de_excK (ks := ["given"]) hS.std e0_UnknownName_given (dk_consF (DF.of (de_var 0)) dk_nil))) dfs_nil)))))) (hp := by show (1 : Nat) ∉ pinOf none; decide))
    (dss_cons (ds_set 1 sc__law_errors.nd (de_bi bi_add (de_var 1) (de_lst (dfs_cons (DF.of (de_excP hS.std e1_InUse (das_consF (DF.of (de_var 0)) das_nil))) (dfs_cons (DF.of (de_excK (ks := ["index"]) hS.std e0_InUse_index (dk_consF (DF.of (de_var 0)) dk_nil))) (dfs_cons (DF.of (de_excP hS.std e1_TooWide (das_consF (DF.of (de_var 0)) das_nil))) (dfs_cons (DF.of (de_excK (ks := ["given"]) hS.std e0_TooWide_given (dk_consF (DF.of (de_var 0)) dk_nil))) dfs_nil)))))) (hp := by show (1 : Nat) ∉ pinOf none; decide))
    (dss_one (ds_ret (de_bi bi_add (de_var 1) (de_lst (dfs_cons (DF.of (de_excP hS.std e1_Ended (das_consF (DF.of (de_var 0)) das_nil))) (dfs_cons (DF.of (de_excK (ks := ["end"]) hS.std e0_Ended_end (dk_consF (DF.of (de_var 0)) dk_nil))) dfs_nil)))))))))))))) (fun ds O _ _ => ⟨FUEL, rfl⟩)
abbrev s__law_right : Stmt := topS 36
theorem sc__law_right : FnScope ["_law_spring_here", "_law_thing", "_law_mate", "_law_words", "_law_some", "_law_k", "_law_word", "_law_pairs", "_law_each"] ["_law_spring_here"] (defScope s__law_right) := ⟨rfl, rfl, rfl, by decide +kernel, rfl, by decide +kernel, by decide +kernel⟩
def g__law_right (n : Nat) : Mm Fl := (seqM (parM [1, 2] ((((var 0) >>= fun x => (pure []) >>= fun xs => pure (x :: xs)) >>= callN m__law_odd) >>= fun x => ((((var 0) >>= fun x => (pure []) >>= fun xs => pure (x :: xs)) >>= callN m__law_odd) >>= fun x => (pure []) >>= fun xs => pure (x :: xs)) >>= fun xs => pure (x :: xs)))
    (seqM (((((cst (.str "InvalidNumber")) >>= frzX) >>= fun x => (((cst (.str "InvalidWell")) >>= frzX) >>= fun x => (((cst (.str "InvalidBits")) >>= frzX) >>= fun x => (((cst (.str "InvalidCourse")) >>= frzX) >>= fun x => (((cst (.str "InvalidText")) >>= frzX) >>= fun x => (((cst (.str "InvalidName")) >>= frzX) >>= fun x => (pure []) >>= fun xs => pure (x :: xs)) >>= fun xs => pure (x :: xs)) >>= fun xs => pure (x :: xs)) >>= fun xs => pure (x :: xs)) >>= fun xs => pure (x :: xs)) >>= fun xs => pure (x :: xs)) >>= mkLst) >>= fun x => stX 3 x >>= fun _ => pure .nx)
    (seqM ((bin (var 3) ((((cst (.str "InvalidWish")) >>= frzX) >>= fun x => (((cst (.str "NotAProgram")) >>= frzX) >>= fun x => (((cst (.str "InvalidRows")) >>= frzX) >>= fun x => (((cst (.str "InvalidExchanges")) >>= frzX) >>= fun x => (((cst (.str "InvalidWishes")) >>= frzX) >>= fun x => (((cst (.str "UnknownName")) >>= frzX) >>= fun x => (pure []) >>= fun xs => pure (x :: xs)) >>= fun xs => pure (x :: xs)) >>= fun xs => pure (x :: xs)) >>= fun xs => pure (x :: xs)) >>= fun xs => pure (x :: xs)) >>= fun xs => pure (x :: xs)) >>= mkLst) addD) >>= fun x => stX 3 x >>= fun _ => pure .nx)
    (seqM ((bin (var 3) ((((cst (.str "InUse")) >>= frzX) >>= fun x => (((cst (.str "TooWide")) >>= frzX) >>= fun x => (((cst (.str "Ended")) >>= frzX) >>= fun x => (pure []) >>= fun xs => pure (x :: xs)) >>= fun xs => pure (x :: xs)) >>= fun xs => pure (x :: xs)) >>= mkLst) addD) >>= fun x => stX 3 x >>= fun _ => pure .nx)
    (seqM (((((var 1) >>= frzX) >>= fun x => (pure []) >>= fun xs => pure (⟨.frz, x⟩ :: xs)) >>= callN m__law_errors) >>= fun x => stX 4 x >>= fun _ => pure .nx)
    (seqM (((((blt ((var 4) >>= fun x => (pure []) >>= fun xs => pure (x :: xs)) lenB) >>= frzX) >>= fun x => (pure []) >>= fun xs => pure (x :: xs)) >>= fun ds => opt (rng1 ds)) >>= forM fun d => (fun d => st1 5 false d) d >>= fun _ => (seqM (((((bin (var 4) (var 5) ixAny) >>= frzX) >>= fun x => (pure []) >>= fun xs => pure (⟨.frz, x⟩ :: xs)) >>= callN m__law_error) >>= fun x => stX 6 x >>= fun _ => pure .nx)
    ((orC ((bin (var 6) (bin (var 3) (bin (var 5) (cst (.int 2)) fdivD) ixAny) neD) >>= asB) ((bin (blt (((((bin (var 4) (var 5) ixAny) >>= frzX) >>= fun x => (((var 6) >>= frzX) >>= fun x => (pure []) >>= fun xs => pure (⟨.frz, x⟩ :: xs)) >>= fun xs => pure (⟨.frz, x⟩ :: xs)) >>= callN m__law_field) >>= fun x => (pure []) >>= fun xs => pure (x :: xs)) reprX) (blt ((var 1) >>= fun x => (pure []) >>= fun xs => pure (x :: xs)) reprX) neD) >>= asB)) >>= fun b => if b then ((cst (.bl false)) >>= fun x => pure (.rt x)) else (pure .nx))))
    (seqM (((((excP "Broken" 2 [("shown", 1), ("index", 0)] (((var 1) >>= frzX) >>= fun x => (((var 2) >>= frzX) >>= fun x => (pure []) >>= fun xs => pure (⟨.frz, x⟩ :: xs)) >>= fun xs => pure (⟨.frz, x⟩ :: xs))) >>= frzX) >>= fun x => (((excP "Broken" 2 [("shown", 0), ("index", 1)] (((var 2) >>= frzX) >>= fun x => (((var 1) >>= frzX) >>= fun x => (pure []) >>= fun xs => pure (⟨.frz, x⟩ :: xs)) >>= fun xs => pure (⟨.frz, x⟩ :: xs))) >>= frzX) >>= fun x => (pure []) >>= fun xs => pure (x :: xs)) >>= fun xs => pure (x :: xs)) >>= mkLst) >>= fun x => stX 7 x >>= fun _ => pure .nx)
    (seqM (((bin (lcM [8] (((var 7) >>= frzX) >>= fun d => opt (seqD d)) (fun d => st1 8 false d) (pure true) (((((var 8) >>= frzX) >>= fun x => (pure []) >>= fun xs => pure (⟨.frz, x⟩ :: xs)) >>= callN m__law_error) >>= frzX)) ((((cst (.str "Broken")) >>= frzX) >>= fun x => (((cst (.str "Broken")) >>= frzX) >>= fun x => (pure []) >>= fun xs => pure (x :: xs)) >>= fun xs => pure (x :: xs)) >>= mkLst) neD) >>= asB) >>= fun b => if b then ((cst (.bl false)) >>= fun x => pure (.rt x)) else (pure .nx))
    (seqM (((bin (blt ((lcM [8] (((var 7) >>= frzX) >>= fun d => opt (seqD d)) (fun d => st1 8 false d) (pure true) (((((var 8) >>= frzX) >>= fun x => (((cst (.str "Broken")) >>= frzX) >>= fun x => (pure []) >>= fun xs => pure (⟨.frz, x⟩ :: xs)) >>= fun xs => pure (⟨.frz, x⟩ :: xs)) >>= callN m__law_field) >>= frzX)) >>= fun x => (pure []) >>= fun xs => pure (x :: xs)) reprX) (blt ((((((((var 1) >>= frzX) >>= fun x => (((var 2) >>= frzX) >>= fun x => (pure []) >>= fun xs => pure (x :: xs)) >>= fun xs => pure (x :: xs)) >>= mkLst) >>= frzX) >>= fun x => ((((((var 1) >>= frzX) >>= fun x => (((var 2) >>= frzX) >>= fun x => (pure []) >>= fun xs => pure (x :: xs)) >>= fun xs => pure (x :: xs)) >>= mkLst) >>= frzX) >>= fun x => (pure []) >>= fun xs => pure (x :: xs)) >>= fun xs => pure (x :: xs)) >>= mkLst) >>= fun x => (pure []) >>= fun xs => pure (x :: xs)) reprX) neD) >>= asB) >>= fun b => if b then ((cst (.bl false)) >>= fun x => pure (.rt x)) else (pure .nx))
    ((bin ((((exc0 "NothingToUndo") >>= frzX) >>= fun x => (pure []) >>= fun xs => pure (⟨.frz, x⟩ :: xs)) >>= callN m__law_error) (cst (.str "NothingToUndo")) eqD) >>= fun x => pure (.rt x)))))))))))
def m__law_right : Mir := ⟨1, (some 0), fun ds O => bodyO (some 0) 9 (g__law_right FUEL) ds O⟩
theorem ok__law_right (B : Bt K w mg) (c__law_error : Callee P w K mg base "_law_error" 1 m__law_error) (c__law_errors : Callee P w K mg base "_law_errors" 3 m__law_errors) (c__law_field : Callee P w K mg base "_law_field" 1 m__law_field) (c__law_odd : Callee P w K mg base "_law_odd" 3 m__law_odd) (e0_Broken_shown_index : ExF P w K mg base "Broken" 0 ["shown", "index"] [("shown", 0), ("index", 1)] 1) (e2_Broken : ExF P w K mg base "Broken" 2 [] [("shown", 1), ("index", 0)] 1) (e_NothingToUndo : Ex0 K mg "NothingToUndo") {dvs : List V} {kws : List (Str × V)} {f : Addr} {fd : FuncData} (Fu : FunD K "_law_right" "_law_right" (defArgs s__law_right) (defBody s__law_right) (defScope s__law_right) dvs kws f fd) (hm : mg "_law_right" = some (.ref f)) (hk : PySem.W.keepIn K (.ref f) = true) (hb : Binds K fd ["_law_spring_here"] []) : Callee P w K mg base "_law_right" 4 m__law_right :=
  callee_mir (k := 3) (g := g__law_right) Fu hm hk hb sc__law_right rfl (by decide) (fun cdv A outer s H E hS n =>
    (dss_cons (ds_par 1 2 hS.calm sc__law_right.nd (das_cons (de_call hS.std c__law_odd (das_cons (de_var 0) das_nil)) (das_cons (de_call hS.std c__law_odd (das_cons (de_var 0) das_nil)) das_nil)) (hp := by show ∀ i ∈ [1, 2], i ∉ pinOf (some 0); decide))
    (dss_cons (ds_set 3 sc__law_right.nd (de_lst (dfs_cons (DF.of de_str) (dfs_cons (DF.of de_str) (dfs_cons (DF.of de_str) (dfs_cons (DF.of de_str) (dfs_cons (DF.of de_str) (dfs_cons (DF.of de_str) dfs_nil))))))) (hp := by show (3 : Nat) ∉ pinOf (some 0); decide))
    (dss_cons (ds_set 3 sc__law_right.nd (de_bi bi_add (de_var 3) (de_lst (dfs_cons (DF.of de_str) (dfs_cons (DF.of de_str) (dfs_cons (DF.of de_str) (dfs_cons (DF.of de_str) (dfs_cons (DF.of de_str) (dfs_cons (DF.of de_str) dfs_nil)))))))) (hp := by show (3 : Nat) ∉ pinOf (some 0); decide))
    (dss_cons (ds_set 3 sc__law_right.nd (de_bi bi_add (de_var 3) (de_lst (dfs_cons (DF.of de_str) (dfs_cons (DF.of de_str) (dfs_cons (DF.of de_str) dfs_nil))))) (hp := by show (3 : Nat) ∉ pinOf (some 0); decide))
    (dss_cons (ds_set 4 sc__law_right.nd (de_call hS.std c__law_errors (das_consF (DF.of (de_var 1)) das_nil)) (hp := by show (4 : Nat) ∉ pinOf (some 0); decide))
    (dss_cons (ds_for hS.po hS.calm (di_rng1 B.b_range (dfs_cons (DF.of (de_bltB cr_len (das_cons (de_var 4) das_nil) B.b_len bt_len)) dfs_nil)) (dg_name 5 sc__law_right.nd (hp := by show (5 : Nat) ∉ pinOf (some 0); decide)) (dss_cons (ds_set 6 sc__law_right.nd (de_call hS.std c__law_error (das_consF (DF.of (de_ixi (ix_any hS.std) (de_var 4) (de_var 5))) das_nil)) (hp := by show (6 : Nat) ∉ pinOf (some 0); decide))
    (dss_one (ds_if (PW.pt (dw_or (dt_ci (bi_ne hS.std) (de_var 6) (de_ixi (ix_any hS.std) (de_var 3) (de_bi bi_fdiv (de_var 5) de_int))) (dw_or1 (dt_ci (bi_ne hS.std) (de_bltB (cr_reprX hS.std B.sm) (das_cons (de_call hS.std c__law_field (das_consF (DF.of (de_ixi (ix_any hS.std) (de_var 4) (de_var 5))) (das_consF (DF.of (de_var 6)) das_nil))) das_nil) B.b_repr bt_repr) (de_bltB (cr_reprX hS.std B.sm) (das_cons (de_var 1) das_nil) B.b_repr bt_repr))))) (dss_one (ds_ret de_bl)) dss_nil))))
    (dss_cons (ds_set 7 sc__law_right.nd (de_lst (dfs_cons (DF.of (de_excP hS.std e2_Broken (das_consF (DF.of (de_var 1)) (das_consF (DF.of (de_var 2)) das_nil)))) (dfs_cons (DF.of (de_excK (ks := ["shown", "index"]) hS.std e0_Broken_shown_index (dk_consF (DF.of (de_var 2)) (dk_consF (DF.of (de_var 1)) dk_nil)))) dfs_nil))) (hp := by show (7 : Nat) ∉ pinOf (some 0); decide))
    (dss_cons (ds_if (dt_ci (bi_ne hS.std) (de_lc [("_law_each", 8)] hS.calm sc__law_right.nd (di_seq (DF.of (de_var 7))) (blkOk_by (by kernel_rfl)) (fun s2 H2 C2 cl2 fp2 => (dg_name 8 sc__law_right.nd (hp := by show (8 : Nat) ∉ bpin 9 [8]; decide))) (fun s2 H2 C2 cl2 fp2 => dts_nil) (fun s2 H2 C2 cl2 fp2 => (DF.of (de_call (hS.blk s2 H2 _ _ fp2).std c__law_error (das_consF (DF.of (de_var 8)) das_nil))))) (de_lst (dfs_cons (DF.of de_str) (dfs_cons (DF.of de_str) dfs_nil)))) (dss_one (ds_ret de_bl)) dss_nil)
    (dss_cons (ds_if (dt_ci (bi_ne hS.std) (de_bltB (cr_reprX hS.std B.sm) (das_cons (de_lc [("_law_each", 8)] hS.calm sc__law_right.nd (di_seq (DF.of (de_var 7))) (blkOk_by (by kernel_rfl)) (fun s1 H1 C1 cl1 fp1 => (dg_name 8 sc__law_right.nd (hp := by show (8 : Nat) ∉ bpin 9 [8]; decide))) (fun s1 H1 C1 cl1 fp1 => dts_nil) (fun s1 H1 C1 cl1 fp1 => (DF.of (de_call (hS.blk s1 H1 _ _ fp1).std c__law_field (das_consF (DF.of (de_var 8)) (das_consF (DF.of de_str) das_nil)))))) das_nil) B.b_repr bt_repr) (de_bltB (cr_reprX hS.std B.sm) (das_cons (de_lst (dfs_cons (DF.of (de_lst (dfs_cons (DF.of (de_var 1)) (dfs_cons (DF.of (de_var 2)) dfs_nil)))) (dfs_cons (DF.of (de_lst (dfs_cons (DF.of (de_var 1)) (dfs_cons (DF.of (de_var 2)) dfs_nil)))) dfs_nil))) das_nil) B.b_repr bt_repr)) (dss_one (ds_ret de_bl)) dss_nil)
    (dss_one (ds_ret (de_ci (bi_eq hS.std) (de_call hS.std c__law_error (das_consF (DF.of (de_exc0 e_NothingToUndo)) das_nil)) de_str))))))))))))) (fun ds O _ _ => ⟨FUEL, rfl⟩)
abbrev s_law : Stmt := topS 37
theorem sc_law : FnScope ["_law_script", "_law_told", "_law_bases", "_law_k"] ["_law_script"] (defScope s_law) := ⟨rfl, rfl, rfl, by decide +kernel, rfl, by decide +kernel, by decide +kernel⟩
def g_law (n : Nat) : Mm Fl := (seqM (((((cst (.int 8)) >>= frzX) >>= fun x => (((cst (.int 4)) >>= frzX) >>= fun x => (((cst (.int 2)) >>= frzX) >>= fun x => (((cst (.int 8)) >>= frzX) >>= fun x => (((cst (.int 60)) >>= frzX) >>= fun x => (((cst (.int 30)) >>= frzX) >>= fun x => (((cst (.int 6)) >>= frzX) >>= fun x => (pure []) >>= fun xs => pure (x :: xs)) >>= fun xs => pure (x :: xs)) >>= fun xs => pure (x :: xs)) >>= fun xs => pure (x :: xs)) >>= fun xs => pure (x :: xs)) >>= fun xs => pure (x :: xs)) >>= fun xs => pure (x :: xs)) >>= mkLst) >>= fun x => stX 1 x >>= fun _ => pure .nx)
    (seqM (((bin (blt ((var 1) >>= fun x => (pure []) >>= fun xs => pure (x :: xs)) reprB) (blt (((((cst (.int 8)) >>= frzX) >>= fun x => (((cst (.int 4)) >>= frzX) >>= fun x => (((cst (.int 2)) >>= frzX) >>= fun x => (((cst (.int 8)) >>= frzX) >>= fun x => (((cst (.int 60)) >>= frzX) >>= fun x => (((cst (.int 30)) >>= frzX) >>= fun x => (((cst (.int 6)) >>= frzX) >>= fun x => (pure []) >>= fun xs => pure (x :: xs)) >>= fun xs => pure (x :: xs)) >>= fun xs => pure (x :: xs)) >>= fun xs => pure (x :: xs)) >>= fun xs => pure (x :: xs)) >>= fun xs => pure (x :: xs)) >>= fun xs => pure (x :: xs)) >>= mkLst) >>= fun x => (pure []) >>= fun xs => pure (x :: xs)) reprB) neD) >>= asB) >>= fun b => if b then ((cst (.bl false)) >>= fun x => pure (.rt x)) else (pure .nx))
    (seqM ((((((exc0 "WrongValue") >>= fun x => rd x >>= fun d => isiX ix_ValueError d) >>= frzX) >>= fun x => ((((exc0 "WrongName") >>= fun x => rd x >>= fun d => isiX ix_LookupError d) >>= frzX) >>= fun x => (pure []) >>= fun xs => pure (x :: xs)) >>= fun xs => pure (x :: xs)) >>= mkLst) >>= fun x => stX 2 x >>= fun _ => pure .nx)
    (seqM ((bin (var 2) (((((exc0 "NoAnswer") >>= fun x => rd x >>= fun d => isiX ix_ArithmeticError d) >>= frzX) >>= fun x => ((((exc0 "NoAnswer") >>= fun x => rd x >>= fun d => isiX ix_WrongValue d) >>= frzX) >>= fun x => (pure []) >>= fun xs => pure (x :: xs)) >>= fun xs => pure (x :: xs)) >>= mkLst) addD) >>= fun x => stX 2 x >>= fun _ => pure .nx)
    (seqM (((bin (var 2) ((((cst (.bl true)) >>= frzX) >>= fun x => (((cst (.bl true)) >>= frzX) >>= fun x => (((cst (.bl true)) >>= frzX) >>= fun x => (((cst (.bl false)) >>= frzX) >>= fun x => (pure []) >>= fun xs => pure (x :: xs)) >>= fun xs => pure (x :: xs)) >>= fun xs => pure (x :: xs)) >>= fun xs => pure (x :: xs)) >>= mkLst) neD) >>= asB) >>= fun b => if b then ((cst (.bl false)) >>= fun x => pure (.rt x)) else (pure .nx))
    ((blt ((lcM [3] ((((blt ((cst (.int 2)) >>= fun x => ((blt ((blt ((var 0) >>= fun x => (pure []) >>= fun xs => pure (x :: xs)) lenB) >>= fun x => ((cst (.int 4)) >>= fun x => (pure []) >>= fun xs => pure (x :: xs)) >>= fun xs => pure (x :: xs)) minB) >>= fun x => (pure []) >>= fun xs => pure (x :: xs)) >>= fun xs => pure (x :: xs)) maxB) >>= frzX) >>= fun x => (pure []) >>= fun xs => pure (x :: xs)) >>= fun ds => opt (rng1 ds)) (fun d => st1 3 false d) (pure true) (((((((var 0) >>= frzX) >>= fun x => (((var 3) >>= frzX) >>= fun x => (pure []) >>= fun xs => pure (⟨.frz, x⟩ :: xs)) >>= fun xs => pure (⟨.frz, x⟩ :: xs)) >>= callN m__law_spring) >>= fun x => (pure []) >>= fun xs => pure (x :: xs)) >>= callN m__law_right) >>= frzX)) >>= fun x => (pure []) >>= fun xs => pure (x :: xs)) allB) >>= fun x => pure (.rt x)))))))
def m_law : Mir := ⟨1, none, fun ds O => bodyO none 4 (g_law FUEL) ds O⟩
theorem ok_law (B : Bt K w mg) (c__law_right : Callee P w K mg base "_law_right" 4 m__law_right) (c__law_spring : Callee P w K mg base "_law_spring" 1 m__law_spring) (e_NoAnswer : Ex0 K mg "NoAnswer") (e_WrongName : Ex0 K mg "WrongName") (e_WrongValue : Ex0 K mg "WrongValue") {dvs : List V} {kws : List (Str × V)} {f : Addr} {fd : FuncData} (Fu : FunD K "law" "law" (defArgs s_law) (defBody s_law) (defScope s_law) dvs kws f fd) : FnG P w K mg base 5 f fd ["_law_script"] (spM K mg m_law) :=
  fn_mir (k := 4) (g := g_law) Fu sc_law rfl (by decide) (fun cdv A outer s H E hS n =>
    (dss_cons (ds_set 1 sc_law.nd (de_lst (dfs_cons (DF.of (de_gI B.i_MOST_ROWS)) (dfs_cons (DF.of (de_gI B.i_MOST_TIMES)) (dfs_cons (DF.of (de_gI B.i_MOST_FULL)) (dfs_cons (DF.of (de_gI B.i_MOST_WIDE)) (dfs_cons (DF.of (de_gI B.i_MOST_TOLD)) (dfs_cons (DF.of (de_gI B.i_MOST_BITS)) (dfs_cons (DF.of (de_gI B.i_MOST_EXCHANGES)) dfs_nil)))))))) (hp := by show (1 : Nat) ∉ pinOf none; decide))
    (dss_cons (ds_if (dt_ci (bi_ne hS.std) (de_bltB (cr_repr hS.std) (das_cons (de_var 1) das_nil) B.b_repr bt_repr) (de_bltB (cr_repr hS.std) (das_cons (de_lst (dfs_cons (DF.of de_int) (dfs_cons (DF.of de_int) (dfs_cons (DF.of de_int) (dfs_cons (DF.of de_int) (dfs_cons (DF.of de_int) (dfs_cons (DF.of de_int) (dfs_cons (DF.of de_int) dfs_nil)))))))) das_nil) B.b_repr bt_repr)) (dss_one (ds_ret de_bl)) dss_nil)
    (dss_cons (ds_set 2 sc_law.nd (de_lst (dfs_cons (DF.of (de_isiX (de_exc0 e_WrongValue) rfl B.b_isinstance B.ix_ValueError)) (dfs_cons (DF.of (de_isiX (de_exc0 e_WrongName) rfl B.b_isinstance B.ix_LookupError)) dfs_nil))) (hp := by show (2 : Nat) ∉ pinOf none; decide))
    (dss_cons (ds_set 2 sc_law.nd (de_bi bi_add (de_var 2) (de_lst (dfs_cons (DF.of (de_isiX (de_exc0 e_NoAnswer) rfl B.b_isinstance B.ix_ArithmeticError)) (dfs_cons (DF.of (de_isiX (de_exc0 e_NoAnswer) rfl B.b_isinstance B.ix_WrongValue)) dfs_nil)))) (hp := by show (2 : Nat) ∉ pinOf none; decide))
    (dss_cons (ds_if (dt_ci (bi_ne hS.std) (de_var 2) (de_lst (dfs_cons (DF.of de_bl) (dfs_cons (DF.of de_bl) (dfs_cons (DF.of de_bl) (dfs_cons (DF.of de_bl) dfs_nil)))))) (dss_one (ds_ret de_bl)) dss_nil)
    (dss_one (ds_ret (de_bltB (cr_allB hS.calm) (das_cons (de_lc [("_law_k", 3)] hS.calm sc_law.nd (di_rng1 B.b_range (dfs_cons (DF.of (de_bltB (cr_maxB hS.calm) (das_cons de_int (das_cons (de_bltB (cr_minB hS.calm) (das_cons (de_bltB cr_len (das_cons (de_var 0) das_nil) B.b_len bt_len) (das_cons de_int das_nil)) B.b_min bt_min) das_nil)) B.b_max bt_max)) dfs_nil)) (blkOk_by (by kernel_rfl)) (fun s3 H3 C3 cl3 fp3 => (dg_name 3 sc_law.nd (hp := by show (3 : Nat) ∉ bpin 4 [3]; decide))) (fun s3 H3 C3 cl3 fp3 => dts_nil) (fun s3 H3 C3 cl3 fp3 => (DF.of (de_call (hS.blk s3 H3 _ _ fp3).std c__law_right (das_cons (de_call (hS.blk s3 H3 _ _ fp3).std c__law_spring (das_consF (DF.of (de_var 0)) (das_consF (DF.of (de_var 3)) das_nil))) das_nil))))) das_nil) B.b_all bt_all))))))))) (fun ds O _ _ => ⟨FUEL, rfl⟩)
end

end LW
namespace LW
open PySem PySem.Spec PyProof.Rows L2 DV
/-- a spring from which n numbers more may be drawn -/
def Spr (n : Nat) (d : D) : Prop := ∃ a b c : Int, d = .lst [.int a, .int b, .int c] ∧ 0 ≤ a ∧ 0 ≤ b ∧ b < 2147483647 ∧ 0 ≤ c ∧ c + n ≤ 1000000000
theorem Spr.mono {n m : Nat} {d : D} (h : Spr n d) (hm : m ≤ n) : Spr m d := by
  obtain ⟨a, b, c, e, h1, h2, h3, h4, h5⟩ := h
  exact ⟨a, b, c, e, h1, h2, h3, h4, by omega⟩
theorem log2_le {x : Int} {k : Nat} (h0 : 0 ≤ x) (h : x < 2 ^ k) : x.natAbs.log2 ≤ k := by
  by_cases e : x.natAbs = 0
  · rw [e]; simp
  · have : x.natAbs < 2 ^ k := by
      have : (x.natAbs : Int) < 2 ^ k := by rw [Int.natAbs_of_nonneg h0]; exact h
      exact_mod_cast this
    have := (Nat.log2_lt e).2 this
    omega
theorem okMul_of {x y : Int} (k l : Nat) (hx0 : 0 ≤ x) (hx : x < 2 ^ k) (hy0 : 0 ≤ y) (hy : y < 2 ^ l) (hk : k + l < 1000000) : okMul x y = true := by
  unfold okMul
  have a := log2_le hx0 hx
  have b := log2_le hy0 hy
  exact decide_eq_true (by omega)
theorem okDiv_of {y : Int} (k : Nat) (hy0 : 0 < y) (hy : y < 2 ^ k) (hk : k < 9000) : okDiv y = true := by
  unfold okDiv
  have b := log2_le (by omega : 0 ≤ y) hy
  exact decide_eq_true ⟨hy0, by omega⟩
theorem s_draw {sp : D} {m : Nat} {n : Int} {O : Ob} (hs : Spr (m + 1) sp) (hn : 0 < n) (hn2 : n < 2 ^ 200) : Ret m__law_draw [sp, .int n] O fun own d sp' O' => own = false ∧ (∃ k, d = .int k ∧ 0 ≤ k ∧ k < n) ∧ Spr m sp' ∧ O' = O := by
  obtain ⟨a, b, c, rfl, ha, hb, hb2, hc, hc2⟩ := hs
  refine ret_body ?_
  unfold g__law_draw
  simp only [argS, List.mapIdx_cons, List.mapIdx_nil]
  have o1 : okMul b 69621 = true := okMul_of 31 17 hb (by omega) (by omega) (by omega) (by omega)
  have o2 : okMul 40503 (c + 1) = true := okMul_of 16 30 (by omega) (by omega) (by omega) (by omega) (by omega)
  have o3 : okDiv n = true := okDiv_of 200 hn hn2 (by omega)
  have e1 : 0 ≤ (b * 69621 + 40503 * (c + 1) + 1) % 2147483647 := Int.emod_nonneg _ (by omega)
  have e2 : (b * 69621 + 40503 * (c + 1) + 1) % 2147483647 < 2147483647 := Int.emod_lt_of_pos _ (by omega)
  have o4 : okMul ((b * 69621 + 40503 * (c + 1) + 1) % 2147483647 + 12345) ((b * 69621 + 40503 * (c + 1) + 1) % 2147483647) = true := okMul_of 32 31 (by omega) (by omega) (by omega) (by omega) (by omega)
  have o5 : okDiv 256 = true := by decide
  simp! [o1, o2, o3, o4, o5, decide_eq_true_eq]
  generalize (b * 69621 + 40503 * (c + 1) + 1) % 2147483647 = b' at *
  by_cases h : 0 < a
  · rw [if_pos h]
    exact ⟨trivial, ⟨_, rfl, Int.emod_nonneg _ (by omega), Int.emod_lt_of_pos _ hn⟩, ⟨_, _, _, rfl, Int.ediv_nonneg ha (by omega), e1, e2, by omega, by omega⟩, trivial⟩
  · rw [if_neg h, if_pos hn]
    exact ⟨trivial, ⟨_, rfl, Int.emod_nonneg _ (by omega), Int.emod_lt_of_pos _ hn⟩, ⟨_, _, _, rfl, ha, e1, e2, by omega, by omega⟩, trivial⟩
/-- one of a menu -/
theorem s_of {sp : D} {m : Nat} {ds : List D} {O : Ob} (hs : Spr (m + 1) sp) (hn : ds ≠ []) (hn2 : ds.length ≤ 100000) : Ret m__law_of [sp, .lst ds] O fun own d sp' O' => own = false ∧ d ∈ ds ∧ Spr m sp' ∧ O' = O := by
  refine ret_body ?_
  unfold g__law_of
  simp only [argS, List.mapIdx_cons, List.mapIdx_nil]
  simp! [lenO]
  have hl : 0 < ds.length := List.length_pos_iff.2 hn
  refine wp_callS rfl rfl rfl rfl (Ret.imp (s_draw hs (by omega) (by omega)) ?_)
  rintro own d sp' O' ⟨rfl, ⟨k, rfl, hk0, hk⟩, hs', rfl⟩
  obtain ⟨x, e, hx⟩ := atI_mem hk0 hk
  simp! [e]
  exact ⟨trivial, hx, hs', trivial⟩
theorem okMul_abs {x y : Int} (k l : Nat) (hx : x.natAbs < 2 ^ k) (hy : y.natAbs < 2 ^ l) (hk : k + l < 1000000) : okMul x y = true := by
  unfold okMul
  have a : x.natAbs.log2 ≤ k := by
    by_cases e : x.natAbs = 0
    · rw [e]; simp
    · have := (Nat.log2_lt e).2 hx
      omega
  have b : y.natAbs.log2 ≤ l := by
    by_cases e : y.natAbs = 0
    · rw [e]; simp
    · have := (Nat.log2_lt e).2 hy
      omega
  exact decide_eq_true (by omega)
theorem cut8 (ns : List Int) : (cutA ns none (some 8)).length ≤ 8 := by
  unfold cutA
  rw [List.length_take]
  show min (HT.sIx ns.length ns.length (some 8) - _) _ ≤ 8
  have : HT.sIx ns.length ns.length (some 8) ≤ 8 := by
    show (if (8 : Int) < 0 then ((8 : Int) + (ns.length : Int)).toNat else min (8 : Int).toNat ns.length) ≤ 8
    rw [if_neg (by omega)]
    omega
  omega
theorem pow18 : powD (.int 10) (.int 18) = pure (fl (.int 1000000000000000000)) := rfl
set_option maxHeartbeats 1000000 in
theorem s_spring {ns : List Int} {k : Int} {O : Ob} (hk0 : 0 ≤ k) (hk : k ≤ 5) : Ret m__law_spring [.scr ns, .int k] O fun own d _ O' => own = true ∧ Spr 1000 d ∧ O' = O := by
  refine ret_b none 5 (g__law_spring FUEL) (fun _ _ => rfl) ?_
  unfold g__law_spring
  simp only [argS, List.mapIdx_cons, List.mapIdx_nil]
  have o1 : okMul 7 k = true := okMul_abs 10 10 (by omega) (by omega) (by omega)
  have o2 : okMul 7919 k = true := okMul_abs 20 10 (by omega) (by omega) (by omega)
  have o3 : okMul 11 k = true := okMul_abs 10 10 (by omega) (by omega) (by omega)
  simp! [lenO, o1]
  have hc := cut8 ns
  have c1 : (cutA ns none (some 8)).length ≤ 16777215 := by omega
  have sq : ∀ l : List D, seqD (.lst l) = some l := fun _ => rfl
  by_cases h : k < (ns.length : Int)
  · have h' : decide (k < (ns.length : Int)) = true := decide_eq_true h
    obtain ⟨cell, e, _⟩ := atI_mem (xs := ns) hk0 h
    have e2 : ixO (.scr ns) (.int k) = some (.int cell) := by
      show (atI ns k).map D.int = _
      rw [e]
      rfl
    simp! [h', h, e2, o2, wp_slN (τ := _ :: _), List.length_map, c1, sq]
    refine wp_for (fun pre τ O' => ∃ b z, τ = [some (false, .scr ns), some (false, .int k), some (false, .int cell), some (false, .int b), z] ∧ O' = O ∧ 0 ≤ b ∧ b < 2147483647) ⟨_, _, rfl, rfl, by omega, by omega⟩ ?_ ?_
    · rintro pre d post τ2 O2 hd ⟨b, z, rfl, rfl, hb0, hb⟩
      obtain ⟨e, rfl⟩ : ∃ e, d = .int e := by
        have : d ∈ (cutA ns none (some 8)).map D.int ++ [D.int cell] := by rw [hd]; simp
        rcases List.mem_append.1 this with h | h
        · obtain ⟨x, _, rfl⟩ := List.mem_map.1 h
          exact ⟨x, rfl⟩
        · exact ⟨cell, List.mem_singleton.1 h⟩
      have o4 : okMul b 48271 = true := okMul_abs 31 20 (by omega) (by omega) (by omega)
      simp! [o3, o4]
      exact ⟨_, _, rfl, trivial, Int.emod_nonneg _ (by omega), Int.emod_lt_of_pos _ (by omega)⟩
    · rintro τ2 O2 ⟨b, z, rfl, rfl, hb0, hb⟩
      simp! [pow18]
      by_cases h1 : cell < 0
      · have h1' : decide (cell < 0) = true := decide_eq_true h1
        simp! [h1', h1]
        exact ⟨trivial, ⟨_, _, _, rfl, by omega, hb0, hb, by omega, by omega⟩, trivial⟩
      · have h1' : decide (cell < 0) = false := decide_eq_false h1
        by_cases h2 : 1000000000000000000 ≤ cell
        · have h2' : decide (1000000000000000000 ≤ cell) = true := decide_eq_true h2
          simp! [h1', h1, h2', h2]
          exact ⟨trivial, ⟨_, _, _, rfl, by omega, hb0, hb, by omega, by omega⟩, trivial⟩
        · have h2' : decide (1000000000000000000 ≤ cell) = false := decide_eq_false h2
          simp! [h1', h1, h2', h2]
          exact ⟨trivial, ⟨_, _, _, rfl, by omega, hb0, hb, by omega, by omega⟩, trivial⟩
  · have h' : decide (k < (ns.length : Int)) = false := decide_eq_false h
    simp! [h', h, o2, wp_slN (τ := _ :: _), List.length_map, c1, sq]
    generalize 7 * k + 2 = cell
    refine wp_for (fun pre τ O' => ∃ b z, τ = [some (false, .scr ns), some (false, .int k), some (false, .int cell), some (false, .int b), z] ∧ O' = O ∧ 0 ≤ b ∧ b < 2147483647) ⟨_, _, rfl, rfl, by omega, by omega⟩ ?_ ?_
    · rintro pre d post τ2 O2 hd ⟨b, z, rfl, rfl, hb0, hb⟩
      obtain ⟨e, rfl⟩ : ∃ e, d = .int e := by
        have : d ∈ (cutA ns none (some 8)).map D.int ++ [D.int cell] := by rw [hd]; simp
        rcases List.mem_append.1 this with h | h
        · obtain ⟨x, _, rfl⟩ := List.mem_map.1 h
          exact ⟨x, rfl⟩
        · exact ⟨cell, List.mem_singleton.1 h⟩
      have o4 : okMul b 48271 = true := okMul_abs 31 20 (by omega) (by omega) (by omega)
      simp! [o3, o4]
      exact ⟨_, _, rfl, trivial, Int.emod_nonneg _ (by omega), Int.emod_lt_of_pos _ (by omega)⟩
    · rintro τ2 O2 ⟨b, z, rfl, rfl, hb0, hb⟩
      simp! [pow18]
      by_cases h1 : cell < 0
      · have h1' : decide (cell < 0) = true := decide_eq_true h1
        simp! [h1', h1]
        exact ⟨trivial, ⟨_, _, _, rfl, by omega, hb0, hb, by omega, by omega⟩, trivial⟩
      · have h1' : decide (cell < 0) = false := decide_eq_false h1
        by_cases h2 : 1000000000000000000 ≤ cell
        · have h2' : decide (1000000000000000000 ≤ cell) = true := decide_eq_true h2
          simp! [h1', h1, h2', h2]
          exact ⟨trivial, ⟨_, _, _, rfl, by omega, hb0, hb, by omega, by omega⟩, trivial⟩
        · have h2' : decide (1000000000000000000 ≤ cell) = false := decide_eq_false h2
          simp! [h1', h1, h2', h2]
          exact ⟨trivial, ⟨_, _, _, rfl, by omega, hb0, hb, by omega, by omega⟩, trivial⟩
theorem asBls_rep (b : Bool) : ∀ k : Nat, asBls (List.replicate k (D.bl b)) = some (List.replicate k b)
  | 0 => rfl
  | k + 1 => by
    show (match asBls (List.replicate k (D.bl b)) with | some ns => some (b :: ns) | none => none) = _
    rw [asBls_rep b k]
    rfl
theorem wp_any0 {k : Nat} {τ : Sto} {O : Ob} {Q : Ex → Sto → Ob → Prop} : Wp (anyB [.lst (List.replicate k (D.bl false))]) τ O Q = Q ⟨.frz, .bl false⟩ τ O := by
  show Wp (opt (asBls (List.replicate k (D.bl false))) >>= fun bs => blE (bs.any id)) τ O Q = _
  rw [asBls_rep, wp_bind, wp_opt]
  show Q ⟨.frz, .bl ((List.replicate k false).any id)⟩ τ O = _
  have : (List.replicate k false).any id = false := by simp
  rw [this]
theorem wp_all1 {k : Nat} {τ : Sto} {O : Ob} {Q : Ex → Sto → Ob → Prop} : Wp (allB [.lst (List.replicate k (D.bl true))]) τ O Q = Q ⟨.frz, .bl true⟩ τ O := by
  show Wp (opt (asBls (List.replicate k (D.bl true))) >>= fun bs => blE (bs.all id)) τ O Q = _
  rw [asBls_rep, wp_bind, wp_opt]
  show Q ⟨.frz, .bl ((List.replicate k true).all id)⟩ τ O = _
  have : (List.replicate k true).all id = true := by simp
  rw [this]
theorem pow39 : powD (.int 10) (.int 39) = pure (fl (.int 1000000000000000000000000000000000000000)) := rfl
def odds : List D := [.non, .bl true, .bl false, .int 0, .int 1, .int (-1), .int 7, .int 1000000000000000000000000000000000000000, .str "", .str "a", .str "01", .str "take", .str "again", .str "go 0", .str "give c", .str "012",
  .str "even", .str "inside", .str "alike", .tup [], .tup [.int 0], .tup [.int 1], .tup [.int 0, .int 0], .tup [.int 0, .int 1], .tup [.str "alike", .str "a"], .tup [.str "even", .str "a"],
  .tup [.str "alike", .str "a", .str "a"], .lst [], .lst [.int 0], .lst [.str "take"], .dct false [], .dct false [(.str "a", .int 0)], .tup [.lst []], .tup [.non], .tup [.tup []], .tup [.str "even"], .tup [.int 0, .str "again"]]
theorem s_odd {sp : D} {m : Nat} {O : Ob} (hs : Spr (m + 1) sp) : Ret m__law_odd [sp] O fun own d sp' O' => own = false ∧ d ∈ odds ∧ Spr m sp' ∧ O' = O := by
  refine ret_b (some 0) 2 (g__law_odd FUEL) (fun _ _ => rfl) ?_
  unfold g__law_odd
  simp only [argS, List.mapIdx_cons, List.mapIdx_nil]
  have dk : ∀ {τ : Sto} {O : Ob} {Q : Ex → Sto → Ob → Prop}, Wp (dispK1 (cst (.str "a") >>= frzX) (cst (.int 0) >>= frzX)) τ O Q = Q ⟨.tmp, .dct false [(.str "a", .int 0)]⟩ τ O := rfl
  simp! [pow39, dk]
  refine wp_callS rfl rfl rfl rfl (Ret.imp (s_of hs (by simp) (by simp)) ?_)
  rintro own d sp' O' ⟨rfl, hd, hs', rfl⟩
  simp!
  refine ⟨trivial, ?_, hs', trivial⟩
  exact hd
end LW
namespace LW
open PySem PySem.Spec PyProof.Rows L2 DV
/-- the classes with one field -/
def P1 : List (Str × Str) := [("InvalidNumber", "given"), ("InvalidWell", "given"), ("InvalidBits", "given"), ("InvalidCourse", "given"), ("InvalidText", "given"), ("InvalidName", "given"), ("InvalidWish", "given"), ("NotAProgram", "given"),
  ("InvalidRows", "index"), ("InvalidExchanges", "index"), ("InvalidWishes", "index"), ("UnknownName", "given"), ("InUse", "index"), ("TooWide", "given"), ("Ended", "end")]
def ErrC (m : Mir) (c : Str) : Prop := ∀ (fs : List (Str × D)) (O : Ob), m.fn [.obj c fs] O = .ret false (.str c) .non O
def FldC (m : Mir) (c f : Str) : Prop := ∀ (d : D) (O : Ob), m.fn [.obj c [(f, d)], .str c] O = .ret false d .non O
def FldB (m : Mir) : Prop := ∀ (d e : D) (O : Ob), m.fn [.obj "Broken" [("shown", e), ("index", d)], .str "Broken"] O = .ret true (.lst [d, e]) .non O
def RetC (m : Mir) (c : Str) : Prop := ∀ (fs : List (Str × D)) (O : Ob), Ret m [.obj c fs] O fun w d _ O' => w = false ∧ d = .str c ∧ O' = O
def RetF (m : Mir) (c f : Str) : Prop := ∀ (d : D) (O : Ob), Ret m [.obj c [(f, d)], .str c] O fun w e _ O' => w = false ∧ e = d ∧ O' = O
def RetB (m : Mir) : Prop := ∀ (d e : D) (O : Ob), Ret m [.obj "Broken" [("shown", e), ("index", d)], .str "Broken"] O fun w x _ O' => w = true ∧ x = .lst [d, e] ∧ O' = O
theorem ret_is {m : Mir} {ds : List D} {O : Ob} {own : Bool} {x io : D} (e : m.fn ds O = .ret own x io O) : Ret m ds O fun w d _ O' => w = own ∧ d = x ∧ O' = O := Ret.of e (And.intro (Eq.refl _) (And.intro (Eq.refl _) (Eq.refl _)))
theorem ErrC.ret {m : Mir} {c : Str} (h : ErrC m c) : RetC m c := fun fs O => ret_is (h fs O)
theorem FldC.ret {m : Mir} {c f : Str} (h : FldC m c f) : RetF m c f := fun d O => ret_is (h d O)
theorem FldB.ret {m : Mir} (h : FldB m) : RetB m := fun d e O => ret_is (h d e O)
theorem er_InvalidNumber : ErrC m__law_error "InvalidNumber" := fun fs O => by kernel_rfl
theorem er_InvalidWell : ErrC m__law_error "InvalidWell" := fun fs O => by kernel_rfl
theorem er_InvalidBits : ErrC m__law_error "InvalidBits" := fun fs O => by kernel_rfl
theorem er_InvalidCourse : ErrC m__law_error "InvalidCourse" := fun fs O => by kernel_rfl
theorem er_InvalidText : ErrC m__law_error "InvalidText" := fun fs O => by kernel_rfl
theorem er_InvalidName : ErrC m__law_error "InvalidName" := fun fs O => by kernel_rfl
theorem er_InvalidWish : ErrC m__law_error "InvalidWish" := fun fs O => by kernel_rfl
theorem er_NotAProgram : ErrC m__law_error "NotAProgram" := fun fs O => by kernel_rfl
theorem er_InvalidRows : ErrC m__law_error "InvalidRows" := fun fs O => by kernel_rfl
theorem er_InvalidExchanges : ErrC m__law_error "InvalidExchanges" := fun fs O => by kernel_rfl
theorem er_InvalidWishes : ErrC m__law_error "InvalidWishes" := fun fs O => by kernel_rfl
theorem er_UnknownName : ErrC m__law_error "UnknownName" := fun fs O => by kernel_rfl
theorem er_InUse : ErrC m__law_error "InUse" := fun fs O => by kernel_rfl
theorem er_TooWide : ErrC m__law_error "TooWide" := fun fs O => by kernel_rfl
theorem er_Ended : ErrC m__law_error "Ended" := fun fs O => by kernel_rfl
theorem er_Broken : ErrC m__law_error "Broken" := fun fs O => by kernel_rfl
theorem er_NothingToUndo : ErrC m__law_error "NothingToUndo" := fun fs O => by kernel_rfl
theorem fd_InvalidNumber : FldC m__law_field "InvalidNumber" "given" := fun d O => by kernel_rfl
theorem fd_InvalidWell : FldC m__law_field "InvalidWell" "given" := fun d O => by kernel_rfl
theorem fd_InvalidBits : FldC m__law_field "InvalidBits" "given" := fun d O => by kernel_rfl
theorem fd_InvalidCourse : FldC m__law_field "InvalidCourse" "given" := fun d O => by kernel_rfl
theorem fd_InvalidText : FldC m__law_field "InvalidText" "given" := fun d O => by kernel_rfl
theorem fd_InvalidName : FldC m__law_field "InvalidName" "given" := fun d O => by kernel_rfl
theorem fd_InvalidWish : FldC m__law_field "InvalidWish" "given" := fun d O => by kernel_rfl
theorem fd_NotAProgram : FldC m__law_field "NotAProgram" "given" := fun d O => by kernel_rfl
theorem fd_InvalidRows : FldC m__law_field "InvalidRows" "index" := fun d O => by kernel_rfl
theorem fd_InvalidExchanges : FldC m__law_field "InvalidExchanges" "index" := fun d O => by kernel_rfl
theorem fd_InvalidWishes : FldC m__law_field "InvalidWishes" "index" := fun d O => by kernel_rfl
theorem fd_UnknownName : FldC m__law_field "UnknownName" "given" := fun d O => by kernel_rfl
theorem fd_InUse : FldC m__law_field "InUse" "index" := fun d O => by kernel_rfl
theorem fd_TooWide : FldC m__law_field "TooWide" "given" := fun d O => by kernel_rfl
theorem fd_Ended : FldC m__law_field "Ended" "end" := fun d O => by kernel_rfl
theorem fd_Broken : FldB m__law_field := fun d e O => by kernel_rfl
def ErrOk (p : Str × Str) : Prop := ErrC m__law_error p.1
def FldOk (p : Str × Str) : Prop := FldC m__law_field p.1 p.2
theorem err_all : ∀ p ∈ P1, ErrOk p := List.forall_mem_cons.2 ⟨er_InvalidNumber, List.forall_mem_cons.2 ⟨er_InvalidWell, List.forall_mem_cons.2 ⟨er_InvalidBits, List.forall_mem_cons.2 ⟨er_InvalidCourse, List.forall_mem_cons.2 ⟨er_InvalidText, List.forall_mem_cons.2 ⟨er_InvalidName, List.forall_mem_cons.2 ⟨er_InvalidWish, List.forall_mem_cons.2 ⟨er_NotAProgram, List.forall_mem_cons.2 ⟨er_InvalidRows, List.forall_mem_cons.2 ⟨er_InvalidExchanges, List.forall_mem_cons.2 ⟨er_InvalidWishes, List.forall_mem_cons.2 ⟨er_UnknownName, List.forall_mem_cons.2 ⟨er_InUse, List.forall_mem_cons.2 ⟨er_TooWide, List.forall_mem_cons.2 ⟨er_Ended, fun _ h => (List.not_mem_nil h).elim⟩⟩⟩⟩⟩⟩⟩⟩⟩⟩⟩⟩⟩⟩⟩
theorem fld_all : ∀ p ∈ P1, FldOk p := List.forall_mem_cons.2 ⟨fd_InvalidNumber, List.forall_mem_cons.2 ⟨fd_InvalidWell, List.forall_mem_cons.2 ⟨fd_InvalidBits, List.forall_mem_cons.2 ⟨fd_InvalidCourse, List.forall_mem_cons.2 ⟨fd_InvalidText, List.forall_mem_cons.2 ⟨fd_InvalidName, List.forall_mem_cons.2 ⟨fd_InvalidWish, List.forall_mem_cons.2 ⟨fd_NotAProgram, List.forall_mem_cons.2 ⟨fd_InvalidRows, List.forall_mem_cons.2 ⟨fd_InvalidExchanges, List.forall_mem_cons.2 ⟨fd_InvalidWishes, List.forall_mem_cons.2 ⟨fd_UnknownName, List.forall_mem_cons.2 ⟨fd_InUse, List.forall_mem_cons.2 ⟨fd_TooWide, List.forall_mem_cons.2 ⟨fd_Ended, fun _ h => (List.not_mem_nil h).elim⟩⟩⟩⟩⟩⟩⟩⟩⟩⟩⟩⟩⟩⟩⟩
/-- both forms of each -/
def someD (d : D) : List D := P1.flatMap fun p => [.obj p.1 [(p.2, d)], .obj p.1 [(p.2, d)]]
theorem someD_at (d : D) {k : Nat} (h : k < 30) : ∃ p, p ∈ P1 ∧ P1[k / 2]? = some p ∧ (someD d)[k]? = some (.obj p.1 [(p.2, d)]) := by
  have hl : k / 2 < P1.length := by show k / 2 < 15; omega
  refine ⟨P1[k / 2], List.getElem_mem hl, List.getElem?_eq_getElem hl, ?_⟩
  have cs : k = 0 ∨ k = 1 ∨ k = 2 ∨ k = 3 ∨ k = 4 ∨ k = 5 ∨ k = 6 ∨ k = 7 ∨ k = 8 ∨ k = 9 ∨ k = 10 ∨ k = 11 ∨ k = 12 ∨ k = 13 ∨ k = 14 ∨ k = 15 ∨ k = 16 ∨ k = 17 ∨ k = 18 ∨ k = 19 ∨ k = 20 ∨ k = 21 ∨ k = 22 ∨ k = 23 ∨ k = 24 ∨ k = 25 ∨ k = 26 ∨ k = 27 ∨ k = 28 ∨ k = 29 := by omega
  rcases cs with rfl | rfl | rfl | rfl | rfl | rfl | rfl | rfl | rfl | rfl | rfl | rfl | rfl | rfl | rfl | rfl | rfl | rfl | rfl | rfl | rfl | rfl | rfl | rfl | rfl | rfl | rfl | rfl | rfl | rfl <;> rfl
def SomeOk : Prop := ∀ (d : D) (O : Ob), m__law_errors.fn [d] O = .ret true (.lst (someD d)) .non O
theorem some_ok : SomeOk := fun d O => by kernel_rfl
theorem shx_odd : (odds.all (shxB 3 100)) = true := by decide +kernel
end LW
namespace LW
open PySem PySem.Spec PyProof.Rows L2 DV
theorem wp_rx {d : D} {τ : Sto} {O : Ob} {Q : Ex → Sto → Ob → Prop} {z : Str} (h : rShownX d = some z) : Wp (reprX [d]) τ O Q = Q ⟨.frz, .str z⟩ τ O := by
  show Wp (opt (rShownX d) >>= fun z => pure (fl (.str z))) τ O Q = _
  rw [h]
  rfl
theorem odd_shx {d : D} (h : d ∈ odds) : ShX d 3 100 := shx_of (List.all_eq_true.1 shx_odd d h)
theorem odd_shown {d : D} (h : d ∈ odds) : ∃ z, rShownX d = some z := (odd_shx h).shown (by omega) (by omega)
theorem two_shown {t m : D} (h : t ∈ odds) (h2 : m ∈ odds) : ∃ z, rShownX (.lst [.lst [t, m], .lst [t, m]]) = some z := by
  have one := shx_lst (shxl_cons (odd_shx h) (shxl_cons (odd_shx h2) (shxl_nil.mono (by omega) (Nat.le_refl _))))
  exact (shx_lst (shxl_cons one (shxl_cons one (shxl_nil.mono (by omega) (Nat.le_refl _))))).shown (by omega) (by omega)
theorem wp_excP {c : Str} {n : Nat} {plan : List (Str × Nat)} {fa : Mm (List Ex)} {τ : Sto} {O : Ob} {Q : Ex → Sto → Ob → Prop} : Wp (excP c n plan fa) τ O Q = Wp fa τ O fun xs τ O => if frzs xs && decide (xs.length = n) && decide (n ≤ 100) then Q ⟨.frz, .obj c (planD plan (xs.map (·.d)))⟩ τ O else False := by
  unfold excP
  simp only [wp_bind, wp_ite]
  rfl
theorem someD_len (t : D) : (someD t).length = 30 := by kernel_rfl
theorem s_errors (t : D) : ∃ L : List D, L.length ≤ 30 ∧ (∀ k < L.length, ∃ p, p ∈ P1 ∧ P1[k / 2]? = some p ∧ L[k]? = some (.obj p.1 [(p.2, t)])) ∧ ∀ O, Ret m__law_errors [t] O fun own d _ O' => own = true ∧ d = .lst L ∧ O' = O :=
  ⟨someD t, Nat.le_of_eq (someD_len t), fun k h => someD_at t (by rw [someD_len] at h; exact h), fun O => Ret.of (some_ok t O) (And.intro (Eq.refl _) (And.intro (Eq.refl _) (Eq.refl _)))⟩
theorem atI_k {α : Type} {xs : List α} {k : Nat} {x : α} (h : xs[k]? = some x) : atI xs (k : Int) = some x := by
  rw [DV.atI_nat]
  exact h
theorem words_at (p : Nat) : P1[p]?.map (fun q => D.str q.1) = ([D.str "InvalidNumber", D.str "InvalidWell", D.str "InvalidBits", D.str "InvalidCourse", D.str "InvalidText", D.str "InvalidName", D.str "InvalidWish", D.str "NotAProgram", D.str "InvalidRows", D.str "InvalidExchanges", D.str "InvalidWishes", D.str "UnknownName", D.str "InUse", D.str "TooWide", D.str "Ended"] : List D)[p]? := by
  rw [← List.getElem?_map]
  rfl
def gR (mE mR mF : Mir) (n : Nat) : Mm Fl := (seqM (parM [1, 2] ((((var 0) >>= fun x => (pure []) >>= fun xs => pure (x :: xs)) >>= callN m__law_odd) >>= fun x => ((((var 0) >>= fun x => (pure []) >>= fun xs => pure (x :: xs)) >>= callN m__law_odd) >>= fun x => (pure []) >>= fun xs => pure (x :: xs)) >>= fun xs => pure (x :: xs)))
    (seqM (((((cst (.str "InvalidNumber")) >>= frzX) >>= fun x => (((cst (.str "InvalidWell")) >>= frzX) >>= fun x => (((cst (.str "InvalidBits")) >>= frzX) >>= fun x => (((cst (.str "InvalidCourse")) >>= frzX) >>= fun x => (((cst (.str "InvalidText")) >>= frzX) >>= fun x => (((cst (.str "InvalidName")) >>= frzX) >>= fun x => (pure []) >>= fun xs => pure (x :: xs)) >>= fun xs => pure (x :: xs)) >>= fun xs => pure (x :: xs)) >>= fun xs => pure (x :: xs)) >>= fun xs => pure (x :: xs)) >>= fun xs => pure (x :: xs)) >>= mkLst) >>= fun x => stX 3 x >>= fun _ => pure .nx)
    (seqM ((bin (var 3) ((((cst (.str "InvalidWish")) >>= frzX) >>= fun x => (((cst (.str "NotAProgram")) >>= frzX) >>= fun x => (((cst (.str "InvalidRows")) >>= frzX) >>= fun x => (((cst (.str "InvalidExchanges")) >>= frzX) >>= fun x => (((cst (.str "InvalidWishes")) >>= frzX) >>= fun x => (((cst (.str "UnknownName")) >>= frzX) >>= fun x => (pure []) >>= fun xs => pure (x :: xs)) >>= fun xs => pure (x :: xs)) >>= fun xs => pure (x :: xs)) >>= fun xs => pure (x :: xs)) >>= fun xs => pure (x :: xs)) >>= fun xs => pure (x :: xs)) >>= mkLst) addD) >>= fun x => stX 3 x >>= fun _ => pure .nx)
    (seqM ((bin (var 3) ((((cst (.str "InUse")) >>= frzX) >>= fun x => (((cst (.str "TooWide")) >>= frzX) >>= fun x => (((cst (.str "Ended")) >>= frzX) >>= fun x => (pure []) >>= fun xs => pure (x :: xs)) >>= fun xs => pure (x :: xs)) >>= fun xs => pure (x :: xs)) >>= mkLst) addD) >>= fun x => stX 3 x >>= fun _ => pure .nx)
    (seqM (((((var 1) >>= frzX) >>= fun x => (pure []) >>= fun xs => pure (⟨.frz, x⟩ :: xs)) >>= callN mE) >>= fun x => stX 4 x >>= fun _ => pure .nx)
    (seqM (((((blt ((var 4) >>= fun x => (pure []) >>= fun xs => pure (x :: xs)) lenB) >>= frzX) >>= fun x => (pure []) >>= fun xs => pure (x :: xs)) >>= fun ds => opt (rng1 ds)) >>= forM fun d => (fun d => st1 5 false d) d >>= fun _ => (seqM (((((bin (var 4) (var 5) ixAny) >>= frzX) >>= fun x => (pure []) >>= fun xs => pure (⟨.frz, x⟩ :: xs)) >>= callN mR) >>= fun x => stX 6 x >>= fun _ => pure .nx)
    ((orC ((bin (var 6) (bin (var 3) (bin (var 5) (cst (.int 2)) fdivD) ixAny) neD) >>= asB) ((bin (blt (((((bin (var 4) (var 5) ixAny) >>= frzX) >>= fun x => (((var 6) >>= frzX) >>= fun x => (pure []) >>= fun xs => pure (⟨.frz, x⟩ :: xs)) >>= fun xs => pure (⟨.frz, x⟩ :: xs)) >>= callN mF) >>= fun x => (pure []) >>= fun xs => pure (x :: xs)) reprX) (blt ((var 1) >>= fun x => (pure []) >>= fun xs => pure (x :: xs)) reprX) neD) >>= asB)) >>= fun b => if b then ((cst (.bl false)) >>= fun x => pure (.rt x)) else (pure .nx))))
    (seqM (((((excP "Broken" 2 [("shown", 1), ("index", 0)] (((var 1) >>= frzX) >>= fun x => (((var 2) >>= frzX) >>= fun x => (pure []) >>= fun xs => pure (⟨.frz, x⟩ :: xs)) >>= fun xs => pure (⟨.frz, x⟩ :: xs))) >>= frzX) >>= fun x => (((excP "Broken" 2 [("shown", 0), ("index", 1)] (((var 2) >>= frzX) >>= fun x => (((var 1) >>= frzX) >>= fun x => (pure []) >>= fun xs => pure (⟨.frz, x⟩ :: xs)) >>= fun xs => pure (⟨.frz, x⟩ :: xs))) >>= frzX) >>= fun x => (pure []) >>= fun xs => pure (x :: xs)) >>= fun xs => pure (x :: xs)) >>= mkLst) >>= fun x => stX 7 x >>= fun _ => pure .nx)
    (seqM (((bin (lcM [8] (((var 7) >>= frzX) >>= fun d => opt (seqD d)) (fun d => st1 8 false d) (pure true) (((((var 8) >>= frzX) >>= fun x => (pure []) >>= fun xs => pure (⟨.frz, x⟩ :: xs)) >>= callN mR) >>= frzX)) ((((cst (.str "Broken")) >>= frzX) >>= fun x => (((cst (.str "Broken")) >>= frzX) >>= fun x => (pure []) >>= fun xs => pure (x :: xs)) >>= fun xs => pure (x :: xs)) >>= mkLst) neD) >>= asB) >>= fun b => if b then ((cst (.bl false)) >>= fun x => pure (.rt x)) else (pure .nx))
    (seqM (((bin (blt ((lcM [8] (((var 7) >>= frzX) >>= fun d => opt (seqD d)) (fun d => st1 8 false d) (pure true) (((((var 8) >>= frzX) >>= fun x => (((cst (.str "Broken")) >>= frzX) >>= fun x => (pure []) >>= fun xs => pure (⟨.frz, x⟩ :: xs)) >>= fun xs => pure (⟨.frz, x⟩ :: xs)) >>= callN mF) >>= frzX)) >>= fun x => (pure []) >>= fun xs => pure (x :: xs)) reprX) (blt ((((((((var 1) >>= frzX) >>= fun x => (((var 2) >>= frzX) >>= fun x => (pure []) >>= fun xs => pure (x :: xs)) >>= fun xs => pure (x :: xs)) >>= mkLst) >>= frzX) >>= fun x => ((((((var 1) >>= frzX) >>= fun x => (((var 2) >>= frzX) >>= fun x => (pure []) >>= fun xs => pure (x :: xs)) >>= fun xs => pure (x :: xs)) >>= mkLst) >>= frzX) >>= fun x => (pure []) >>= fun xs => pure (x :: xs)) >>= fun xs => pure (x :: xs)) >>= mkLst) >>= fun x => (pure []) >>= fun xs => pure (x :: xs)) reprX) neD) >>= asB) >>= fun b => if b then ((cst (.bl false)) >>= fun x => pure (.rt x)) else (pure .nx))
    ((bin ((((exc0 "NothingToUndo") >>= frzX) >>= fun x => (pure []) >>= fun xs => pure (⟨.frz, x⟩ :: xs)) >>= callN mR) (cst (.str "NothingToUndo")) eqD) >>= fun x => pure (.rt x)))))))))))
theorem gR_eq (n : Nat) : g__law_right n = gR m__law_errors m__law_error m__law_field n := rfl
structure FE (mE : Mir) : Prop where
  io : mE.io = none
  ar : mE.ar = 1
  at_ : ∀ t : D, ∃ L : List D, L.length ≤ 30 ∧ (∀ k < L.length, ∃ p, p ∈ P1 ∧ P1[k / 2]? = some p ∧ L[k]? = some (.obj p.1 [(p.2, t)])) ∧ ∀ O, Ret mE [t] O fun own d _ O' => own = true ∧ d = .lst L ∧ O' = O
structure FR (mR : Mir) : Prop where
  io : mR.io = none
  ar : mR.ar = 1
  one : ∀ p, p ∈ P1 → RetC mR p.1
  br : RetC mR "Broken"
  un : RetC mR "NothingToUndo"
structure FF (mF : Mir) : Prop where
  io : mF.io = none
  ar : mF.ar = 2
  one : ∀ p, p ∈ P1 → RetF mF p.1 p.2
  br : RetB mF
theorem fE : FE m__law_errors := ⟨rfl, rfl, s_errors⟩
theorem fr1 : RetC m__law_error "Broken" := @ErrC.ret m__law_error "Broken" er_Broken
theorem fr2 : RetC m__law_error "NothingToUndo" := @ErrC.ret m__law_error "NothingToUndo" er_NothingToUndo
theorem fr3 : ∀ p, p ∈ P1 → RetC m__law_error p.1 := fun p h => @ErrC.ret m__law_error p.1 (err_all p h)
theorem fR_of {mR : Mir} (h1 : mR.io = none) (h2 : mR.ar = 1) (a : ∀ p, p ∈ P1 → RetC mR p.1) (b : RetC mR "Broken") (c : RetC mR "NothingToUndo") : FR mR := ⟨h1, h2, a, b, c⟩
theorem fR : FR m__law_error := fR_of (mR := m__law_error) rfl rfl fr3 (@ErrC.ret m__law_error "Broken" er_Broken) (@ErrC.ret m__law_error "NothingToUndo" er_NothingToUndo)
theorem fF : FF m__law_field := ⟨rfl, rfl, fun p h => (fld_all p h).ret, fd_Broken.ret⟩
set_option maxHeartbeats 2000000 in
theorem s_rG {mE mR mF : Mir} (fE : FE mE) (fR : FR mR) (fF : FF mF) {sp : D} {m : Nat} {O : Ob} (hs : Spr (m + 2) sp) : Wp (gR mE mR mF FUEL) (argS (some 0) [sp] ++ List.replicate (9 - [sp].length) none) O fun x τ O' => (match x with | .nx => DV.Fin (some 0) (fun own d sp' O' => own = false ∧ d = .bl true) (fl .non) τ O' | .rt x => DV.Fin (some 0) (fun own d sp' O' => own = false ∧ d = .bl true) x τ O' | _ => False) := by
  unfold gR
  simp only [argS, List.mapIdx_cons, List.mapIdx_nil]
  simp!
  refine wp_callS rfl rfl rfl rfl (Ret.imp (s_odd (m := m + 1) hs) ?_)
  rintro own t sp1 O1 ⟨rfl, ht, hs1, rfl⟩
  simp!
  refine wp_callS rfl rfl rfl rfl (Ret.imp (s_odd (m := m) hs1) ?_)
  rintro own u sp2 O2 ⟨rfl, hu, hs2, rfl⟩
  simp!
  have hW : ∀ p : Nat, P1[p]?.map (fun (q : Str × Str) => D.str q.1) = ([D.str "InvalidNumber", D.str "InvalidWell", D.str "InvalidBits", D.str "InvalidCourse", D.str "InvalidText", D.str "InvalidName", D.str "InvalidWish", D.str "NotAProgram", D.str "InvalidRows", D.str "InvalidExchanges", D.str "InvalidWishes", D.str "UnknownName", D.str "InUse", D.str "TooWide", D.str "Ended"] : List D)[p]? := words_at
  generalize ([D.str "InvalidNumber", D.str "InvalidWell", D.str "InvalidBits", D.str "InvalidCourse", D.str "InvalidText", D.str "InvalidName", D.str "InvalidWish", D.str "NotAProgram", D.str "InvalidRows", D.str "InvalidExchanges", D.str "InvalidWishes", D.str "UnknownName", D.str "InUse", D.str "TooWide", D.str "Ended"] : List D) = WW at hW ⊢
  obtain ⟨L, hL, hat, hE⟩ := fE.at_ t
  refine wp_call fE.io fE.ar.symm rfl (Ret.imp (hE _) ?_)
  rintro own d io O3 ⟨rfl, rfl, rfl⟩
  simp! [lenO, rng1_int (inB_of (n := (L.length : Int)) (by omega) (by omega))]
  refine wp_for (fun pre τ O' => (∃ x5 x6, τ = [some (true, sp2), some (false, t), some (false, u), some (true, D.lst WW), some (true, D.lst L), x5, x6, none, none]) ∧ O' = O3) ⟨⟨_, _, rfl⟩, rfl⟩ ?_ ?_
  · rintro pre d post τ2 O2 hd ⟨⟨x5, x6, rfl⟩, rfl⟩
    obtain ⟨rfl, hk⟩ := rng_pre hd
    rw [Int.toNat_natCast] at hk
    obtain ⟨p, hp, hp2, hp3⟩ := hat pre.length hk
    obtain ⟨z, hz⟩ := odd_shown ht
    have hw2 : WW[pre.length / 2]? = some (.str p.1) := by rw [← hW, hp2]; rfl
    have a1 := atI_k hp3
    have a2 := atI_k hw2
    have o2 : okDiv 2 = true := by decide
    have e2 : ((pre.length / 2 : Nat) : Int) = (pre.length : Int) / 2 := by simp
    rw [e2] at a2
    simp! [a1]
    refine wp_call fR.io fR.ar.symm rfl (Ret.imp (fR.one p hp _ _) ?_)
    rintro own d io O4 ⟨rfl, rfl, rfl⟩
    simp! [a1, a2, o2]
    rw [beq_self_eq_true]
    simp!
    refine wp_call fF.io fF.ar.symm rfl (Ret.imp (fF.one p hp _ _) ?_)
    rintro own d io O5 ⟨rfl, rfl, rfl⟩
    simp! [wp_rx (τ := _ :: _) hz]
    rw [beq_self_eq_true]
    simp!
    exact ⟨⟨_, _, rfl⟩, trivial⟩
  · rintro τ2 O2 ⟨⟨x5, x6, rfl⟩, rfl⟩
    have fr : frzs ([] : List Ex) = true := rfl
    have frc : ∀ (d : D) (l : List Ex), frzs (⟨.frz, d⟩ :: l) = frzs l := fun _ _ => rfl
    have pl1 : ∀ a b : D, planD [("shown", 1), ("index", 0)] [a, b] = [(("shown" : Str), b), (("index" : Str), a)] := fun _ _ => rfl
    have pl2 : ∀ a b : D, planD [("shown", 0), ("index", 1)] [a, b] = [(("shown" : Str), a), (("index" : Str), b)] := fun _ _ => rfl
    have sq : ∀ l : List D, seqD (.lst l) = some l := fun _ => rfl
    simp! [wp_excP (τ := _ :: _), fr, frc, pl1, pl2]
    refine wp_lc ?_
    simp! [sq]
    generalize hB : D.obj "Broken" [(("shown" : Str), u), (("index" : Str), t)] = BR
    have eR : ∀ O, Ret mR [BR] O fun own d _ O' => own = false ∧ d = .str "Broken" ∧ O' = O := fun O => by rw [← hB]; exact fR.br _ _
    have eF : ∀ O, Ret mF [BR, .str "Broken"] O fun own x _ O' => own = true ∧ x = .lst [t, u] ∧ O' = O := fun O => by rw [← hB]; exact fF.br _ _ _
    clear hB
    refine ⟨fun pre acc τ O' => (∃ x8, τ = [some (true, sp2), some (false, t), some (false, u), some (true, D.lst WW), some (true, D.lst L), x5, x6, some (false, .lst [BR, BR]), x8]) ∧ O' = O2 ∧ acc = List.replicate pre.length (.str "Broken") ∧ pre.length ≤ 2, ⟨⟨_, rfl⟩, rfl, rfl, by simp⟩, ?_, ?_⟩
    · rintro pre d post acc τ2 O3 hd ⟨⟨x8, rfl⟩, rfl, rfl, hl⟩
      obtain rfl : d = BR := by
        have : d ∈ [BR, BR] := by rw [hd]; simp
        simpa using this
      have hl2 : pre.length < 2 := by
        have := congrArg List.length hd
        simp at this
        omega
      simp!
      refine wp_call fR.io fR.ar.symm rfl (Ret.imp (eR _) ?_)
      rintro own d io O4 ⟨rfl, rfl, rfl⟩
      simp!
      refine ⟨by rw [List.length_replicate]; omega, ⟨_, rfl⟩, trivial, ?_, by simp; omega⟩
      rw [List.length_append, List.length_singleton, List.replicate_succ']
    · rintro acc τ2 O3 ⟨⟨x8, rfl⟩, rfl, rfl, hl⟩
      have e2 : (List.replicate [BR, BR].length (D.str "Broken")) = [D.str "Broken", D.str "Broken"] := rfl
      have q : eqO (.lst [D.str "Broken", D.str "Broken"]) (.lst [D.str "Broken", D.str "Broken"]) = some true := by decide +kernel
      unfold eqO at q
      simp! [e2, q]
      obtain ⟨z2, hz2⟩ := two_shown ht hu
      refine wp_lc ?_
      simp! [sq]
      refine ⟨fun pre acc τ O' => (∃ x8, τ = [some (true, sp2), some (false, t), some (false, u), some (true, D.lst WW), some (true, D.lst L), x5, x6, some (false, .lst [BR, BR]), x8]) ∧ O' = O3 ∧ acc = List.replicate pre.length (.lst [t, u]) ∧ pre.length ≤ 2, ⟨⟨_, rfl⟩, rfl, rfl, by simp⟩, ?_, ?_⟩
      · rintro pre d post acc τ2 O5 hd ⟨⟨x8, rfl⟩, rfl, rfl, hl⟩
        obtain rfl : d = BR := by
          have : d ∈ [BR, BR] := by rw [hd]; simp
          simpa using this
        have hl2 : pre.length < 2 := by
          have := congrArg List.length hd
          simp at this
          omega
        simp!
        refine wp_call fF.io fF.ar.symm rfl (Ret.imp (eF _) ?_)
        rintro own d io O4 ⟨rfl, rfl, rfl⟩
        simp!
        refine ⟨by rw [List.length_replicate]; omega, ⟨_, rfl⟩, trivial, ?_, by simp; omega⟩
        rw [List.length_append, List.length_singleton, List.replicate_succ']
      · rintro acc τ2 O5 ⟨⟨x8, rfl⟩, rfl, rfl, hl⟩
        have e3 : (List.replicate [BR, BR].length (D.lst [t, u])) = [D.lst [t, u], D.lst [t, u]] := rfl
        have ex0 : ∀ {τ : Sto} {O : Ob} {Q : Ex → Sto → Ob → Prop}, Wp (exc0 "NothingToUndo") τ O Q = Q ⟨.frz, .obj "NothingToUndo" []⟩ τ O := rfl
        simp! [e3, wp_rx (τ := _ :: _) hz2, ex0]
        rw [beq_self_eq_true]
        simp! [ex0]
        refine wp_call fR.io fR.ar.symm rfl (Ret.imp (fR.un _ _) ?_)
        rintro own d io O4 ⟨rfl, rfl, rfl⟩
        simp!
        exact ⟨trivial, by rw [beq_self_eq_true]⟩
set_option maxHeartbeats 400000 in
theorem s_right {sp : D} {m : Nat} {O : Ob} (hs : Spr (m + 2) sp) : Ret m__law_right [sp] O fun own d sp' O' => own = false ∧ d = .bl true := by
  refine ret_b (some 0) 9 (g__law_right FUEL) (fun _ _ => rfl) ?_
  rw [gR_eq]
  exact s_rG fE fR fF hs
end LW
namespace LW
open PySem PySem.Spec PyProof.Rows L2 DV
theorem told_shown : (rShown (.lst [.int 8, .int 4, .int 2, .int 8, .int 60, .int 30, .int 6])).isSome = true := by decide +kernel
theorem plain : LawTrue m_law 63 := by
  refine ⟨rfl, rfl, fun ns hn => ?_⟩
  have R : Ret m_law [.scr ns] [] fun own d _ O' => d = .bl true := by
    refine ret_b none 4 (g_law FUEL) (fun _ _ => rfl) ?_
    unfold g_law
    simp only [argS, List.mapIdx_cons, List.mapIdx_nil]
    obtain ⟨z, hz⟩ := Option.isSome_iff_exists.1 told_shown
    have rz : ∀ {τ : Sto} {O : Ob} {Q : Ex → Sto → Ob → Prop}, Wp (reprB [.lst [.int 8, .int 4, .int 2, .int 8, .int 60, .int 30, .int 6]]) τ O Q = Q ⟨.frz, .str z⟩ τ O := fun {τ O Q} => by rw [wp_repr, hz]
    have x0 : ∀ {c : Str} {τ : Sto} {O : Ob} {Q : Ex → Sto → Ob → Prop}, Wp (exc0 c) τ O Q = Q ⟨.frz, .obj c []⟩ τ O := rfl
    have i1 : ∀ {τ : Sto} {O : Ob} {Q : Ex → Sto → Ob → Prop}, Wp (isiX ix_ValueError (.obj "WrongValue" [])) τ O Q = Q ⟨.frz, .bl true⟩ τ O := rfl
    have i2 : ∀ {τ : Sto} {O : Ob} {Q : Ex → Sto → Ob → Prop}, Wp (isiX ix_LookupError (.obj "WrongName" [])) τ O Q = Q ⟨.frz, .bl true⟩ τ O := rfl
    have i3 : ∀ {τ : Sto} {O : Ob} {Q : Ex → Sto → Ob → Prop}, Wp (isiX ix_ArithmeticError (.obj "NoAnswer" [])) τ O Q = Q ⟨.frz, .bl true⟩ τ O := rfl
    have i4 : ∀ {τ : Sto} {O : Ob} {Q : Ex → Sto → Ob → Prop}, Wp (isiX ix_WrongValue (.obj "NoAnswer" [])) τ O Q = Q ⟨.frz, .bl false⟩ τ O := rfl
    have q4 : eqO (.lst [.bl true, .bl true, .bl true, .bl false]) (.lst [.bl true, .bl true, .bl true, .bl false]) = some true := by decide +kernel
    unfold eqO at q4
    simp! [rz]
    rw [beq_self_eq_true]
    simp! [x0, i1, i2, i3, i4, q4]
    generalize some (true, D.lst [D.int 8, D.int 4, D.int 2, D.int 8, D.int 60, D.int 30, D.int 6]) = x1
    generalize some (true, D.lst [D.bl true, D.bl true, D.bl true, D.bl false]) = x2
    refine wp_lc ?_
    simp! [lenO]
    obtain ⟨N, hN, hN0, hN5⟩ : ∃ N : Int, N = (if (if 4 < (ns.length : Int) then 4 else (ns.length : Int)) > 2 then (if 4 < (ns.length : Int) then 4 else (ns.length : Int)) else 2) ∧ 0 ≤ N ∧ N ≤ 5 := ⟨_, rfl, by split <;> (try split) <;> omega, by split <;> (try split) <;> omega⟩
    rw [← hN, rng1_int (inB_of hN0 (by omega))]
    refine ⟨fun pre acc τ O' => (∃ z, τ = [some (false, .scr ns), x1, x2, z]) ∧ acc = List.replicate pre.length (.bl true), ⟨⟨_, rfl⟩, rfl⟩, ?_, ?_⟩
    · rintro pre d post acc τ2 O2 hd ⟨⟨z, rfl⟩, rfl⟩
      obtain ⟨rfl, hk⟩ := rng_pre hd
      simp!
      refine wp_call rfl rfl rfl (Ret.imp (s_spring (by omega) (by omega)) ?_)
      rintro own d io O3 ⟨rfl, hs, rfl⟩
      simp!
      refine wp_callT rfl rfl rfl (Ret.imp (s_right (m := 700) (hs.mono (by omega))) ?_)
      rintro own d sp O4 ⟨rfl, rfl⟩
      simp!
      refine ⟨by simp; omega, ⟨_, rfl⟩, ?_⟩
      rw [List.length_append, List.length_singleton, List.replicate_succ']
    · rintro acc τ2 O2 ⟨⟨z, rfl⟩, rfl⟩
      simp! [wp_all1]
  obtain ⟨own, d, io, O', e, rfl⟩ := R.ok
  exact ⟨own, io, O', e⟩
end LW
set_option maxHeartbeats 0
namespace LW
open PySem PySem.Spec PyProof.Rows L2 DV
abbrev s_Ended_init : Stmt := clsS 18 0
theorem sn_Ended_init : NdefX.NScope ["self", "end", "__class__"] ["self", "end"] ["__class__"] (defScope s_Ended_init) := NdefX.nscope_by (by kernel_rfl)
abbrev s_InUse_init : Stmt := clsS 15 0
theorem sn_InUse_init : NdefX.NScope ["self", "index", "__class__"] ["self", "index"] ["__class__"] (defScope s_InUse_init) := NdefX.nscope_by (by kernel_rfl)
abbrev s_InvalidBits_init : Stmt := clsS 4 0
theorem sn_InvalidBits_init : NdefX.NScope ["self", "given", "__class__"] ["self", "given"] ["__class__"] (defScope s_InvalidBits_init) := NdefX.nscope_by (by kernel_rfl)
abbrev s_InvalidCourse_init : Stmt := clsS 5 0
theorem sn_InvalidCourse_init : NdefX.NScope ["self", "given", "__class__"] ["self", "given"] ["__class__"] (defScope s_InvalidCourse_init) := NdefX.nscope_by (by kernel_rfl)
abbrev s_InvalidExchanges_init : Stmt := clsS 11 0
theorem sn_InvalidExchanges_init : NdefX.NScope ["self", "index", "__class__"] ["self", "index"] ["__class__"] (defScope s_InvalidExchanges_init) := NdefX.nscope_by (by kernel_rfl)
abbrev s_InvalidName_init : Stmt := clsS 7 0
theorem sn_InvalidName_init : NdefX.NScope ["self", "given", "__class__"] ["self", "given"] ["__class__"] (defScope s_InvalidName_init) := NdefX.nscope_by (by kernel_rfl)
abbrev s_InvalidNumber_init : Stmt := clsS 2 0
theorem sn_InvalidNumber_init : NdefX.NScope ["self", "given", "__class__"] ["self", "given"] ["__class__"] (defScope s_InvalidNumber_init) := NdefX.nscope_by (by kernel_rfl)
abbrev s_InvalidRows_init : Stmt := clsS 10 0
theorem sn_InvalidRows_init : NdefX.NScope ["self", "index", "__class__"] ["self", "index"] ["__class__"] (defScope s_InvalidRows_init) := NdefX.nscope_by (by kernel_rfl)
abbrev s_InvalidText_init : Stmt := clsS 6 0
theorem sn_InvalidText_init : NdefX.NScope ["self", "given", "__class__"] ["self", "given"] ["__class__"] (defScope s_InvalidText_init) := NdefX.nscope_by (by kernel_rfl)
abbrev s_InvalidWell_init : Stmt := clsS 3 0
theorem sn_InvalidWell_init : NdefX.NScope ["self", "given", "__class__"] ["self", "given"] ["__class__"] (defScope s_InvalidWell_init) := NdefX.nscope_by (by kernel_rfl)
abbrev s_InvalidWish_init : Stmt := clsS 8 0
theorem sn_InvalidWish_init : NdefX.NScope ["self", "given", "__class__"] ["self", "given"] ["__class__"] (defScope s_InvalidWish_init) := NdefX.nscope_by (by kernel_rfl)
abbrev s_InvalidWishes_init : Stmt := clsS 12 0
theorem sn_InvalidWishes_init : NdefX.NScope ["self", "index", "__class__"] ["self", "index"] ["__class__"] (defScope s_InvalidWishes_init) := NdefX.nscope_by (by kernel_rfl)
abbrev s_NotAProgram_init : Stmt := clsS 9 0
theorem sn_NotAProgram_init : NdefX.NScope ["self", "given", "__class__"] ["self", "given"] ["__class__"] (defScope s_NotAProgram_init) := NdefX.nscope_by (by kernel_rfl)
abbrev s_TooWide_init : Stmt := clsS 17 0
theorem sn_TooWide_init : NdefX.NScope ["self", "given", "__class__"] ["self", "given"] ["__class__"] (defScope s_TooWide_init) := NdefX.nscope_by (by kernel_rfl)
abbrev s_UnknownName_init : Stmt := clsS 14 0
theorem sn_UnknownName_init : NdefX.NScope ["self", "given", "__class__"] ["self", "given"] ["__class__"] (defScope s_UnknownName_init) := NdefX.nscope_by (by kernel_rfl)
abbrev s_Broken_init : Stmt := clsS 19 0
theorem sn_Broken_init : NdefX.NScope ["self", "index", "shown", "__class__"] ["self", "index", "shown"] ["__class__"] (defScope s_Broken_init) := NdefX.nscope_by (by kernel_rfl)
def FILE : Str := "/claim/cut.py"
def ES : List ED := [⟨"Ended", s_Ended_init, "Ended.__init__"⟩, ⟨"InUse", s_InUse_init, "InUse.__init__"⟩, ⟨"InvalidBits", s_InvalidBits_init, "InvalidBits.__init__"⟩, ⟨"InvalidCourse", s_InvalidCourse_init, "InvalidCourse.__init__"⟩, ⟨"InvalidExchanges", s_InvalidExchanges_init, "InvalidExchanges.__init__"⟩, ⟨"InvalidName", s_InvalidName_init, "InvalidName.__init__"⟩, ⟨"InvalidNumber", s_InvalidNumber_init, "InvalidNumber.__init__"⟩, ⟨"InvalidRows", s_InvalidRows_init, "InvalidRows.__init__"⟩, ⟨"InvalidText", s_InvalidText_init, "InvalidText.__init__"⟩, ⟨"InvalidWell", s_InvalidWell_init, "InvalidWell.__init__"⟩, ⟨"InvalidWish", s_InvalidWish_init, "InvalidWish.__init__"⟩, ⟨"InvalidWishes", s_InvalidWishes_init, "InvalidWishes.__init__"⟩, ⟨"NotAProgram", s_NotAProgram_init, "NotAProgram.__init__"⟩, ⟨"TooWide", s_TooWide_init, "TooWide.__init__"⟩, ⟨"UnknownName", s_UnknownName_init, "UnknownName.__init__"⟩, ⟨"Broken", s_Broken_init, "Broken.__init__"⟩]
def EXL (K : PySem.W.Frag) : List Bool := [SmB K,
  isxB K (.type "ArithmeticError") ix_ArithmeticError,
  isxB K (.ref (He.ga K "Broken")) ix_Broken,
  isxB K (.ref (He.ga K "Ended")) ix_Ended,
  isxB K (.ref (He.ga K "InUse")) ix_InUse,
  isxB K (.ref (He.ga K "InvalidBits")) ix_InvalidBits,
  isxB K (.ref (He.ga K "InvalidCourse")) ix_InvalidCourse,
  isxB K (.ref (He.ga K "InvalidExchanges")) ix_InvalidExchanges,
  isxB K (.ref (He.ga K "InvalidName")) ix_InvalidName,
  isxB K (.ref (He.ga K "InvalidNumber")) ix_InvalidNumber,
  isxB K (.ref (He.ga K "InvalidRows")) ix_InvalidRows,
  isxB K (.ref (He.ga K "InvalidText")) ix_InvalidText,
  isxB K (.ref (He.ga K "InvalidWell")) ix_InvalidWell,
  isxB K (.ref (He.ga K "InvalidWish")) ix_InvalidWish,
  isxB K (.ref (He.ga K "InvalidWishes")) ix_InvalidWishes,
  isxB K (.type "LookupError") ix_LookupError,
  isxB K (.ref (He.ga K "NoAnswer")) ix_NoAnswer,
  isxB K (.ref (He.ga K "NotAProgram")) ix_NotAProgram,
  isxB K (.ref (He.ga K "NothingToUndo")) ix_NothingToUndo,
  isxB K (.ref (He.ga K "TooWide")) ix_TooWide,
  isxB K (.ref (He.ga K "UnknownName")) ix_UnknownName,
  isxB K (.type "ValueError") ix_ValueError,
  isxB K (.ref (He.ga K "WrongName")) ix_WrongName,
  isxB K (.ref (He.ga K "WrongValue")) ix_WrongValue,
  xffB K "end" xc_end,
  xffB K "given" xc_given,
  xffB K "index" xc_index,
  xffB K "shown" xc_shown,
  oexB K (He.ga K "Ended") "ArithmeticError" "ArithmeticError.__new__" "ArithmeticError.__init__" [.type "ArithmeticError", .type "Exception", .type "BaseException", .type "object"],
  ED.ok K FILE (⟨"Ended", s_Ended_init, "Ended.__init__"⟩ : ED),
  (PySem.W.findIn K (.ref (He.ga K "Ended")) "end" == some none),
  oexB K (He.ga K "InUse") "LookupError" "LookupError.__new__" "LookupError.__init__" [.type "LookupError", .type "Exception", .type "BaseException", .type "object"],
  ED.ok K FILE (⟨"InUse", s_InUse_init, "InUse.__init__"⟩ : ED),
  (PySem.W.findIn K (.ref (He.ga K "InUse")) "index" == some none),
  oexB K (He.ga K "InvalidBits") "ValueError" "ValueError.__new__" "ValueError.__init__" [.type "ValueError", .type "Exception", .type "BaseException", .type "object"],
  ED.ok K FILE (⟨"InvalidBits", s_InvalidBits_init, "InvalidBits.__init__"⟩ : ED),
  (PySem.W.findIn K (.ref (He.ga K "InvalidBits")) "given" == some none),
  oexB K (He.ga K "InvalidCourse") "ValueError" "ValueError.__new__" "ValueError.__init__" [.type "ValueError", .type "Exception", .type "BaseException", .type "object"],
  ED.ok K FILE (⟨"InvalidCourse", s_InvalidCourse_init, "InvalidCourse.__init__"⟩ : ED),
  (PySem.W.findIn K (.ref (He.ga K "InvalidCourse")) "given" == some none),
  oexB K (He.ga K "InvalidExchanges") "ValueError" "ValueError.__new__" "ValueError.__init__" [.type "ValueError", .type "Exception", .type "BaseException", .type "object"],
  ED.ok K FILE (⟨"InvalidExchanges", s_InvalidExchanges_init, "InvalidExchanges.__init__"⟩ : ED),
  (PySem.W.findIn K (.ref (He.ga K "InvalidExchanges")) "index" == some none),
  oexB K (He.ga K "InvalidName") "ValueError" "ValueError.__new__" "ValueError.__init__" [.type "ValueError", .type "Exception", .type "BaseException", .type "object"],
  ED.ok K FILE (⟨"InvalidName", s_InvalidName_init, "InvalidName.__init__"⟩ : ED),
  (PySem.W.findIn K (.ref (He.ga K "InvalidName")) "given" == some none),
  oexB K (He.ga K "InvalidNumber") "ValueError" "ValueError.__new__" "ValueError.__init__" [.type "ValueError", .type "Exception", .type "BaseException", .type "object"],
  ED.ok K FILE (⟨"InvalidNumber", s_InvalidNumber_init, "InvalidNumber.__init__"⟩ : ED),
  (PySem.W.findIn K (.ref (He.ga K "InvalidNumber")) "given" == some none),
  oexB K (He.ga K "InvalidRows") "ValueError" "ValueError.__new__" "ValueError.__init__" [.type "ValueError", .type "Exception", .type "BaseException", .type "object"],
  ED.ok K FILE (⟨"InvalidRows", s_InvalidRows_init, "InvalidRows.__init__"⟩ : ED),
  (PySem.W.findIn K (.ref (He.ga K "InvalidRows")) "index" == some none),
  oexB K (He.ga K "InvalidText") "ValueError" "ValueError.__new__" "ValueError.__init__" [.type "ValueError", .type "Exception", .type "BaseException", .type "object"],
  ED.ok K FILE (⟨"InvalidText", s_InvalidText_init, "InvalidText.__init__"⟩ : ED),
  (PySem.W.findIn K (.ref (He.ga K "InvalidText")) "given" == some none),
  oexB K (He.ga K "InvalidWell") "ValueError" "ValueError.__new__" "ValueError.__init__" [.type "ValueError", .type "Exception", .type "BaseException", .type "object"],
  ED.ok K FILE (⟨"InvalidWell", s_InvalidWell_init, "InvalidWell.__init__"⟩ : ED),
  (PySem.W.findIn K (.ref (He.ga K "InvalidWell")) "given" == some none),
  oexB K (He.ga K "InvalidWish") "ValueError" "ValueError.__new__" "ValueError.__init__" [.type "ValueError", .type "Exception", .type "BaseException", .type "object"],
  ED.ok K FILE (⟨"InvalidWish", s_InvalidWish_init, "InvalidWish.__init__"⟩ : ED),
  (PySem.W.findIn K (.ref (He.ga K "InvalidWish")) "given" == some none),
  oexB K (He.ga K "InvalidWishes") "ValueError" "ValueError.__new__" "ValueError.__init__" [.type "ValueError", .type "Exception", .type "BaseException", .type "object"],
  ED.ok K FILE (⟨"InvalidWishes", s_InvalidWishes_init, "InvalidWishes.__init__"⟩ : ED),
  (PySem.W.findIn K (.ref (He.ga K "InvalidWishes")) "index" == some none),
  oexB K (He.ga K "NotAProgram") "ValueError" "ValueError.__new__" "ValueError.__init__" [.type "ValueError", .type "Exception", .type "BaseException", .type "object"],
  ED.ok K FILE (⟨"NotAProgram", s_NotAProgram_init, "NotAProgram.__init__"⟩ : ED),
  (PySem.W.findIn K (.ref (He.ga K "NotAProgram")) "given" == some none),
  oexB K (He.ga K "TooWide") "ArithmeticError" "ArithmeticError.__new__" "ArithmeticError.__init__" [.type "ArithmeticError", .type "Exception", .type "BaseException", .type "object"],
  ED.ok K FILE (⟨"TooWide", s_TooWide_init, "TooWide.__init__"⟩ : ED),
  (PySem.W.findIn K (.ref (He.ga K "TooWide")) "given" == some none),
  oexB K (He.ga K "UnknownName") "LookupError" "LookupError.__new__" "LookupError.__init__" [.type "LookupError", .type "Exception", .type "BaseException", .type "object"],
  ED.ok K FILE (⟨"UnknownName", s_UnknownName_init, "UnknownName.__init__"⟩ : ED),
  (PySem.W.findIn K (.ref (He.ga K "UnknownName")) "given" == some none),
  oexB K (He.ga K "Broken") "ArithmeticError" "ArithmeticError.__new__" "ArithmeticError.__init__" [.type "ArithmeticError", .type "Exception", .type "BaseException", .type "object"],
  ED.ok K FILE (⟨"Broken", s_Broken_init, "Broken.__init__"⟩ : ED),
  (PySem.W.findIn K (.ref (He.ga K "Broken")) "index" == some none),
  (PySem.W.findIn K (.ref (He.ga K "Broken")) "shown" == some none),
  PySem.W.excIn K (He.ga K "NothingToUndo") [.type "ArithmeticError", .type "Exception", .type "BaseException", .type "object"] "ArithmeticError.__new__",
  PySem.W.keepIn K (.ref (He.ga K "NothingToUndo")),
  PySem.W.excIn K (He.ga K "NoAnswer") [.type "ArithmeticError", .type "Exception", .type "BaseException", .type "object"] "ArithmeticError.__new__",
  PySem.W.keepIn K (.ref (He.ga K "NoAnswer")),
  PySem.W.excIn K (He.ga K "WrongName") [.type "LookupError", .type "Exception", .type "BaseException", .type "object"] "LookupError.__new__",
  PySem.W.keepIn K (.ref (He.ga K "WrongName")),
  PySem.W.excIn K (He.ga K "WrongValue") [.type "ValueError", .type "Exception", .type "BaseException", .type "object"] "ValueError.__new__",
  PySem.W.keepIn K (.ref (He.ga K "WrongValue"))]
def FA : List He.Fa := [.free "ArithmeticError", .glo "Broken", .glo "Ended", .glo "InUse", .glo "InvalidBits", .glo "InvalidCourse", .glo "InvalidExchanges", .glo "InvalidName", .glo "InvalidNumber", .glo "InvalidRows", .glo "InvalidText", .glo "InvalidWell", .glo "InvalidWish", .glo "InvalidWishes", .free "LookupError", .glo "NoAnswer", .glo "NotAProgram", .glo "NothingToUndo", .glo "TooWide", .glo "UnknownName", .free "ValueError", .glo "WrongName", .glo "WrongValue", .free "abs", .free "all", .free "divmod", .free "int", .free "isinstance", .free "len", .free "max", .free "min", .free "range", .free "repr", .int "MOST_BITS" 30, .int "MOST_EXCHANGES" 6, .int "MOST_FULL" 2, .int "MOST_ROWS" 8, .int "MOST_TIMES" 4, .int "MOST_TOLD" 60, .int "MOST_WIDE" 8, .glo "_law_error", .free "super", .glo "_law_errors", .glo "_law_field", .glo "_law_draw", .glo "_law_of", .glo "_law_odd", .glo "_law_right", .glo "_law_spring", .glo "law"]
def FN : List He.DefD := [⟨("_law_error", none), "_law_error", "_law_error", defArgs s__law_error, defBody s__law_error, defScope s__law_error, [], []⟩,
  ⟨("_law_errors", none), "_law_errors", "_law_errors", defArgs s__law_errors, defBody s__law_errors, defScope s__law_errors, [], []⟩,
  ⟨("_law_field", none), "_law_field", "_law_field", defArgs s__law_field, defBody s__law_field, defScope s__law_field, [], []⟩,
  ⟨("_law_draw", none), "_law_draw", "_law_draw", defArgs s__law_draw, defBody s__law_draw, defScope s__law_draw, [], []⟩,
  ⟨("_law_of", none), "_law_of", "_law_of", defArgs s__law_of, defBody s__law_of, defScope s__law_of, [], []⟩,
  ⟨("_law_odd", none), "_law_odd", "_law_odd", defArgs s__law_odd, defBody s__law_odd, defScope s__law_odd, [], []⟩,
  ⟨("_law_right", none), "_law_right", "_law_right", defArgs s__law_right, defBody s__law_right, defScope s__law_right, [], []⟩,
  ⟨("_law_spring", none), "_law_spring", "_law_spring", defArgs s__law_spring, defBody s__law_spring, defScope s__law_spring, [], []⟩,
  ⟨("law", none), "law", "law", defArgs s_law, defBody s_law, defScope s_law, [], []⟩]
def TS : List He.Tab := []
def GS : List GD := []
def EX (K : PySem.W.Frag) : Bool := (EXL K).all id
theorem bt_of {w : World} {K : PySem.W.Frag} {h : Heap} {mg : Str → Option Value} (X : K.In h) (G : h.Ns mainGlobals mg) (c : SaysY FA FN TS GS EX w h K) : Bt K w mg := by
  have ex := c.ex_
  simp only [EX, Bool.and_eq_true] at ex
  have EXH : (EXL K).all id = true := ex
  have XH : ∀ c ∈ (["WrongValue", "InvalidNumber", "InvalidWell", "InvalidBits", "InvalidCourse", "InvalidText", "InvalidName", "InvalidWish", "NotAProgram", "InvalidRows", "InvalidExchanges", "InvalidWishes", "WrongName", "UnknownName", "InUse", "NoAnswer", "TooWide", "Ended", "Broken", "NothingToUndo"] : List Str), mg c = some (.ref (He.ga K c)) := (all_cons (He.glo_ok X G (c.x.t.d.fact 22 (f := .glo "WrongValue") rfl)) (all_cons (He.glo_ok X G (c.x.t.d.fact 8 (f := .glo "InvalidNumber") rfl)) (all_cons (He.glo_ok X G (c.x.t.d.fact 11 (f := .glo "InvalidWell") rfl)) (all_cons (He.glo_ok X G (c.x.t.d.fact 4 (f := .glo "InvalidBits") rfl)) (all_cons (He.glo_ok X G (c.x.t.d.fact 5 (f := .glo "InvalidCourse") rfl)) (all_cons (He.glo_ok X G (c.x.t.d.fact 10 (f := .glo "InvalidText") rfl)) (all_cons (He.glo_ok X G (c.x.t.d.fact 7 (f := .glo "InvalidName") rfl)) (all_cons (He.glo_ok X G (c.x.t.d.fact 12 (f := .glo "InvalidWish") rfl)) (all_cons (He.glo_ok X G (c.x.t.d.fact 16 (f := .glo "NotAProgram") rfl)) (all_cons (He.glo_ok X G (c.x.t.d.fact 9 (f := .glo "InvalidRows") rfl)) (all_cons (He.glo_ok X G (c.x.t.d.fact 6 (f := .glo "InvalidExchanges") rfl)) (all_cons (He.glo_ok X G (c.x.t.d.fact 13 (f := .glo "InvalidWishes") rfl)) (all_cons (He.glo_ok X G (c.x.t.d.fact 21 (f := .glo "WrongName") rfl)) (all_cons (He.glo_ok X G (c.x.t.d.fact 19 (f := .glo "UnknownName") rfl)) (all_cons (He.glo_ok X G (c.x.t.d.fact 3 (f := .glo "InUse") rfl)) (all_cons (He.glo_ok X G (c.x.t.d.fact 15 (f := .glo "NoAnswer") rfl)) (all_cons (He.glo_ok X G (c.x.t.d.fact 18 (f := .glo "TooWide") rfl)) (all_cons (He.glo_ok X G (c.x.t.d.fact 2 (f := .glo "Ended") rfl)) (all_cons (He.glo_ok X G (c.x.t.d.fact 1 (f := .glo "Broken") rfl)) (all_cons (He.glo_ok X G (c.x.t.d.fact 17 (f := .glo "NothingToUndo") rfl)) all_nil))))))))))))))))))))
  refine ⟨(exl EXH 0 rfl),
    isx_blt (Ts := "ArithmeticError") (He.free_ok X G (c.x.t.d.fact 0 (f := .free "ArithmeticError") rfl)) (by decide +kernel) (fun q hq => XH _ (List.mem_map_of_mem (f := Prod.fst) hq)) (exl EXH 1 rfl),
    isx_own (He.glo_ok X G (c.x.t.d.fact 1 (f := .glo "Broken") rfl)) (fun q hq => XH _ (List.mem_map_of_mem (f := Prod.fst) hq)) (exl EXH 2 rfl),
    isx_own (He.glo_ok X G (c.x.t.d.fact 2 (f := .glo "Ended") rfl)) (fun q hq => XH _ (List.mem_map_of_mem (f := Prod.fst) hq)) (exl EXH 3 rfl),
    isx_own (He.glo_ok X G (c.x.t.d.fact 3 (f := .glo "InUse") rfl)) (fun q hq => XH _ (List.mem_map_of_mem (f := Prod.fst) hq)) (exl EXH 4 rfl),
    isx_own (He.glo_ok X G (c.x.t.d.fact 4 (f := .glo "InvalidBits") rfl)) (fun q hq => XH _ (List.mem_map_of_mem (f := Prod.fst) hq)) (exl EXH 5 rfl),
    isx_own (He.glo_ok X G (c.x.t.d.fact 5 (f := .glo "InvalidCourse") rfl)) (fun q hq => XH _ (List.mem_map_of_mem (f := Prod.fst) hq)) (exl EXH 6 rfl),
    isx_own (He.glo_ok X G (c.x.t.d.fact 6 (f := .glo "InvalidExchanges") rfl)) (fun q hq => XH _ (List.mem_map_of_mem (f := Prod.fst) hq)) (exl EXH 7 rfl),
    isx_own (He.glo_ok X G (c.x.t.d.fact 7 (f := .glo "InvalidName") rfl)) (fun q hq => XH _ (List.mem_map_of_mem (f := Prod.fst) hq)) (exl EXH 8 rfl),
    isx_own (He.glo_ok X G (c.x.t.d.fact 8 (f := .glo "InvalidNumber") rfl)) (fun q hq => XH _ (List.mem_map_of_mem (f := Prod.fst) hq)) (exl EXH 9 rfl),
    isx_own (He.glo_ok X G (c.x.t.d.fact 9 (f := .glo "InvalidRows") rfl)) (fun q hq => XH _ (List.mem_map_of_mem (f := Prod.fst) hq)) (exl EXH 10 rfl),
    isx_own (He.glo_ok X G (c.x.t.d.fact 10 (f := .glo "InvalidText") rfl)) (fun q hq => XH _ (List.mem_map_of_mem (f := Prod.fst) hq)) (exl EXH 11 rfl),
    isx_own (He.glo_ok X G (c.x.t.d.fact 11 (f := .glo "InvalidWell") rfl)) (fun q hq => XH _ (List.mem_map_of_mem (f := Prod.fst) hq)) (exl EXH 12 rfl),
    isx_own (He.glo_ok X G (c.x.t.d.fact 12 (f := .glo "InvalidWish") rfl)) (fun q hq => XH _ (List.mem_map_of_mem (f := Prod.fst) hq)) (exl EXH 13 rfl),
    isx_own (He.glo_ok X G (c.x.t.d.fact 13 (f := .glo "InvalidWishes") rfl)) (fun q hq => XH _ (List.mem_map_of_mem (f := Prod.fst) hq)) (exl EXH 14 rfl),
    isx_blt (Ts := "LookupError") (He.free_ok X G (c.x.t.d.fact 14 (f := .free "LookupError") rfl)) (by decide +kernel) (fun q hq => XH _ (List.mem_map_of_mem (f := Prod.fst) hq)) (exl EXH 15 rfl),
    isx_own (He.glo_ok X G (c.x.t.d.fact 15 (f := .glo "NoAnswer") rfl)) (fun q hq => XH _ (List.mem_map_of_mem (f := Prod.fst) hq)) (exl EXH 16 rfl),
    isx_own (He.glo_ok X G (c.x.t.d.fact 16 (f := .glo "NotAProgram") rfl)) (fun q hq => XH _ (List.mem_map_of_mem (f := Prod.fst) hq)) (exl EXH 17 rfl),
    isx_own (He.glo_ok X G (c.x.t.d.fact 17 (f := .glo "NothingToUndo") rfl)) (fun q hq => XH _ (List.mem_map_of_mem (f := Prod.fst) hq)) (exl EXH 18 rfl),
    isx_own (He.glo_ok X G (c.x.t.d.fact 18 (f := .glo "TooWide") rfl)) (fun q hq => XH _ (List.mem_map_of_mem (f := Prod.fst) hq)) (exl EXH 19 rfl),
    isx_own (He.glo_ok X G (c.x.t.d.fact 19 (f := .glo "UnknownName") rfl)) (fun q hq => XH _ (List.mem_map_of_mem (f := Prod.fst) hq)) (exl EXH 20 rfl),
    isx_blt (Ts := "ValueError") (He.free_ok X G (c.x.t.d.fact 20 (f := .free "ValueError") rfl)) (by decide +kernel) (fun q hq => XH _ (List.mem_map_of_mem (f := Prod.fst) hq)) (exl EXH 21 rfl),
    isx_own (He.glo_ok X G (c.x.t.d.fact 21 (f := .glo "WrongName") rfl)) (fun q hq => XH _ (List.mem_map_of_mem (f := Prod.fst) hq)) (exl EXH 22 rfl),
    isx_own (He.glo_ok X G (c.x.t.d.fact 22 (f := .glo "WrongValue") rfl)) (fun q hq => XH _ (List.mem_map_of_mem (f := Prod.fst) hq)) (exl EXH 23 rfl),
    xff_of (all_cons (He.glo_ok X G (c.x.t.d.fact 2 (f := .glo "Ended") rfl)) all_nil) (exl EXH 24 rfl),
    xff_of (all_cons (He.glo_ok X G (c.x.t.d.fact 8 (f := .glo "InvalidNumber") rfl)) (all_cons (He.glo_ok X G (c.x.t.d.fact 11 (f := .glo "InvalidWell") rfl)) (all_cons (He.glo_ok X G (c.x.t.d.fact 4 (f := .glo "InvalidBits") rfl)) (all_cons (He.glo_ok X G (c.x.t.d.fact 5 (f := .glo "InvalidCourse") rfl)) (all_cons (He.glo_ok X G (c.x.t.d.fact 10 (f := .glo "InvalidText") rfl)) (all_cons (He.glo_ok X G (c.x.t.d.fact 7 (f := .glo "InvalidName") rfl)) (all_cons (He.glo_ok X G (c.x.t.d.fact 12 (f := .glo "InvalidWish") rfl)) (all_cons (He.glo_ok X G (c.x.t.d.fact 16 (f := .glo "NotAProgram") rfl)) (all_cons (He.glo_ok X G (c.x.t.d.fact 19 (f := .glo "UnknownName") rfl)) (all_cons (He.glo_ok X G (c.x.t.d.fact 18 (f := .glo "TooWide") rfl)) all_nil)))))))))) (exl EXH 25 rfl),
    xff_of (all_cons (He.glo_ok X G (c.x.t.d.fact 9 (f := .glo "InvalidRows") rfl)) (all_cons (He.glo_ok X G (c.x.t.d.fact 6 (f := .glo "InvalidExchanges") rfl)) (all_cons (He.glo_ok X G (c.x.t.d.fact 13 (f := .glo "InvalidWishes") rfl)) (all_cons (He.glo_ok X G (c.x.t.d.fact 3 (f := .glo "InUse") rfl)) (all_cons (He.glo_ok X G (c.x.t.d.fact 1 (f := .glo "Broken") rfl)) all_nil))))) (exl EXH 26 rfl),
    xff_of (all_cons (He.glo_ok X G (c.x.t.d.fact 1 (f := .glo "Broken") rfl)) all_nil) (exl EXH 27 rfl),
    He.free_ok X G (c.x.t.d.fact 23 (f := .free "abs") rfl),
    He.free_ok X G (c.x.t.d.fact 24 (f := .free "all") rfl),
    He.free_ok X G (c.x.t.d.fact 25 (f := .free "divmod") rfl),
    He.free_ok X G (c.x.t.d.fact 26 (f := .free "int") rfl),
    He.free_ok X G (c.x.t.d.fact 27 (f := .free "isinstance") rfl),
    He.free_ok X G (c.x.t.d.fact 28 (f := .free "len") rfl),
    He.free_ok X G (c.x.t.d.fact 29 (f := .free "max") rfl),
    He.free_ok X G (c.x.t.d.fact 30 (f := .free "min") rfl),
    He.free_ok X G (c.x.t.d.fact 31 (f := .free "range") rfl),
    He.free_ok X G (c.x.t.d.fact 32 (f := .free "repr") rfl),
    He.int_ok X G (c.x.t.d.fact 33 (f := .int "MOST_BITS" 30) rfl),
    He.int_ok X G (c.x.t.d.fact 34 (f := .int "MOST_EXCHANGES" 6) rfl),
    He.int_ok X G (c.x.t.d.fact 35 (f := .int "MOST_FULL" 2) rfl),
    He.int_ok X G (c.x.t.d.fact 36 (f := .int "MOST_ROWS" 8) rfl),
    He.int_ok X G (c.x.t.d.fact 37 (f := .int "MOST_TIMES" 4) rfl),
    He.int_ok X G (c.x.t.d.fact 38 (f := .int "MOST_TOLD" 60) rfl),
    He.int_ok X G (c.x.t.d.fact 39 (f := .int "MOST_WIDE" 8) rfl)⟩
theorem facts {P : Program} {w : World} {K : PySem.W.Frag} {h : Heap} {mg : Str → Option Value} {f : Addr} (X : K.In h) (G : h.Ns mainGlobals mg) (hfa : mg ("law" : Str) = some (.ref f)) (c : SaysY FA FN TS GS EX w h K) (ce : ES.map (fun d => fnE K (d.ad K)) = ES.map ED.val) (hf : P.main.file = FILE) (top : (P.main.scope.names.lookup ("super" : Str)).isSome = false) :
    ∃ fd : FuncData, (∀ (s : Shared) (v : Value), BindsTo s fd ⟨[v], []⟩ [("_law_script", v)]) ∧ ∀ base : Heap, FnG P w K mg base 5 f fd ["_law_script"] (spM K mg m_law) := by
  have B := bt_of X G c
  obtain ⟨fd__law_error, F__law_error⟩ := c.x.t.d.def_ 0 (d := ⟨("_law_error", none), "_law_error", "_law_error", defArgs s__law_error, defBody s__law_error, defScope s__law_error, [], []⟩) rfl
  have F__law_error : FunD K "_law_error" "_law_error" (defArgs s__law_error) (defBody s__law_error) (defScope s__law_error) [] [] (He.fAd K ("_law_error", none)) fd__law_error := F__law_error
  obtain ⟨fd__law_errors, F__law_errors⟩ := c.x.t.d.def_ 1 (d := ⟨("_law_errors", none), "_law_errors", "_law_errors", defArgs s__law_errors, defBody s__law_errors, defScope s__law_errors, [], []⟩) rfl
  have F__law_errors : FunD K "_law_errors" "_law_errors" (defArgs s__law_errors) (defBody s__law_errors) (defScope s__law_errors) [] [] (He.fAd K ("_law_errors", none)) fd__law_errors := F__law_errors
  obtain ⟨fd__law_field, F__law_field⟩ := c.x.t.d.def_ 2 (d := ⟨("_law_field", none), "_law_field", "_law_field", defArgs s__law_field, defBody s__law_field, defScope s__law_field, [], []⟩) rfl
  have F__law_field : FunD K "_law_field" "_law_field" (defArgs s__law_field) (defBody s__law_field) (defScope s__law_field) [] [] (He.fAd K ("_law_field", none)) fd__law_field := F__law_field
  obtain ⟨fd__law_draw, F__law_draw⟩ := c.x.t.d.def_ 3 (d := ⟨("_law_draw", none), "_law_draw", "_law_draw", defArgs s__law_draw, defBody s__law_draw, defScope s__law_draw, [], []⟩) rfl
  have F__law_draw : FunD K "_law_draw" "_law_draw" (defArgs s__law_draw) (defBody s__law_draw) (defScope s__law_draw) [] [] (He.fAd K ("_law_draw", none)) fd__law_draw := F__law_draw
  obtain ⟨fd__law_of, F__law_of⟩ := c.x.t.d.def_ 4 (d := ⟨("_law_of", none), "_law_of", "_law_of", defArgs s__law_of, defBody s__law_of, defScope s__law_of, [], []⟩) rfl
  have F__law_of : FunD K "_law_of" "_law_of" (defArgs s__law_of) (defBody s__law_of) (defScope s__law_of) [] [] (He.fAd K ("_law_of", none)) fd__law_of := F__law_of
  obtain ⟨fd__law_odd, F__law_odd⟩ := c.x.t.d.def_ 5 (d := ⟨("_law_odd", none), "_law_odd", "_law_odd", defArgs s__law_odd, defBody s__law_odd, defScope s__law_odd, [], []⟩) rfl
  have F__law_odd : FunD K "_law_odd" "_law_odd" (defArgs s__law_odd) (defBody s__law_odd) (defScope s__law_odd) [] [] (He.fAd K ("_law_odd", none)) fd__law_odd := F__law_odd
  obtain ⟨fd__law_right, F__law_right⟩ := c.x.t.d.def_ 6 (d := ⟨("_law_right", none), "_law_right", "_law_right", defArgs s__law_right, defBody s__law_right, defScope s__law_right, [], []⟩) rfl
  have F__law_right : FunD K "_law_right" "_law_right" (defArgs s__law_right) (defBody s__law_right) (defScope s__law_right) [] [] (He.fAd K ("_law_right", none)) fd__law_right := F__law_right
  obtain ⟨fd__law_spring, F__law_spring⟩ := c.x.t.d.def_ 7 (d := ⟨("_law_spring", none), "_law_spring", "_law_spring", defArgs s__law_spring, defBody s__law_spring, defScope s__law_spring, [], []⟩) rfl
  have F__law_spring : FunD K "_law_spring" "_law_spring" (defArgs s__law_spring) (defBody s__law_spring) (defScope s__law_spring) [] [] (He.fAd K ("_law_spring", none)) fd__law_spring := F__law_spring
  obtain ⟨fd_law, F_law⟩ := c.x.t.d.def_ 8 (d := ⟨("law", none), "law", "law", defArgs s_law, defBody s_law, defScope s_law, [], []⟩) rfl
  have F_law : FunD K "law" "law" (defArgs s_law) (defBody s_law) (defScope s_law) [] [] (He.fAd K ("law", none)) fd_law := F_law
  have e := hfa.symm.trans (He.glo_ok X G (c.x.t.d.fact 49 (f := .glo "law") rfl))
  cases e
  refine ⟨fd_law, fun s v => FunD.bindsA (ps := ["_law_script"]) F_law (fun _ _ _ _ _ _ us hl => match us, hl with | [_], _ => rfl) s [v] rfl, fun base => ?_⟩
  have ex := c.ex_
  simp only [EX, Bool.and_eq_true] at ex
  have EXH : (EXL K).all id = true := ex
  have b__law_error : Binds K fd__law_error ["_law_e"] [] := FunD.bindsN F__law_error fun _ _ _ _ _ _ us hl => match us, hl with | [_], _ => rfl
  have o__law_error := ok__law_error (P := P) (base := base) B  F__law_error (He.glo_ok X G (c.x.t.d.fact 40 (f := .glo "_law_error") rfl)) F__law_error.kp b__law_error
  have xo_Ended : OexG K (He.ga K "Ended") := oexG_of PySem.F.excBase_ArithmeticError PySem.F.store_ArithmeticError PySem.W.kxs_ArithmeticError (exl EXH 28 rfl)
  obtain ⟨xk_Ended, xi_Ended, xt_Ended⟩ := ED.initK (P := P) (file := FILE) (d := (⟨"Ended", s_Ended_init, "Ended.__init__"⟩ : ED)) (List.map_inj_left.1 ce _ (List.mem_of_getElem? (i := 0) rfl)) (exl EXH 29 rfl) hf top
  have hx_e0_Ended_end : ExF P w K mg base "Ended" 0 ["end"] [("end", 0)] 1 := exF1 (g := (fun us ws => us ++ ws)) (gV := (fun vs zs => vs ++ zs)) (He.glo_ok X G (c.x.t.d.fact 2 (f := .glo "Ended") rfl)) xo_Ended xk_Ended xi_Ended xt_Ended rfl sn_Ended_init ⟨_, rfl, rfl⟩ _ (fun _ => rfl) rfl (He.free_ok X G (c.x.t.d.fact 41 (f := .free "super") rfl)) (eq_of_beq (exl EXH 30 rfl)) (by decide) (by decide) (fun cc cda doc pm ct an us ws h1 h2 => match us, ws, h1, h2 with | [_], [_], _, _ => rfl) (fun r1 r2 => r1.append r2) (fun a vs zs l1 l2 => match vs, zs, l1, l2 with | [], [v], _, _ => ⟨v, rfl, rfl⟩)
  have xo_InUse : OexG K (He.ga K "InUse") := oexG_of PySem.F.excBase_LookupError PySem.F.store_LookupError PySem.W.kxs_LookupError (exl EXH 31 rfl)
  obtain ⟨xk_InUse, xi_InUse, xt_InUse⟩ := ED.initK (P := P) (file := FILE) (d := (⟨"InUse", s_InUse_init, "InUse.__init__"⟩ : ED)) (List.map_inj_left.1 ce _ (List.mem_of_getElem? (i := 1) rfl)) (exl EXH 32 rfl) hf top
  have hx_e0_InUse_index : ExF P w K mg base "InUse" 0 ["index"] [("index", 0)] 1 := exF1 (g := (fun us ws => us ++ ws)) (gV := (fun vs zs => vs ++ zs)) (He.glo_ok X G (c.x.t.d.fact 3 (f := .glo "InUse") rfl)) xo_InUse xk_InUse xi_InUse xt_InUse rfl sn_InUse_init ⟨_, rfl, rfl⟩ _ (fun _ => rfl) rfl (He.free_ok X G (c.x.t.d.fact 41 (f := .free "super") rfl)) (eq_of_beq (exl EXH 33 rfl)) (by decide) (by decide) (fun cc cda doc pm ct an us ws h1 h2 => match us, ws, h1, h2 with | [_], [_], _, _ => rfl) (fun r1 r2 => r1.append r2) (fun a vs zs l1 l2 => match vs, zs, l1, l2 with | [], [v], _, _ => ⟨v, rfl, rfl⟩)
  have xo_InvalidBits : OexG K (He.ga K "InvalidBits") := oexG_of PySem.F.excBase_ValueError PySem.F.store_ValueError PySem.W.kxs_ValueError (exl EXH 34 rfl)
  obtain ⟨xk_InvalidBits, xi_InvalidBits, xt_InvalidBits⟩ := ED.initK (P := P) (file := FILE) (d := (⟨"InvalidBits", s_InvalidBits_init, "InvalidBits.__init__"⟩ : ED)) (List.map_inj_left.1 ce _ (List.mem_of_getElem? (i := 2) rfl)) (exl EXH 35 rfl) hf top
  have hx_e0_InvalidBits_given : ExF P w K mg base "InvalidBits" 0 ["given"] [("given", 0)] 1 := exF1 (g := (fun us ws => us ++ ws)) (gV := (fun vs zs => vs ++ zs)) (He.glo_ok X G (c.x.t.d.fact 4 (f := .glo "InvalidBits") rfl)) xo_InvalidBits xk_InvalidBits xi_InvalidBits xt_InvalidBits rfl sn_InvalidBits_init ⟨_, rfl, rfl⟩ _ (fun _ => rfl) rfl (He.free_ok X G (c.x.t.d.fact 41 (f := .free "super") rfl)) (eq_of_beq (exl EXH 36 rfl)) (by decide) (by decide) (fun cc cda doc pm ct an us ws h1 h2 => match us, ws, h1, h2 with | [_], [_], _, _ => rfl) (fun r1 r2 => r1.append r2) (fun a vs zs l1 l2 => match vs, zs, l1, l2 with | [], [v], _, _ => ⟨v, rfl, rfl⟩)
  have xo_InvalidCourse : OexG K (He.ga K "InvalidCourse") := oexG_of PySem.F.excBase_ValueError PySem.F.store_ValueError PySem.W.kxs_ValueError (exl EXH 37 rfl)
  obtain ⟨xk_InvalidCourse, xi_InvalidCourse, xt_InvalidCourse⟩ := ED.initK (P := P) (file := FILE) (d := (⟨"InvalidCourse", s_InvalidCourse_init, "InvalidCourse.__init__"⟩ : ED)) (List.map_inj_left.1 ce _ (List.mem_of_getElem? (i := 3) rfl)) (exl EXH 38 rfl) hf top
  have hx_e0_InvalidCourse_given : ExF P w K mg base "InvalidCourse" 0 ["given"] [("given", 0)] 1 := exF1 (g := (fun us ws => us ++ ws)) (gV := (fun vs zs => vs ++ zs)) (He.glo_ok X G (c.x.t.d.fact 5 (f := .glo "InvalidCourse") rfl)) xo_InvalidCourse xk_InvalidCourse xi_InvalidCourse xt_InvalidCourse rfl sn_InvalidCourse_init ⟨_, rfl, rfl⟩ _ (fun _ => rfl) rfl (He.free_ok X G (c.x.t.d.fact 41 (f := .free "super") rfl)) (eq_of_beq (exl EXH 39 rfl)) (by decide) (by decide) (fun cc cda doc pm ct an us ws h1 h2 => match us, ws, h1, h2 with | [_], [_], _, _ => rfl) (fun r1 r2 => r1.append r2) (fun a vs zs l1 l2 => match vs, zs, l1, l2 with | [], [v], _, _ => ⟨v, rfl, rfl⟩)
  have xo_InvalidExchanges : OexG K (He.ga K "InvalidExchanges") := oexG_of PySem.F.excBase_ValueError PySem.F.store_ValueError PySem.W.kxs_ValueError (exl EXH 40 rfl)
  obtain ⟨xk_InvalidExchanges, xi_InvalidExchanges, xt_InvalidExchanges⟩ := ED.initK (P := P) (file := FILE) (d := (⟨"InvalidExchanges", s_InvalidExchanges_init, "InvalidExchanges.__init__"⟩ : ED)) (List.map_inj_left.1 ce _ (List.mem_of_getElem? (i := 4) rfl)) (exl EXH 41 rfl) hf top
  have hx_e0_InvalidExchanges_index : ExF P w K mg base "InvalidExchanges" 0 ["index"] [("index", 0)] 1 := exF1 (g := (fun us ws => us ++ ws)) (gV := (fun vs zs => vs ++ zs)) (He.glo_ok X G (c.x.t.d.fact 6 (f := .glo "InvalidExchanges") rfl)) xo_InvalidExchanges xk_InvalidExchanges xi_InvalidExchanges xt_InvalidExchanges rfl sn_InvalidExchanges_init ⟨_, rfl, rfl⟩ _ (fun _ => rfl) rfl (He.free_ok X G (c.x.t.d.fact 41 (f := .free "super") rfl)) (eq_of_beq (exl EXH 42 rfl)) (by decide) (by decide) (fun cc cda doc pm ct an us ws h1 h2 => match us, ws, h1, h2 with | [_], [_], _, _ => rfl) (fun r1 r2 => r1.append r2) (fun a vs zs l1 l2 => match vs, zs, l1, l2 with | [], [v], _, _ => ⟨v, rfl, rfl⟩)
  have xo_InvalidName : OexG K (He.ga K "InvalidName") := oexG_of PySem.F.excBase_ValueError PySem.F.store_ValueError PySem.W.kxs_ValueError (exl EXH 43 rfl)
  obtain ⟨xk_InvalidName, xi_InvalidName, xt_InvalidName⟩ := ED.initK (P := P) (file := FILE) (d := (⟨"InvalidName", s_InvalidName_init, "InvalidName.__init__"⟩ : ED)) (List.map_inj_left.1 ce _ (List.mem_of_getElem? (i := 5) rfl)) (exl EXH 44 rfl) hf top
  have hx_e0_InvalidName_given : ExF P w K mg base "InvalidName" 0 ["given"] [("given", 0)] 1 := exF1 (g := (fun us ws => us ++ ws)) (gV := (fun vs zs => vs ++ zs)) (He.glo_ok X G (c.x.t.d.fact 7 (f := .glo "InvalidName") rfl)) xo_InvalidName xk_InvalidName xi_InvalidName xt_InvalidName rfl sn_InvalidName_init ⟨_, rfl, rfl⟩ _ (fun _ => rfl) rfl (He.free_ok X G (c.x.t.d.fact 41 (f := .free "super") rfl)) (eq_of_beq (exl EXH 45 rfl)) (by decide) (by decide) (fun cc cda doc pm ct an us ws h1 h2 => match us, ws, h1, h2 with | [_], [_], _, _ => rfl) (fun r1 r2 => r1.append r2) (fun a vs zs l1 l2 => match vs, zs, l1, l2 with | [], [v], _, _ => ⟨v, rfl, rfl⟩)
  have xo_InvalidNumber : OexG K (He.ga K "InvalidNumber") := oexG_of PySem.F.excBase_ValueError PySem.F.store_ValueError PySem.W.kxs_ValueError (exl EXH 46 rfl)
  obtain ⟨xk_InvalidNumber, xi_InvalidNumber, xt_InvalidNumber⟩ := ED.initK (P := P) (file := FILE) (d := (⟨"InvalidNumber", s_InvalidNumber_init, "InvalidNumber.__init__"⟩ : ED)) (List.map_inj_left.1 ce _ (List.mem_of_getElem? (i := 6) rfl)) (exl EXH 47 rfl) hf top
  have hx_e0_InvalidNumber_given : ExF P w K mg base "InvalidNumber" 0 ["given"] [("given", 0)] 1 := exF1 (g := (fun us ws => us ++ ws)) (gV := (fun vs zs => vs ++ zs)) (He.glo_ok X G (c.x.t.d.fact 8 (f := .glo "InvalidNumber") rfl)) xo_InvalidNumber xk_InvalidNumber xi_InvalidNumber xt_InvalidNumber rfl sn_InvalidNumber_init ⟨_, rfl, rfl⟩ _ (fun _ => rfl) rfl (He.free_ok X G (c.x.t.d.fact 41 (f := .free "super") rfl)) (eq_of_beq (exl EXH 48 rfl)) (by decide) (by decide) (fun cc cda doc pm ct an us ws h1 h2 => match us, ws, h1, h2 with | [_], [_], _, _ => rfl) (fun r1 r2 => r1.append r2) (fun a vs zs l1 l2 => match vs, zs, l1, l2 with | [], [v], _, _ => ⟨v, rfl, rfl⟩)
  have xo_InvalidRows : OexG K (He.ga K "InvalidRows") := oexG_of PySem.F.excBase_ValueError PySem.F.store_ValueError PySem.W.kxs_ValueError (exl EXH 49 rfl)
  obtain ⟨xk_InvalidRows, xi_InvalidRows, xt_InvalidRows⟩ := ED.initK (P := P) (file := FILE) (d := (⟨"InvalidRows", s_InvalidRows_init, "InvalidRows.__init__"⟩ : ED)) (List.map_inj_left.1 ce _ (List.mem_of_getElem? (i := 7) rfl)) (exl EXH 50 rfl) hf top
  have hx_e0_InvalidRows_index : ExF P w K mg base "InvalidRows" 0 ["index"] [("index", 0)] 1 := exF1 (g := (fun us ws => us ++ ws)) (gV := (fun vs zs => vs ++ zs)) (He.glo_ok X G (c.x.t.d.fact 9 (f := .glo "InvalidRows") rfl)) xo_InvalidRows xk_InvalidRows xi_InvalidRows xt_InvalidRows rfl sn_InvalidRows_init ⟨_, rfl, rfl⟩ _ (fun _ => rfl) rfl (He.free_ok X G (c.x.t.d.fact 41 (f := .free "super") rfl)) (eq_of_beq (exl EXH 51 rfl)) (by decide) (by decide) (fun cc cda doc pm ct an us ws h1 h2 => match us, ws, h1, h2 with | [_], [_], _, _ => rfl) (fun r1 r2 => r1.append r2) (fun a vs zs l1 l2 => match vs, zs, l1, l2 with | [], [v], _, _ => ⟨v, rfl, rfl⟩)
  have xo_InvalidText : OexG K (He.ga K "InvalidText") := oexG_of PySem.F.excBase_ValueError PySem.F.store_ValueError PySem.W.kxs_ValueError (exl EXH 52 rfl)
  obtain ⟨xk_InvalidText, xi_InvalidText, xt_InvalidText⟩ := ED.initK (P := P) (file := FILE) (d := (⟨"InvalidText", s_InvalidText_init, "InvalidText.__init__"⟩ : ED)) (List.map_inj_left.1 ce _ (List.mem_of_getElem? (i := 8) rfl)) (exl EXH 53 rfl) hf top
  have hx_e0_InvalidText_given : ExF P w K mg base "InvalidText" 0 ["given"] [("given", 0)] 1 := exF1 (g := (fun us ws => us ++ ws)) (gV := (fun vs zs => vs ++ zs)) (He.glo_ok X G (c.x.t.d.fact 10 (f := .glo "InvalidText") rfl)) xo_InvalidText xk_InvalidText xi_InvalidText xt_InvalidText rfl sn_InvalidText_init ⟨_, rfl, rfl⟩ _ (fun _ => rfl) rfl (He.free_ok X G (c.x.t.d.fact 41 (f := .free "super") rfl)) (eq_of_beq (exl EXH 54 rfl)) (by decide) (by decide) (fun cc cda doc pm ct an us ws h1 h2 => match us, ws, h1, h2 with | [_], [_], _, _ => rfl) (fun r1 r2 => r1.append r2) (fun a vs zs l1 l2 => match vs, zs, l1, l2 with | [], [v], _, _ => ⟨v, rfl, rfl⟩)
  have xo_InvalidWell : OexG K (He.ga K "InvalidWell") := oexG_of PySem.F.excBase_ValueError PySem.F.store_ValueError PySem.W.kxs_ValueError (exl EXH 55 rfl)
  obtain ⟨xk_InvalidWell, xi_InvalidWell, xt_InvalidWell⟩ := ED.initK (P := P) (file := FILE) (d := (⟨"InvalidWell", s_InvalidWell_init, "InvalidWell.__init__"⟩ : ED)) (List.map_inj_left.1 ce _ (List.mem_of_getElem? (i := 9) rfl)) (exl EXH 56 rfl) hf top
  have hx_e0_InvalidWell_given : ExF P w K mg base "InvalidWell" 0 ["given"] [("given", 0)] 1 := exF1 (g := (fun us ws => us ++ ws)) (gV := (fun vs zs => vs ++ zs)) (He.glo_ok X G (c.x.t.d.fact 11 (f := .glo "InvalidWell") rfl)) xo_InvalidWell xk_InvalidWell xi_InvalidWell xt_InvalidWell rfl sn_InvalidWell_init ⟨_, rfl, rfl⟩ _ (fun _ => rfl) rfl (He.free_ok X G (c.x.t.d.fact 41 (f := .free "super") rfl)) (eq_of_beq (exl EXH 57 rfl)) (by decide) (by decide) (fun cc cda doc pm ct an us ws h1 h2 => match us, ws, h1, h2 with | [_], [_], _, _ => rfl) (fun r1 r2 => r1.append r2) (fun a vs zs l1 l2 => match vs, zs, l1, l2 with | [], [v], _, _ => ⟨v, rfl, rfl⟩)
  have xo_InvalidWish : OexG K (He.ga K "InvalidWish") := oexG_of PySem.F.excBase_ValueError PySem.F.store_ValueError PySem.W.kxs_ValueError (exl EXH 58 rfl)
  obtain ⟨xk_InvalidWish, xi_InvalidWish, xt_InvalidWish⟩ := ED.initK (P := P) (file := FILE) (d := (⟨"InvalidWish", s_InvalidWish_init, "InvalidWish.__init__"⟩ : ED)) (List.map_inj_left.1 ce _ (List.mem_of_getElem? (i := 10) rfl)) (exl EXH 59 rfl) hf top
  have hx_e0_InvalidWish_given : ExF P w K mg base "InvalidWish" 0 ["given"] [("given", 0)] 1 := exF1 (g := (fun us ws => us ++ ws)) (gV := (fun vs zs => vs ++ zs)) (He.glo_ok X G (c.x.t.d.fact 12 (f := .glo "InvalidWish") rfl)) xo_InvalidWish xk_InvalidWish xi_InvalidWish xt_InvalidWish rfl sn_InvalidWish_init ⟨_, rfl, rfl⟩ _ (fun _ => rfl) rfl (He.free_ok X G (c.x.t.d.fact 41 (f := .free "super") rfl)) (eq_of_beq (exl EXH 60 rfl)) (by decide) (by decide) (fun cc cda doc pm ct an us ws h1 h2 => match us, ws, h1, h2 with | [_], [_], _, _ => rfl) (fun r1 r2 => r1.append r2) (fun a vs zs l1 l2 => match vs, zs, l1, l2 with | [], [v], _, _ => ⟨v, rfl, rfl⟩)
  have xo_InvalidWishes : OexG K (He.ga K "InvalidWishes") := oexG_of PySem.F.excBase_ValueError PySem.F.store_ValueError PySem.W.kxs_ValueError (exl EXH 61 rfl)
  obtain ⟨xk_InvalidWishes, xi_InvalidWishes, xt_InvalidWishes⟩ := ED.initK (P := P) (file := FILE) (d := (⟨"InvalidWishes", s_InvalidWishes_init, "InvalidWishes.__init__"⟩ : ED)) (List.map_inj_left.1 ce _ (List.mem_of_getElem? (i := 11) rfl)) (exl EXH 62 rfl) hf top
  have hx_e0_InvalidWishes_index : ExF P w K mg base "InvalidWishes" 0 ["index"] [("index", 0)] 1 := exF1 (g := (fun us ws => us ++ ws)) (gV := (fun vs zs => vs ++ zs)) (He.glo_ok X G (c.x.t.d.fact 13 (f := .glo "InvalidWishes") rfl)) xo_InvalidWishes xk_InvalidWishes xi_InvalidWishes xt_InvalidWishes rfl sn_InvalidWishes_init ⟨_, rfl, rfl⟩ _ (fun _ => rfl) rfl (He.free_ok X G (c.x.t.d.fact 41 (f := .free "super") rfl)) (eq_of_beq (exl EXH 63 rfl)) (by decide) (by decide) (fun cc cda doc pm ct an us ws h1 h2 => match us, ws, h1, h2 with | [_], [_], _, _ => rfl) (fun r1 r2 => r1.append r2) (fun a vs zs l1 l2 => match vs, zs, l1, l2 with | [], [v], _, _ => ⟨v, rfl, rfl⟩)
  have xo_NotAProgram : OexG K (He.ga K "NotAProgram") := oexG_of PySem.F.excBase_ValueError PySem.F.store_ValueError PySem.W.kxs_ValueError (exl EXH 64 rfl)
  obtain ⟨xk_NotAProgram, xi_NotAProgram, xt_NotAProgram⟩ := ED.initK (P := P) (file := FILE) (d := (⟨"NotAProgram", s_NotAProgram_init, "NotAProgram.__init__"⟩ : ED)) (List.map_inj_left.1 ce _ (List.mem_of_getElem? (i := 12) rfl)) (exl EXH 65 rfl) hf top
  have hx_e0_NotAProgram_given : ExF P w K mg base "NotAProgram" 0 ["given"] [("given", 0)] 1 := exF1 (g := (fun us ws => us ++ ws)) (gV := (fun vs zs => vs ++ zs)) (He.glo_ok X G (c.x.t.d.fact 16 (f := .glo "NotAProgram") rfl)) xo_NotAProgram xk_NotAProgram xi_NotAProgram xt_NotAProgram rfl sn_NotAProgram_init ⟨_, rfl, rfl⟩ _ (fun _ => rfl) rfl (He.free_ok X G (c.x.t.d.fact 41 (f := .free "super") rfl)) (eq_of_beq (exl EXH 66 rfl)) (by decide) (by decide) (fun cc cda doc pm ct an us ws h1 h2 => match us, ws, h1, h2 with | [_], [_], _, _ => rfl) (fun r1 r2 => r1.append r2) (fun a vs zs l1 l2 => match vs, zs, l1, l2 with | [], [v], _, _ => ⟨v, rfl, rfl⟩)
  have xo_TooWide : OexG K (He.ga K "TooWide") := oexG_of PySem.F.excBase_ArithmeticError PySem.F.store_ArithmeticError PySem.W.kxs_ArithmeticError (exl EXH 67 rfl)
  obtain ⟨xk_TooWide, xi_TooWide, xt_TooWide⟩ := ED.initK (P := P) (file := FILE) (d := (⟨"TooWide", s_TooWide_init, "TooWide.__init__"⟩ : ED)) (List.map_inj_left.1 ce _ (List.mem_of_getElem? (i := 13) rfl)) (exl EXH 68 rfl) hf top
  have hx_e0_TooWide_given : ExF P w K mg base "TooWide" 0 ["given"] [("given", 0)] 1 := exF1 (g := (fun us ws => us ++ ws)) (gV := (fun vs zs => vs ++ zs)) (He.glo_ok X G (c.x.t.d.fact 18 (f := .glo "TooWide") rfl)) xo_TooWide xk_TooWide xi_TooWide xt_TooWide rfl sn_TooWide_init ⟨_, rfl, rfl⟩ _ (fun _ => rfl) rfl (He.free_ok X G (c.x.t.d.fact 41 (f := .free "super") rfl)) (eq_of_beq (exl EXH 69 rfl)) (by decide) (by decide) (fun cc cda doc pm ct an us ws h1 h2 => match us, ws, h1, h2 with | [_], [_], _, _ => rfl) (fun r1 r2 => r1.append r2) (fun a vs zs l1 l2 => match vs, zs, l1, l2 with | [], [v], _, _ => ⟨v, rfl, rfl⟩)
  have xo_UnknownName : OexG K (He.ga K "UnknownName") := oexG_of PySem.F.excBase_LookupError PySem.F.store_LookupError PySem.W.kxs_LookupError (exl EXH 70 rfl)
  obtain ⟨xk_UnknownName, xi_UnknownName, xt_UnknownName⟩ := ED.initK (P := P) (file := FILE) (d := (⟨"UnknownName", s_UnknownName_init, "UnknownName.__init__"⟩ : ED)) (List.map_inj_left.1 ce _ (List.mem_of_getElem? (i := 14) rfl)) (exl EXH 71 rfl) hf top
  have hx_e0_UnknownName_given : ExF P w K mg base "UnknownName" 0 ["given"] [("given", 0)] 1 := exF1 (g := (fun us ws => us ++ ws)) (gV := (fun vs zs => vs ++ zs)) (He.glo_ok X G (c.x.t.d.fact 19 (f := .glo "UnknownName") rfl)) xo_UnknownName xk_UnknownName xi_UnknownName xt_UnknownName rfl sn_UnknownName_init ⟨_, rfl, rfl⟩ _ (fun _ => rfl) rfl (He.free_ok X G (c.x.t.d.fact 41 (f := .free "super") rfl)) (eq_of_beq (exl EXH 72 rfl)) (by decide) (by decide) (fun cc cda doc pm ct an us ws h1 h2 => match us, ws, h1, h2 with | [_], [_], _, _ => rfl) (fun r1 r2 => r1.append r2) (fun a vs zs l1 l2 => match vs, zs, l1, l2 with | [], [v], _, _ => ⟨v, rfl, rfl⟩)
  have hx_e1_Ended : ExF P w K mg base "Ended" 1 [] [("end", 0)] 1 := exF1 (g := (fun us _ => us)) (gV := (fun vs _ => vs)) (He.glo_ok X G (c.x.t.d.fact 2 (f := .glo "Ended") rfl)) xo_Ended xk_Ended xi_Ended xt_Ended rfl sn_Ended_init ⟨_, rfl, rfl⟩ _ (fun _ => rfl) rfl (He.free_ok X G (c.x.t.d.fact 41 (f := .free "super") rfl)) (eq_of_beq (exl EXH 30 rfl)) (by decide) (by decide) (fun cc cda doc pm ct an us ws h1 h2 => match us, ws, h1, h2 with | [_, _], [], _, _ => rfl) (fun r1 _ => r1) (fun a vs zs l1 l2 => match vs, zs, l1, l2 with | [v], [], _, _ => ⟨v, rfl, rfl⟩)
  have hx_e1_InUse : ExF P w K mg base "InUse" 1 [] [("index", 0)] 1 := exF1 (g := (fun us _ => us)) (gV := (fun vs _ => vs)) (He.glo_ok X G (c.x.t.d.fact 3 (f := .glo "InUse") rfl)) xo_InUse xk_InUse xi_InUse xt_InUse rfl sn_InUse_init ⟨_, rfl, rfl⟩ _ (fun _ => rfl) rfl (He.free_ok X G (c.x.t.d.fact 41 (f := .free "super") rfl)) (eq_of_beq (exl EXH 33 rfl)) (by decide) (by decide) (fun cc cda doc pm ct an us ws h1 h2 => match us, ws, h1, h2 with | [_, _], [], _, _ => rfl) (fun r1 _ => r1) (fun a vs zs l1 l2 => match vs, zs, l1, l2 with | [v], [], _, _ => ⟨v, rfl, rfl⟩)
  have hx_e1_InvalidBits : ExF P w K mg base "InvalidBits" 1 [] [("given", 0)] 1 := exF1 (g := (fun us _ => us)) (gV := (fun vs _ => vs)) (He.glo_ok X G (c.x.t.d.fact 4 (f := .glo "InvalidBits") rfl)) xo_InvalidBits xk_InvalidBits xi_InvalidBits xt_InvalidBits rfl sn_InvalidBits_init ⟨_, rfl, rfl⟩ _ (fun _ => rfl) rfl (He.free_ok X G (c.x.t.d.fact 41 (f := .free "super") rfl)) (eq_of_beq (exl EXH 36 rfl)) (by decide) (by decide) (fun cc cda doc pm ct an us ws h1 h2 => match us, ws, h1, h2 with | [_, _], [], _, _ => rfl) (fun r1 _ => r1) (fun a vs zs l1 l2 => match vs, zs, l1, l2 with | [v], [], _, _ => ⟨v, rfl, rfl⟩)
  have hx_e1_InvalidCourse : ExF P w K mg base "InvalidCourse" 1 [] [("given", 0)] 1 := exF1 (g := (fun us _ => us)) (gV := (fun vs _ => vs)) (He.glo_ok X G (c.x.t.d.fact 5 (f := .glo "InvalidCourse") rfl)) xo_InvalidCourse xk_InvalidCourse xi_InvalidCourse xt_InvalidCourse rfl sn_InvalidCourse_init ⟨_, rfl, rfl⟩ _ (fun _ => rfl) rfl (He.free_ok X G (c.x.t.d.fact 41 (f := .free "super") rfl)) (eq_of_beq (exl EXH 39 rfl)) (by decide) (by decide) (fun cc cda doc pm ct an us ws h1 h2 => match us, ws, h1, h2 with | [_, _], [], _, _ => rfl) (fun r1 _ => r1) (fun a vs zs l1 l2 => match vs, zs, l1, l2 with | [v], [], _, _ => ⟨v, rfl, rfl⟩)
  have hx_e1_InvalidExchanges : ExF P w K mg base "InvalidExchanges" 1 [] [("index", 0)] 1 := exF1 (g := (fun us _ => us)) (gV := (fun vs _ => vs)) (He.glo_ok X G (c.x.t.d.fact 6 (f := .glo "InvalidExchanges") rfl)) xo_InvalidExchanges xk_InvalidExchanges xi_InvalidExchanges xt_InvalidExchanges rfl sn_InvalidExchanges_init ⟨_, rfl, rfl⟩ _ (fun _ => rfl) rfl (He.free_ok X G (c.x.t.d.fact 41 (f := .free "super") rfl)) (eq_of_beq (exl EXH 42 rfl)) (by decide) (by decide) (fun cc cda doc pm ct an us ws h1 h2 => match us, ws, h1, h2 with | [_, _], [], _, _ => rfl) (fun r1 _ => r1) (fun a vs zs l1 l2 => match vs, zs, l1, l2 with | [v], [], _, _ => ⟨v, rfl, rfl⟩)
  have hx_e1_InvalidName : ExF P w K mg base "InvalidName" 1 [] [("given", 0)] 1 := exF1 (g := (fun us _ => us)) (gV := (fun vs _ => vs)) (He.glo_ok X G (c.x.t.d.fact 7 (f := .glo "InvalidName") rfl)) xo_InvalidName xk_InvalidName xi_InvalidName xt_InvalidName rfl sn_InvalidName_init ⟨_, rfl, rfl⟩ _ (fun _ => rfl) rfl (He.free_ok X G (c.x.t.d.fact 41 (f := .free "super") rfl)) (eq_of_beq (exl EXH 45 rfl)) (by decide) (by decide) (fun cc cda doc pm ct an us ws h1 h2 => match us, ws, h1, h2 with | [_, _], [], _, _ => rfl) (fun r1 _ => r1) (fun a vs zs l1 l2 => match vs, zs, l1, l2 with | [v], [], _, _ => ⟨v, rfl, rfl⟩)
  have hx_e1_InvalidNumber : ExF P w K mg base "InvalidNumber" 1 [] [("given", 0)] 1 := exF1 (g := (fun us _ => us)) (gV := (fun vs _ => vs)) (He.glo_ok X G (c.x.t.d.fact 8 (f := .glo "InvalidNumber") rfl)) xo_InvalidNumber xk_InvalidNumber xi_InvalidNumber xt_InvalidNumber rfl sn_InvalidNumber_init ⟨_, rfl, rfl⟩ _ (fun _ => rfl) rfl (He.free_ok X G (c.x.t.d.fact 41 (f := .free "super") rfl)) (eq_of_beq (exl EXH 48 rfl)) (by decide) (by decide) (fun cc cda doc pm ct an us ws h1 h2 => match us, ws, h1, h2 with | [_, _], [], _, _ => rfl) (fun r1 _ => r1) (fun a vs zs l1 l2 => match vs, zs, l1, l2 with | [v], [], _, _ => ⟨v, rfl, rfl⟩)
  have hx_e1_InvalidRows : ExF P w K mg base "InvalidRows" 1 [] [("index", 0)] 1 := exF1 (g := (fun us _ => us)) (gV := (fun vs _ => vs)) (He.glo_ok X G (c.x.t.d.fact 9 (f := .glo "InvalidRows") rfl)) xo_InvalidRows xk_InvalidRows xi_InvalidRows xt_InvalidRows rfl sn_InvalidRows_init ⟨_, rfl, rfl⟩ _ (fun _ => rfl) rfl (He.free_ok X G (c.x.t.d.fact 41 (f := .free "super") rfl)) (eq_of_beq (exl EXH 51 rfl)) (by decide) (by decide) (fun cc cda doc pm ct an us ws h1 h2 => match us, ws, h1, h2 with | [_, _], [], _, _ => rfl) (fun r1 _ => r1) (fun a vs zs l1 l2 => match vs, zs, l1, l2 with | [v], [], _, _ => ⟨v, rfl, rfl⟩)
  have hx_e1_InvalidText : ExF P w K mg base "InvalidText" 1 [] [("given", 0)] 1 := exF1 (g := (fun us _ => us)) (gV := (fun vs _ => vs)) (He.glo_ok X G (c.x.t.d.fact 10 (f := .glo "InvalidText") rfl)) xo_InvalidText xk_InvalidText xi_InvalidText xt_InvalidText rfl sn_InvalidText_init ⟨_, rfl, rfl⟩ _ (fun _ => rfl) rfl (He.free_ok X G (c.x.t.d.fact 41 (f := .free "super") rfl)) (eq_of_beq (exl EXH 54 rfl)) (by decide) (by decide) (fun cc cda doc pm ct an us ws h1 h2 => match us, ws, h1, h2 with | [_, _], [], _, _ => rfl) (fun r1 _ => r1) (fun a vs zs l1 l2 => match vs, zs, l1, l2 with | [v], [], _, _ => ⟨v, rfl, rfl⟩)
  have hx_e1_InvalidWell : ExF P w K mg base "InvalidWell" 1 [] [("given", 0)] 1 := exF1 (g := (fun us _ => us)) (gV := (fun vs _ => vs)) (He.glo_ok X G (c.x.t.d.fact 11 (f := .glo "InvalidWell") rfl)) xo_InvalidWell xk_InvalidWell xi_InvalidWell xt_InvalidWell rfl sn_InvalidWell_init ⟨_, rfl, rfl⟩ _ (fun _ => rfl) rfl (He.free_ok X G (c.x.t.d.fact 41 (f := .free "super") rfl)) (eq_of_beq (exl EXH 57 rfl)) (by decide) (by decide) (fun cc cda doc pm ct an us ws h1 h2 => match us, ws, h1, h2 with | [_, _], [], _, _ => rfl) (fun r1 _ => r1) (fun a vs zs l1 l2 => match vs, zs, l1, l2 with | [v], [], _, _ => ⟨v, rfl, rfl⟩)
  have hx_e1_InvalidWish : ExF P w K mg base "InvalidWish" 1 [] [("given", 0)] 1 := exF1 (g := (fun us _ => us)) (gV := (fun vs _ => vs)) (He.glo_ok X G (c.x.t.d.fact 12 (f := .glo "InvalidWish") rfl)) xo_InvalidWish xk_InvalidWish xi_InvalidWish xt_InvalidWish rfl sn_InvalidWish_init ⟨_, rfl, rfl⟩ _ (fun _ => rfl) rfl (He.free_ok X G (c.x.t.d.fact 41 (f := .free "super") rfl)) (eq_of_beq (exl EXH 60 rfl)) (by decide) (by decide) (fun cc cda doc pm ct an us ws h1 h2 => match us, ws, h1, h2 with | [_, _], [], _, _ => rfl) (fun r1 _ => r1) (fun a vs zs l1 l2 => match vs, zs, l1, l2 with | [v], [], _, _ => ⟨v, rfl, rfl⟩)
  have hx_e1_InvalidWishes : ExF P w K mg base "InvalidWishes" 1 [] [("index", 0)] 1 := exF1 (g := (fun us _ => us)) (gV := (fun vs _ => vs)) (He.glo_ok X G (c.x.t.d.fact 13 (f := .glo "InvalidWishes") rfl)) xo_InvalidWishes xk_InvalidWishes xi_InvalidWishes xt_InvalidWishes rfl sn_InvalidWishes_init ⟨_, rfl, rfl⟩ _ (fun _ => rfl) rfl (He.free_ok X G (c.x.t.d.fact 41 (f := .free "super") rfl)) (eq_of_beq (exl EXH 63 rfl)) (by decide) (by decide) (fun cc cda doc pm ct an us ws h1 h2 => match us, ws, h1, h2 with | [_, _], [], _, _ => rfl) (fun r1 _ => r1) (fun a vs zs l1 l2 => match vs, zs, l1, l2 with | [v], [], _, _ => ⟨v, rfl, rfl⟩)
  have hx_e1_NotAProgram : ExF P w K mg base "NotAProgram" 1 [] [("given", 0)] 1 := exF1 (g := (fun us _ => us)) (gV := (fun vs _ => vs)) (He.glo_ok X G (c.x.t.d.fact 16 (f := .glo "NotAProgram") rfl)) xo_NotAProgram xk_NotAProgram xi_NotAProgram xt_NotAProgram rfl sn_NotAProgram_init ⟨_, rfl, rfl⟩ _ (fun _ => rfl) rfl (He.free_ok X G (c.x.t.d.fact 41 (f := .free "super") rfl)) (eq_of_beq (exl EXH 66 rfl)) (by decide) (by decide) (fun cc cda doc pm ct an us ws h1 h2 => match us, ws, h1, h2 with | [_, _], [], _, _ => rfl) (fun r1 _ => r1) (fun a vs zs l1 l2 => match vs, zs, l1, l2 with | [v], [], _, _ => ⟨v, rfl, rfl⟩)
  have hx_e1_TooWide : ExF P w K mg base "TooWide" 1 [] [("given", 0)] 1 := exF1 (g := (fun us _ => us)) (gV := (fun vs _ => vs)) (He.glo_ok X G (c.x.t.d.fact 18 (f := .glo "TooWide") rfl)) xo_TooWide xk_TooWide xi_TooWide xt_TooWide rfl sn_TooWide_init ⟨_, rfl, rfl⟩ _ (fun _ => rfl) rfl (He.free_ok X G (c.x.t.d.fact 41 (f := .free "super") rfl)) (eq_of_beq (exl EXH 69 rfl)) (by decide) (by decide) (fun cc cda doc pm ct an us ws h1 h2 => match us, ws, h1, h2 with | [_, _], [], _, _ => rfl) (fun r1 _ => r1) (fun a vs zs l1 l2 => match vs, zs, l1, l2 with | [v], [], _, _ => ⟨v, rfl, rfl⟩)
  have hx_e1_UnknownName : ExF P w K mg base "UnknownName" 1 [] [("given", 0)] 1 := exF1 (g := (fun us _ => us)) (gV := (fun vs _ => vs)) (He.glo_ok X G (c.x.t.d.fact 19 (f := .glo "UnknownName") rfl)) xo_UnknownName xk_UnknownName xi_UnknownName xt_UnknownName rfl sn_UnknownName_init ⟨_, rfl, rfl⟩ _ (fun _ => rfl) rfl (He.free_ok X G (c.x.t.d.fact 41 (f := .free "super") rfl)) (eq_of_beq (exl EXH 72 rfl)) (by decide) (by decide) (fun cc cda doc pm ct an us ws h1 h2 => match us, ws, h1, h2 with | [_, _], [], _, _ => rfl) (fun r1 _ => r1) (fun a vs zs l1 l2 => match vs, zs, l1, l2 with | [v], [], _, _ => ⟨v, rfl, rfl⟩)
  have b__law_errors : Binds K fd__law_errors ["_law_thing"] [] := FunD.bindsN F__law_errors fun _ _ _ _ _ _ us hl => match us, hl with | [_], _ => rfl
  have o__law_errors := ok__law_errors (P := P) (base := base) B hx_e0_Ended_end hx_e0_InUse_index hx_e0_InvalidBits_given hx_e0_InvalidCourse_given hx_e0_InvalidExchanges_index hx_e0_InvalidName_given hx_e0_InvalidNumber_given hx_e0_InvalidRows_index hx_e0_InvalidText_given hx_e0_InvalidWell_given hx_e0_InvalidWish_given hx_e0_InvalidWishes_index hx_e0_NotAProgram_given hx_e0_TooWide_given hx_e0_UnknownName_given hx_e1_Ended hx_e1_InUse hx_e1_InvalidBits hx_e1_InvalidCourse hx_e1_InvalidExchanges hx_e1_InvalidName hx_e1_InvalidNumber hx_e1_InvalidRows hx_e1_InvalidText hx_e1_InvalidWell hx_e1_InvalidWish hx_e1_InvalidWishes hx_e1_NotAProgram hx_e1_TooWide hx_e1_UnknownName F__law_errors (He.glo_ok X G (c.x.t.d.fact 42 (f := .glo "_law_errors") rfl)) F__law_errors.kp b__law_errors
  have b__law_field : Binds K fd__law_field ["_law_e", "_law_word"] [] := FunD.bindsN F__law_field fun _ _ _ _ _ _ us hl => match us, hl with | [_, _], _ => rfl
  have o__law_field := ok__law_field (P := P) (base := base) B  F__law_field (He.glo_ok X G (c.x.t.d.fact 43 (f := .glo "_law_field") rfl)) F__law_field.kp b__law_field
  have b__law_draw : Binds K fd__law_draw ["_law_spring_here", "_law_size"] [] := FunD.bindsN F__law_draw fun _ _ _ _ _ _ us hl => match us, hl with | [_, _], _ => rfl
  have o__law_draw := ok__law_draw (P := P) (base := base) B  F__law_draw (He.glo_ok X G (c.x.t.d.fact 44 (f := .glo "_law_draw") rfl)) F__law_draw.kp b__law_draw
  have b__law_of : Binds K fd__law_of ["_law_spring_here", "_law_menu"] [] := FunD.bindsN F__law_of fun _ _ _ _ _ _ us hl => match us, hl with | [_, _], _ => rfl
  have o__law_of := ok__law_of (P := P) (base := base) B o__law_draw F__law_of (He.glo_ok X G (c.x.t.d.fact 45 (f := .glo "_law_of") rfl)) F__law_of.kp b__law_of
  have b__law_odd : Binds K fd__law_odd ["_law_spring_here"] [] := FunD.bindsN F__law_odd fun _ _ _ _ _ _ us hl => match us, hl with | [_], _ => rfl
  have o__law_odd := ok__law_odd (P := P) (base := base) B o__law_of F__law_odd (He.glo_ok X G (c.x.t.d.fact 46 (f := .glo "_law_odd") rfl)) F__law_odd.kp b__law_odd
  have xo_Broken : OexG K (He.ga K "Broken") := oexG_of PySem.F.excBase_ArithmeticError PySem.F.store_ArithmeticError PySem.W.kxs_ArithmeticError (exl EXH 73 rfl)
  obtain ⟨xk_Broken, xi_Broken, xt_Broken⟩ := ED.initK (P := P) (file := FILE) (d := (⟨"Broken", s_Broken_init, "Broken.__init__"⟩ : ED)) (List.map_inj_left.1 ce _ (List.mem_of_getElem? (i := 15) rfl)) (exl EXH 74 rfl) hf top
  have hx_e0_Broken_shown_index : ExF P w K mg base "Broken" 0 ["shown", "index"] [("shown", 0), ("index", 1)] 1 := exF2 (g := (fun us ws => us ++ swp ws)) (gV := (fun vs zs => vs ++ swp zs)) (He.glo_ok X G (c.x.t.d.fact 1 (f := .glo "Broken") rfl)) xo_Broken xk_Broken xi_Broken xt_Broken rfl sn_Broken_init ⟨_, rfl, rfl⟩ _ (fun _ => rfl) rfl (He.free_ok X G (c.x.t.d.fact 41 (f := .free "super") rfl)) (eq_of_beq (exl EXH 75 rfl)) (eq_of_beq (exl EXH 76 rfl)) (by decide) (by decide) (by decide) (by decide) (fun cc cda doc pm ct an us ws h1 h2 => match us, ws, h1, h2 with | [_], [_, _], _, _ => rfl) (fun r1 r2 => r1.append (swp_vals r2)) (fun a vs zs l1 l2 => match vs, zs, l1, l2 with | [], [v2, v], _, _ => ⟨v, v2, rfl, rfl⟩)
  have hx_e2_Broken : ExF P w K mg base "Broken" 2 [] [("shown", 1), ("index", 0)] 1 := exF2 (g := (fun us _ => us)) (gV := (fun vs _ => vs)) (He.glo_ok X G (c.x.t.d.fact 1 (f := .glo "Broken") rfl)) xo_Broken xk_Broken xi_Broken xt_Broken rfl sn_Broken_init ⟨_, rfl, rfl⟩ _ (fun _ => rfl) rfl (He.free_ok X G (c.x.t.d.fact 41 (f := .free "super") rfl)) (eq_of_beq (exl EXH 75 rfl)) (eq_of_beq (exl EXH 76 rfl)) (by decide) (by decide) (by decide) (by decide) (fun cc cda doc pm ct an us ws h1 h2 => match us, ws, h1, h2 with | [_, _, _], [], _, _ => rfl) (fun r1 _ => r1) (fun a vs zs l1 l2 => match vs, zs, l1, l2 with | [v, v2], [], _, _ => ⟨v, v2, rfl, rfl⟩)
  have hx_e_NothingToUndo : Ex0 K mg "NothingToUndo" := ⟨⟨_, _, _, _, _, (He.glo_ok X G (c.x.t.d.fact 17 (f := .glo "NothingToUndo") rfl)), PySem.F.excBase_ArithmeticError, (exl EXH 77 rfl), (exl EXH 78 rfl)⟩⟩
  have b__law_right : Binds K fd__law_right ["_law_spring_here"] [] := FunD.bindsN F__law_right fun _ _ _ _ _ _ us hl => match us, hl with | [_], _ => rfl
  have o__law_right := ok__law_right (P := P) (base := base) B o__law_error o__law_errors o__law_field o__law_odd hx_e0_Broken_shown_index hx_e2_Broken hx_e_NothingToUndo F__law_right (He.glo_ok X G (c.x.t.d.fact 47 (f := .glo "_law_right") rfl)) F__law_right.kp b__law_right
  have b__law_spring : Binds K fd__law_spring ["_law_cells", "_law_k"] [] := FunD.bindsN F__law_spring fun _ _ _ _ _ _ us hl => match us, hl with | [_, _], _ => rfl
  have o__law_spring := ok__law_spring (P := P) (base := base) B  F__law_spring (He.glo_ok X G (c.x.t.d.fact 48 (f := .glo "_law_spring") rfl)) F__law_spring.kp b__law_spring
  have hx_e_NoAnswer : Ex0 K mg "NoAnswer" := ⟨⟨_, _, _, _, _, (He.glo_ok X G (c.x.t.d.fact 15 (f := .glo "NoAnswer") rfl)), PySem.F.excBase_ArithmeticError, (exl EXH 79 rfl), (exl EXH 80 rfl)⟩⟩
  have hx_e_WrongName : Ex0 K mg "WrongName" := ⟨⟨_, _, _, _, _, (He.glo_ok X G (c.x.t.d.fact 21 (f := .glo "WrongName") rfl)), PySem.F.excBase_LookupError, (exl EXH 81 rfl), (exl EXH 82 rfl)⟩⟩
  have hx_e_WrongValue : Ex0 K mg "WrongValue" := ⟨⟨_, _, _, _, _, (He.glo_ok X G (c.x.t.d.fact 22 (f := .glo "WrongValue") rfl)), PySem.F.excBase_ValueError, (exl EXH 83 rfl), (exl EXH 84 rfl)⟩⟩
  have b_law : Binds K fd_law ["_law_script"] [] := FunD.bindsN F_law fun _ _ _ _ _ _ us hl => match us, hl with | [_], _ => rfl
  have o_law := ok_law (P := P) (base := base) B o__law_right o__law_spring hx_e_NoAnswer hx_e_WrongName hx_e_WrongValue F_law
  exact o_law
end LW
set_option maxRecDepth 1000000
set_option maxHeartbeats 0
namespace LW
open PySem PySem.Spec PyProof.Rows L2 DV
abbrev R : PySem.W.OpenRow := PySem.W.OpenLaw.row PySem.Challenge.rw_drawnbelow_k01_errors_and_limits
abbrev hk : PySem.W.Hook := hookE 4 FA FN TS GS ES EX
def ob (s : PySem.W.SharedT) : AlE := obsE 4 FA FN TS GS ES EX (HandSHeadRun.getT s)
theorem ob_eq (s : PySem.W.SharedT) : ob s = hk.obs s.abs := obsE_eq (HandSHeadRun.getT_eq s)
abbrev L0 : List Str := ["WrongValue", "InvalidNumber", "InvalidWell", "InvalidBits", "InvalidCourse", "InvalidText", "InvalidName", "InvalidWish", "NotAProgram", "InvalidRows", "InvalidExchanges", "InvalidWishes", "WrongName", "UnknownName", "InUse", "NoAnswer"]
abbrev L1 : List Str := ["TooWide", "Ended", "Broken", "NothingToUndo", "MOST_ROWS", "MOST_TIMES", "MOST_FULL", "MOST_WIDE", "MOST_TOLD", "MOST_BITS", "MOST_EXCHANGES", "_law_spring", "_law_draw", "_law_of", "_law_error", "_law_field"]
abbrev L2 : List Str := ["_law_odd", "_law_errors", "_law_right"]
abbrev LN : List Str := L0 ++ L1 ++ L2
theorem run (w : World) : HandSHeadRun.RunEq R (PySem.W.view R.prog [37]) hk ob 7000 LN w := by
  intro os
  kernel_rfl
end LW
set_option maxRecDepth 1000000
set_option maxHeartbeats 0
open PySem PySem.W PySem.Calls PyProof.Rows
theorem PySem.Challenge.cw_drawnbelow_k01_errors_and_limits_holds : PySem.Challenge.rw_drawnbelow_k01_errors_and_limits.Holds := by
  w_on; o_law
  refine HandSHeadRun.head_any (r := LW.R) (q := view LW.R.prog [37]) (H := LW.hk) (ob := LW.ob) (M := 7000) (loose := LW.LN) (d := HandSHeadRun.topDef LW.R.prog 37) (kwd := []) LW.ob_eq
    (by kernel_rfl) (fun s => by kernel_rfl) LW.run (by kernel_rfl) (by kernel_rfl) (by kernel_rfl) (by rfl) (by first | assumption | decide +kernel) (by decide +kernel) ⟨rfl, rfl, rfl, rfl, rfl, by decide +kernel⟩ ?hw ?hc
  case hw => w_witness2
  case hc =>
    refine DV.walkG (l := PySem.Challenge.rw_drawnbelow_k01_errors_and_limits) (n := 63) (k := 5) (x := "_law_script") (m := LW.m_law) rfl (by decide) (by kernel_rfl) ⟨rfl, by decide, by decide⟩ LW.plain fun w mg fa h Y G hmg0 => ?_
    obtain ⟨K, KX, c⟩ := Y
    have hmg : mg ("law" : PySem.Str) = some (.ref fa) := by
      have e : (HandSHeadRun.topDef LW.R.prog 37).name = ("law" : PySem.Str) := by kernel_rfl
      rw [← e]
      exact hmg0
    obtain ⟨fd, hb, hF⟩ := LW.facts (P := (PySem.Challenge.rw_drawnbelow_k01_errors_and_limits).prog) (w := w) KX G hmg c.y c.e (by kernel_rfl) (by kernel_rfl)
    exact ⟨K, fd, KX, hb, fun base _ _ => hF base⟩
