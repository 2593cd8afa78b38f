import PyProof.Rows.All
import Wide.All
import OpenK.AllK
import Wide.FinOn
import HandS.ForMost
import HandS.Evl
import HandS.Deep
import HandS.Conv
import HandS.IsInst
import HandS.TupAny
import HandS.TupMul
import HandS.Star
import HandS.More
import HandS.SortInts
import HandS.Zip
import HandS.TupSets
import HandS.SetBool
import HandS.SetFor
import HandS.DictComp
import HandS.Style
import HandS.Codes
import HandS.DeepEq
import HandS.SortKw
import HandS.Lambda
import HandS.ExcOwn
import HandS.Strs
import HandS.Small
import HandS.Flow
import KE.KDictCopyH
import KE.KDictKeyed
import KE.KeyNested
import KE.GoesMore
import KE.GoesZip
import KE.GoesEnum
import PyProof.EnumMake
import PyProof.DictUpdate
import KE.KDictList
import HandS.WordsExc
import HandS.ExcIs
import KE.SortKeyHeap
import PySem.Challenge.RW_pairpicks_k76_whole_all_moves_once
import KE.KDictDisplayH
import KE.KDictZip
import KE.KDictPairs
import PyProof.ReprRoads
import HandS.EndTab
set_option Elab.async false
section
set_option linter.all false
set_option maxRecDepth 100000
set_option maxHeartbeats 4000000
/-! B0: keys that are bools or texts. -/
namespace Dv
open PySem PySem.Spec PyProof.Rows L2 Evl

abbrev Bs := Bool ⊕ Str
def bsLeaf : Bs → Leaf
  | .inl b => .num (if b = true then 1 else 0)
  | .inr x => .text x
def bsIs : Bs → Value → Bool
  | .inl b, .bool c => b == c
  | .inr x, v => Value.isStrOf x v
  | _, _ => false
theorem bsIs_shape {k : Bs} {v : Value} (h : bsIs k v = true) : (∃ b, k = .inl b ∧ v = .bool b) ∨ ∃ x t, k = .inr x ∧ v = .str x t := by
  cases k with
  | inl b =>
    cases v with
    | bool c =>
      have e : b = c := eq_of_beq h
      subst e
      exact .inl ⟨b, rfl, rfl⟩
    | _ => exact absurd h Bool.false_ne_true
  | inr x =>
    obtain ⟨t, rfl⟩ := Value.isStrOf_shape (show Value.isStrOf x v = true from h)
    exact .inr ⟨x, t, rfl, rfl⟩
theorem bs_leaf {k : Bs} {v : Value} (h : bsIs k v = true) : Leaf.isOf (bsLeaf k) v = true := by
  rcases bsIs_shape h with ⟨b, rfl, rfl⟩ | ⟨x, t, rfl, rfl⟩
  · exact decide_eq_true rfl
  · exact h
theorem bsLeaf_inj {a b : Bs} (h : bsLeaf a = bsLeaf b) : a = b := by
  cases a with
  | inl a =>
    cases b with
    | inl b => cases a <;> cases b <;> first | rfl | exact absurd h (by decide)
    | inr y => exact nomatch h
  | inr x =>
    cases b with
    | inl b => exact nomatch h
    | inr y =>
      have e : x = y := by injection h
      rw [e]
def bsKind (prog : Program) (w : World) : PySem.KeyKind prog w Bs where
  is := bsIs
  hash := fun k => (bsLeaf k).key.hash w
  inj := fun v a b ha hb => bsLeaf_inj ((leafKind prog w).inj v _ _ (bs_leaf ha) (bs_leaf hb))
  byValue := fun k v h => (leafKind prog w).byValue _ v (bs_leaf h)
  pyHash := fun hv h => (leafKind prog w).pyHash (bs_leaf hv) h
  eqBool := fun {A E s a b u v Q} hu hv h => (leafKind prog w).eqBool (bs_leaf hu) (bs_leaf hv) (by
    have e : decide (bsLeaf a = bsLeaf b) = decide (a = b) := by
      by_cases q : a = b
      · rw [decide_eq_true q, decide_eq_true (congrArg bsLeaf q)]
      · rw [decide_eq_false q, decide_eq_false fun z => q (bsLeaf_inj z)]
    rw [e]
    exact h)
  «strs» := fun k x t v h => by
    rcases bsIs_shape h with ⟨b, rfl, e⟩ | ⟨y, u, rfl, e⟩
    · cases e
    · injection e with e1 e2
      subst e1
      cases v <;> rfl
def bsV : Bs → V
  | .inl b => .bl b
  | .inr x => .str x
theorem bs_rel {k : Bs} {v : Value} (h : bsIs k v = true) : RelV (bsV k) v := by
  rcases bsIs_shape h with ⟨b, rfl, rfl⟩ | ⟨x, t, rfl, rfl⟩
  · rfl
  · exact ⟨t, rfl⟩
theorem bs_is {k : Bs} {v : Value} (h : RelV (bsV k) v) : bsIs k v = true := by
  cases k with
  | inl b =>
    cases (show v = .bool b from h)
    exact beq_self_eq_true b
  | inr x =>
    obtain ⟨t, rfl⟩ := (show ∃ t, v = .str x t from h)
    show Value.isStrOf x (.str x t) = true
    cases e : Value.isStrOf x (.str x t) with
    | true => rfl
    | false =>
      have : (x == x) = false := e
      rw [beq_self_eq_true] at this
      cases this
/-- the dict with those keys at a -/
def mixO (P : Program) (w : World) (a : Addr) (ks : List Bs) : HO := .ext fun h => (a == sysModules) = false ∧ ∃ kvs : List (Bs × Value), kvs.map (·.1) = ks ∧ h.DictOf (bsKind P w) a kvs
theorem mixO_new {P : Program} {w : World} {H : Hp} {h : Heap} {a : Addr} {ks : List Bs} {kvs : List (Bs × Value)} (lo : (a == sysModules) = false) (e : kvs.map (·.1) = ks) (d : h.DictOf (bsKind P w) a kvs) : ObjOk P w H h a (mixO P w a ks) := by
  refine ⟨⟨lo, kvs, e, d⟩, ?_, fun h1 h2 p k => ?_⟩
  · obtain ⟨o, _, _, ho, _⟩ := d
    exact ⟨o, ho⟩
  · obtain ⟨lo, kvs, e, d⟩ := p
    exact ⟨lo, kvs, e, d.at k⟩
end Dv
end
section
set_option linter.all false
set_option maxRecDepth 100000
set_option maxHeartbeats 4000000
/-! A0: Python's data as plain Lean data (D), what a value in the abstract heap stands for (Rep), the answers' monad (M), and the readings that say "this expression computes that function" (tD and its like). -/
namespace Dv
open PySem PySem.Spec PyProof.Rows L2 Evl

/-- data -/
inductive D where
  | non | bl (b : Bool) | int (i : Int) | str (x : Str)
  | tup (ds : List D) | lst (ds : List D)
  /-- a dict whose keys are ints -/
  | dic (kvs : List (Int × D))
  /-- a dict by its keys alone: bools and texts -/
  | mix (ks : List Bs)
  /-- a set of ints -/
  | sti (ns : List Int)
  /-- the draws' state -/
  | st

/-- where the draws' state lies: its dict, its list of large numbers, its list of cells -/
structure Zs where
  on : Bool
  p : Addr
  l : Addr
  c : Addr
/-- the state's own things -/
def Zs.own (Z : Zs) (a : Addr) : Prop := Z.on = true ∧ (a = Z.p ∨ a = Z.l ∨ a = Z.c)
/-- the tables of code objects that the lambdas' makers hold, and the lambdas' names -/
def tbl0 : List (Addr × Str) := [(356, "parting_by.<locals>.<lambda>"), (515, "law.<locals>.<lambda>")]
def Zs.has (Z : Zs) (a : Addr) : Prop := Z.own a ∨ ∃ q, (a, q) ∈ tbl0
def stKvs (l c : Addr) (x t : Int) : List (Key × V) := [(.inr "large", .ref l), (.inr "cells", .ref c), (.inr "left", .int x), (.inr "turn", .int t)]
/-- the state stands there, and n more draws are allowed -/
def StOk (Z : Zs) (n : Nat) (H : Hp) : Prop := Z.on = true → ∃ (ls cs : List Int) (x t : Int),
  H Z.p = some (.dK (stKvs Z.l Z.c x t)) ∧ H Z.l = some (.lst (ls.map V.int)) ∧ H Z.c = some (.lst (cs.map V.int)) ∧ Z.l ≠ Z.c ∧ 0 ≤ t ∧ t + n ≤ 1000000 ∧ 0 ≤ x ∧ (∀ i ∈ ls, 0 ≤ i) ∧ cs.length ≤ 1000 ∧ ls.length ≤ 1000

/-- the program, the world, the written part -/
structure Gx where
  P : Program
  w : World
  K : PySem.W.Frag

mutual
/-- the value stands for the data, by what F tells -/
inductive Rep (G : Gx) (Z : Zs) (F : Hp) : V → D → Prop
  | non : Rep G Z F .non .non
  | bl (b) : Rep G Z F (.bl b) (.bl b)
  | int (i) : Rep G Z F (.int i) (.int i)
  | str (x) : Rep G Z F (.str x) (.str x)
  | tup {a vs ds} : SqT G.K F a vs → Reps G Z F vs ds → Rep G Z F (.ref a) (.tup ds)
  | lst {a vs ds} : F a = some (.lst vs) → Reps G Z F vs ds → Rep G Z F (.ref a) (.lst ds)
  | dic {a o ks vs kvs} : F a = some (.frz o (.dK (List.zip ks vs))) → ks = kvs.map (fun p => (Sum.inl p.1 : Key)) → Reps G Z F vs (kvs.map (·.2)) → Rep G Z F (.ref a) (.dic kvs)
  | mix {a o ks} : F a = some (.frz o (mixO G.P G.w a ks)) → Rep G Z F (.ref a) (.mix ks)
  | sti {a S n ns} : F a = some (SetO G.w a S n) → (∀ i, S i = decide (i ∈ ns)) → n = ns.length → Rep G Z F (.ref a) (.sti ns)
  | st : Z.on = true → Rep G Z F (.ref Z.p) .st
inductive Reps (G : Gx) (Z : Zs) (F : Hp) : List V → List D → Prop
  | nil : Reps G Z F [] []
  | cons {v d vs ds} : Rep G Z F v d → Reps G Z F vs ds → Reps G Z F (v :: vs) (d :: ds)
end

section
variable {G : Gx} {Z : Zs} {F F' : Hp}
mutual
theorem Rep.mono (e : Ex F F') : ∀ {v : V} {d : D}, Rep G Z F v d → Rep G Z F' v d
  | _, _, .non => .non
  | _, _, .bl b => .bl b
  | _, _, .int i => .int i
  | _, _, .str x => .str x
  | _, _, .tup h r => .tup (ex_t e h) (Reps.mono e r)
  | _, _, .lst h r => .lst (e _ _ h) (Reps.mono e r)
  | _, _, .dic h q r => .dic (e _ _ h) q (Reps.mono e r)
  | _, _, .mix h => .mix (e _ _ h)
  | _, _, .sti h s n => .sti (e _ _ h) s n
  | _, _, .st h => .st h
theorem Reps.mono (e : Ex F F') : ∀ {vs : List V} {ds : List D}, Reps G Z F vs ds → Reps G Z F' vs ds
  | _, _, .nil => .nil
  | _, _, .cons r t => .cons (Rep.mono e r) (Reps.mono e t)
end
theorem Reps.length : ∀ {vs : List V} {ds : List D}, Reps G Z F vs ds → vs.length = ds.length
  | _, _, .nil => rfl
  | _, _, .cons _ t => congrArg (· + 1) (Reps.length t)
theorem Reps.get : ∀ {vs : List V} {ds : List D} {i : Nat} {d : D}, Reps G Z F vs ds → ds[i]? = some d → ∃ v, vs[i]? = some v ∧ Rep G Z F v d
  | _, _, _, _, .nil, e => by simp at e
  | _, _, 0, _, .cons r _, e => by
    simp at e
    subst e
    exact ⟨_, rfl, r⟩
  | _, _, i + 1, d, .cons _ t, e => by
    obtain ⟨v, h1, h2⟩ := Reps.get (i := i) (d := d) t (by simpa using e)
    exact ⟨v, by simpa using h1, h2⟩
theorem Reps.getV : ∀ {vs : List V} {ds : List D} {i : Nat} {v : V}, Reps G Z F vs ds → vs[i]? = some v → ∃ d, ds[i]? = some d ∧ Rep G Z F v d
  | _, _, _, _, .nil, e => by simp at e
  | _, _, 0, _, .cons r _, e => by
    simp at e
    subst e
    exact ⟨_, rfl, r⟩
  | _, _, i + 1, d, .cons _ t, e => by
    obtain ⟨v, h1, h2⟩ := Reps.getV (i := i) (v := d) t (by simpa using e)
    exact ⟨v, by simpa using h1, h2⟩
theorem Reps.append : ∀ {vs ws : List V} {ds es : List D}, Reps G Z F vs ds → Reps G Z F ws es → Reps G Z F (vs ++ ws) (ds ++ es)
  | _, _, _, _, .nil, h => h
  | _, _, _, _, .cons r t, h => .cons r (Reps.append t h)
theorem Reps.take (n : Nat) : ∀ {vs : List V} {ds : List D}, Reps G Z F vs ds → Reps G Z F (vs.take n) (ds.take n) := by
  induction n with
  | zero => intro vs ds _; exact .nil
  | succ n ih =>
    intro vs ds h
    cases h with
    | nil => exact .nil
    | cons r t => exact .cons r (ih t)
theorem Reps.drop (n : Nat) : ∀ {vs : List V} {ds : List D}, Reps G Z F vs ds → Reps G Z F (vs.drop n) (ds.drop n) := by
  induction n with
  | zero => intro vs ds h; exact h
  | succ n ih =>
    intro vs ds h
    cases h with
    | nil => exact .nil
    | cons r t => exact ih t
theorem Reps.reverse : ∀ {vs : List V} {ds : List D}, Reps G Z F vs ds → Reps G Z F vs.reverse ds.reverse
  | _, _, .nil => .nil
  | _, _, .cons r t => by
    rw [List.reverse_cons, List.reverse_cons]
    exact (Reps.reverse t).append (.cons r .nil)
theorem Reps.set {v : V} {d : D} (r : Rep G Z F v d) : ∀ {vs : List V} {ds : List D} (i : Nat), Reps G Z F vs ds → Reps G Z F (vs.set i v) (ds.set i d)
  | _, _, _, .nil => .nil
  | _, _, 0, .cons _ t => .cons r t
  | _, _, i + 1, .cons q t => .cons q (Reps.set r i t)
theorem Reps.eraseIdx : ∀ {vs : List V} {ds : List D} (i : Nat), Reps G Z F vs ds → Reps G Z F (vs.eraseIdx i) (ds.eraseIdx i)
  | _, _, _, .nil => .nil
  | _, _, 0, .cons _ t => t
  | _, _, i + 1, .cons q t => .cons q (Reps.eraseIdx i t)
theorem Reps.ints : ∀ (ns : List Int), Reps G Z F (ns.map V.int) (ns.map D.int)
  | [] => .nil
  | n :: ns => .cons (.int n) (Reps.ints ns)
theorem Reps.ints_eq : ∀ {ns : List Int} {vs : List V}, Reps G Z F vs (ns.map D.int) → vs = ns.map V.int
  | [], _, h => by
    cases h
    rfl
  | n :: ns, _, h => by
    cases h with
    | cons r t =>
      cases r
      rw [Reps.ints_eq t]
      rfl
theorem Reps.bls_eq : ∀ {bs : List Bool} {vs : List V}, Reps G Z F vs (bs.map D.bl) → vs = bs.map V.bl
  | [], _, h => by
    cases h
    rfl
  | n :: ns, _, h => by
    cases h with
    | cons r t =>
      cases r
      rw [Reps.bls_eq t]
      rfl

mutual
/-- no list within -/
def noL : D → Bool
  | .lst _ => false
  | .tup ds => noLs ds
  | .dic kvs => noLk kvs
  | _ => true
def noLs : List D → Bool
  | [] => true
  | d :: ds => noL d && noLs ds
def noLk : List (Int × D) → Bool
  | [] => true
  | (_, d) :: r => noL d && noLk r
end
theorem noLk_map : ∀ (kvs : List (Int × D)), noLk kvs = noLs (kvs.map (·.2))
  | [] => rfl
  | (_, d) :: r => by
    show (noL d && noLk r) = (noL d && noLs (r.map (·.2)))
    rw [noLk_map r]
mutual
theorem Rep.drop {O : Addr → Prop} (hO : ∀ a, O a → ∃ vs, F a = some (.lst vs)) (hF : ∀ a, ¬ O a → F' a = F a) : ∀ {v : V} {d : D}, noL d = true → Rep G Z F v d → Rep G Z F' v d
  | _, _, _, .non => .non
  | _, _, _, .bl b => .bl b
  | _, _, _, .int i => .int i
  | _, _, _, .str x => .str x
  | _, .tup ds, n, .tup (a := a) h r => by
    refine .tup ?_ (Reps.dropO hO hF (show noLs ds = true from n) r)
    have key : ∀ u : HO, F a = some u → (∀ vs, u ≠ .lst vs) → F' a = some u := fun u e hu => by
      rw [hF a fun o => ?_, e]
      obtain ⟨vs, e'⟩ := hO a o
      rw [e] at e'
      exact hu vs (Option.some.inj e')
    rcases h with (h | ⟨o, h⟩) | h
    · exact .inl (.inl (key _ h fun _ => by intro z; cases z))
    · exact .inl (.inr ⟨o, key _ h fun _ => by intro z; cases z⟩)
    · exact .inr h
  | _, .lst ds, n, .lst _ _ => by cases n
  | _, .dic kvs, n, .dic (a := a) h q r => by
    have h' : F' a = F a := hF a fun o => by
      obtain ⟨vs, e'⟩ := hO a o
      rw [h] at e'
      cases e'
    exact .dic (h'.trans h) q (Reps.dropO hO hF (by rw [← noLk_map]; exact n) r)
  | _, _, _, .mix (a := a) h => by
    have h' : F' a = F a := hF a fun o => by
      obtain ⟨vs, e'⟩ := hO a o
      rw [h] at e'
      cases e'
    exact .mix (h'.trans h)
  | _, _, _, .sti (a := a) h s n => by
    have h' : F' a = F a := hF a fun o => by
      obtain ⟨vs, e'⟩ := hO a o
      rw [h] at e'
      cases e'
    exact .sti (h'.trans h) s n
  | _, _, _, .st h => .st h
theorem Reps.dropO {O : Addr → Prop} (hO : ∀ a, O a → ∃ vs, F a = some (.lst vs)) (hF : ∀ a, ¬ O a → F' a = F a) : ∀ {vs : List V} {ds : List D}, noLs ds = true → Reps G Z F vs ds → Reps G Z F' vs ds
  | _, _, _, .nil => .nil
  | _, d :: ds, n, .cons r t => by
    have n' : noL d = true ∧ noLs ds = true := by
      have : (noL d && noLs ds) = true := n
      simpa using this
    exact .cons (Rep.drop hO hF n'.1 r) (Reps.dropO hO hF n'.2 t)
end
end

/-! ### answers -/
/-- an answer: a value; a draw below k; an error; none -/
inductive M (α : Type) where
  | ret (a : α)
  | ask (k : Nat) (f : Nat → M α)
  | err (c : Nat)
  | bad
namespace M
def bind {α β : Type} : M α → (α → M β) → M β
  | .ret a, g => g a
  | .ask k f, g => .ask k fun i => (f i).bind g
  | .err c, _ => .err c
  | .bad, _ => .bad
instance : Monad M where
  pure := .ret
  bind := bind
/-- every draw's answer leads to Q; n draws are allowed -/
def wp {α : Type} : M α → Nat → (Nat → α → Prop) → Prop
  | .ret a, n, Q => Q n a
  | .ask k f, n, Q => 0 < k ∧ k ≤ 1000 ∧ 0 < n ∧ ∀ i, i < k → (f i).wp (n - 1) Q
  | .err _, _, _ => False
  | .bad, _, _ => False
theorem wp_bind {α β : Type} {g : α → M β} {Q : Nat → β → Prop} : ∀ {m : M α} {n : Nat}, (m.bind g).wp n Q ↔ m.wp n fun n' a => (g a).wp n' Q
  | .ret a, n => Iff.rfl
  | .ask k f, n => by
    constructor
    · rintro ⟨h1, h2, h3, h⟩
      exact ⟨h1, h2, h3, fun i hi => wp_bind.mp (h i hi)⟩
    · rintro ⟨h1, h2, h3, h⟩
      exact ⟨h1, h2, h3, fun i hi => wp_bind.mpr (h i hi)⟩
  | .err _, _ => Iff.rfl
  | .bad, _ => Iff.rfl
theorem wp_mono {α : Type} {Q Q' : Nat → α → Prop} (h : ∀ n a, Q n a → Q' n a) : ∀ {m : M α} {n : Nat}, m.wp n Q → m.wp n Q'
  | .ret a, n, q => h _ _ q
  | .ask k f, n, ⟨h1, h2, h3, q⟩ => ⟨h1, h2, h3, fun i hi => wp_mono h (q i hi)⟩
end M
theorem wp_then {α β : Type} {m : M α} {g : α → M β} {n : Nat} {Q : Nat → β → Prop} (h : (m >>= g).wp n Q) : m.wp n fun n' a => (g a).wp n' Q := M.wp_bind.mp h

/-! ### what is known, step by step -/
/-- known F, the whole H, n draws left -/
structure Wd where
  F : Hp
  H : Hp
  n : Nat
/-- the table at P stands, its code objects (of the name q) are known -/
def TabF (F H : Hp) (P : Addr) (q : Str) : Prop := ∃ ps : Array Value, H P = some (.tbl ps) ∧ TriplesOk ps.toList ∧ ∀ (pos : Pos) (cv : Value), codeAmong pos ps.toList = some cv → ∃ c, cv = .ref c ∧ F c = some (LamX.CodeO c q)
theorem TabF.mono {F F' H H' : Hp} {P : Addr} {q : Str} (t : TabF F H P q) (e : Ex F F') (h : H' P = H P) : TabF F' H' P q := by
  obtain ⟨ps, h1, h2, h3⟩ := t
  refine ⟨ps, h.trans h1, h2, fun pos cv hc => ?_⟩
  obtain ⟨c, e1, e2⟩ := h3 pos cv hc
  exact ⟨c, e1, e _ _ e2⟩
structure Gd (Z : Zs) (W : Wd) : Prop where
  sub : Ex W.F W.H
  st : StOk Z W.n W.H
  zf : ∀ a, Z.has a → W.F a = none
  tab : ∀ p ∈ tbl0, TabF W.F W.H p.1 p.2
/-- a step: all stands (but the state moves), new things are new -/
structure Gr (Z : Zs) (W W' : Wd) : Prop where
  ff : Ex W.F W'.F
  hh : ∀ a o, W.H a = some o → ¬ Z.has a → W'.H a = some o
  new : ∀ a, W.F a = none → W'.F a ≠ none → W.H a = none
  gd : Gd Z W'
section
variable {G : Gx} {Z : Zs} {W W1 W2 : Wd}
theorem Gr.refl (g : Gd Z W) : Gr Z W W := ⟨Ex.refl _, fun _ _ h _ => h, fun _ h h' => absurd h h', g⟩
theorem Gr.trans (a : Gr Z W W1) (b : Gr Z W1 W2) : Gr Z W W2 := by
  refine ⟨a.ff.trans b.ff, fun x o h n => b.hh x o (a.hh x o h n) n, fun x h h' => ?_, b.gd⟩
  by_cases q : W1.F x = none
  · have h1 := b.new x q h'
    cases e : W.H x with
    | none => rfl
    | some o =>
      by_cases z : Z.has x
      · exact absurd (b.gd.zf x z) h'
      · rw [a.hh x o e z] at h1
        cases h1
  · exact a.new x h q
theorem StOk.some {n : Nat} {H : Hp} (s : StOk Z n H) {a : Addr} (h : Z.own a) : ∃ o, H a = some o := by
  obtain ⟨on, h⟩ := h
  obtain ⟨ls, cs, x, t, h1, h2, h3, _⟩ := s on
  rcases h with rfl | rfl | rfl
  · exact ⟨_, h1⟩
  · exact ⟨_, h2⟩
  · exact ⟨_, h3⟩
theorem Gd.some (g : Gd Z W) {a : Addr} (h : Z.has a) : ∃ o, W.H a = some o := by
  rcases h with h | ⟨q, h⟩
  · exact g.st.some h
  · obtain ⟨ps, e, _⟩ := g.tab _ h
    exact ⟨_, e⟩
theorem Gd.noHas (g : Gd Z W) {p : Addr} (h : W.H p = none) : ¬ Z.has p := fun z => by
  obtain ⟨o, e⟩ := g.some z
  rw [h] at e
  cases e
theorem StOk.same {n : Nat} {H H' : Hp} (s : StOk Z n H) (h : ∀ a, Z.own a → H' a = H a) : StOk Z n H' := fun on => by
  obtain ⟨ls, cs, x, t, h1, h2, h3, r⟩ := s on
  exact ⟨ls, cs, x, t, by rw [h _ ⟨on, .inl rfl⟩]; exact h1, by rw [h _ ⟨on, .inr (.inl rfl)⟩]; exact h2, by rw [h _ ⟨on, .inr (.inr rfl)⟩]; exact h3, r⟩
/-- the tables, further -/
theorem Gd.tabs (g : Gd Z W) {F' H' : Hp} (ff : Ex W.F F') (h : ∀ a, Z.has a → H' a = W.H a) : ∀ p ∈ tbl0, TabF F' H' p.1 p.2 := fun p hp => (g.tab p hp).mono ff (h _ (.inr ⟨p.2, hp⟩))
theorem Gd.noF (g : Gd Z W) {p : Addr} (h : W.H p = none) : W.F p = none := by
  cases e : W.F p with
  | none => rfl
  | some u =>
    rw [g.sub p u e] at h
    cases h
theorem Gr.back (a : Gr Z W W1) {p : Addr} (h : W1.H p = none) : W.H p = none := by
  cases e : W.H p with
  | none => rfl
  | some o =>
    by_cases z : Z.has p
    · exact absurd z (a.gd.noHas h)
    · rw [a.hh p o e z] at h
      cases h
/-- a new thing that is known from now on -/
theorem Gr.alloc (g : Gd Z W) {p : Addr} {o : HO} (h : W.H p = none) : Gr Z W ⟨upd W.F p o, upd W.H p o, W.n⟩ := by
  have np := g.noHas h
  have hF : W.F p = none := by
    cases e : W.F p with
    | none => rfl
    | some u =>
      rw [g.sub p u e] at h
      cases h
  refine ⟨Ex.new hF, fun a u e _ => Ex.new h a u e, fun a e e' => ?_, ⟨fun a u e => ?_, g.st.same fun a ha => upd_ne fun z => by subst z; exact np (.inl ha), fun a ha => ?_, g.tabs (Ex.new hF) fun a ha => upd_ne fun z => by subst z; exact np ha⟩⟩
  · by_cases q : a = p
    · rw [q]; exact h
    · have e' : upd W.F p o a ≠ none := e'
      rw [upd_ne q] at e'
      exact absurd e e'
  · have e : upd W.F p o a = some u := e
    show upd W.H p o a = some u
    by_cases q : a = p
    · subst q
      rw [upd_same] at e ⊢
      exact e
    · rw [upd_ne q] at e ⊢
      exact g.sub a u e
  · show upd W.F p o a = none
    have q : a ≠ p := fun z => by
      subst z
      exact np ha
    rw [upd_ne q]
    exact g.zf a ha
/-- a new thing that need not be known -/
theorem Gr.allocH (g : Gd Z W) {p : Addr} {o : HO} (h : W.H p = none) : Gr Z W ⟨W.F, upd W.H p o, W.n⟩ := by
  have np := g.noHas h
  exact ⟨Ex.refl _, fun a u e _ => Ex.new h a u e, fun a e e' => absurd e e', ⟨g.sub.trans (Ex.new h), g.st.same fun a ha => upd_ne fun z => by subst z; exact np (.inl ha), g.zf, g.tabs (Ex.refl _) fun a ha => upd_ne fun z => by subst z; exact np ha⟩⟩
end

/-- a thing that is new since W and that none knows is known from now on -/
theorem Gr.learn {Z : Zs} {W W1 : Wd} (g : Gr Z W W1) {a : Addr} {o : HO} (hn : W.H a = none) (ha : W1.H a = some o) (hz : ¬ Z.has a) (hF : W1.F a = none) : Gr Z W ⟨upd W1.F a o, W1.H, W1.n⟩ := by
  refine ⟨g.ff.trans (Ex.new hF), g.hh, fun x q q' => ?_, ⟨fun x u q => ?_, g.gd.st, fun x q => ?_, g.gd.tabs (Ex.new hF) fun _ _ => rfl⟩⟩
  · by_cases z : x = a
    · rw [z]; exact hn
    · refine g.new x q fun w => q' ?_
      show upd W1.F a o x = none
      rw [upd_ne z]
      exact w
  · have q : upd W1.F a o x = some u := q
    by_cases z : x = a
    · subst z
      rw [upd_same] at q
      cases q
      exact ha
    · rw [upd_ne z] at q
      exact g.gd.sub x u q
  · show upd W1.F a o x = none
    have z : x ≠ a := fun z => by
      subst z
      exact hz q
    rw [upd_ne z]
    exact g.gd.zf x q

/-- the slots' data -/
abbrev EnvD := List (Option D)
structure EnvR (G : Gx) (Z : Zs) (F : Hp) (env : EnvD) (σ : L2.St) : Prop where
  len : env.length = σ.length
  get : ∀ (i : Nat) (d : D), env[i]? = some (some d) → ∃ v, σ[i]? = some (some v) ∧ Rep G Z F v d
structure Ok (G : Gx) (Z : Zs) (env : EnvD) (σ : L2.St) (W : Wd) : Prop where
  gd : Gd Z W
  env : EnvR G Z W.F env σ
section
variable {G : Gx} {Z : Zs} {W W1 : Wd} {env : EnvD} {σ : L2.St} {F F' : Hp}
theorem EnvR.mono (h : EnvR G Z F env σ) (e : Ex F F') : EnvR G Z F' env σ := ⟨h.len, fun i d q => by
  obtain ⟨v, h1, h2⟩ := h.get i d q
  exact ⟨v, h1, h2.mono e⟩⟩
theorem EnvR.set (h : EnvR G Z F env σ) {v : V} {d : D} (i : Nat) (r : Rep G Z F v d) : EnvR G Z F (env.set i (some d)) (σ.set i (some v)) := by
  refine ⟨by rw [List.length_set, List.length_set]; exact h.len, fun j e q => ?_⟩
  by_cases hj : i = j
  · subst hj
    by_cases hl : i < env.length
    · rw [List.getElem?_set_self hl] at q
      cases q
      exact ⟨v, List.getElem?_set_self (by rw [← h.len]; exact hl), r⟩
    · rw [List.getElem?_eq_none (by rw [List.length_set]; omega)] at q
      cases q
  · rw [List.getElem?_set_ne hj] at q ⊢
    exact h.get j e q
theorem EnvR.unset (h : EnvR G Z F env σ) (i : Nat) (x : Option V) : EnvR G Z F (env.set i none) (σ.set i x) := by
  refine ⟨by rw [List.length_set, List.length_set]; exact h.len, fun j e q => ?_⟩
  by_cases hj : i = j
  · subst hj
    by_cases hl : i < env.length
    · rw [List.getElem?_set_self hl] at q
      cases q
    · rw [List.getElem?_eq_none (by rw [List.length_set]; omega)] at q
      cases q
  · rw [List.getElem?_set_ne hj] at q ⊢
    exact h.get j e q
theorem Ok.step (h : Ok G Z env σ W) (g : Gr Z W W1) : Ok G Z env σ W1 := ⟨g.gd, h.env.mono g.ff⟩
end

/-! ### readings -/
/-- behind an answer -/
def Aft (G : Gx) (Z : Zs) (W : Wd) (Q : VK) : Nat → D → Prop := fun n' d => ∀ v F' H', Gr Z W ⟨F', H', n'⟩ → Rep G Z F' v d → Q v H'
/-- an expression computes f of the slots -/
def tD (G : Gx) (f : EnvD → M D) : TE := fun σ H Q => ∃ Z env W, W.H = H ∧ Ok G Z env σ W ∧ (f env).wp W.n (Aft G Z W Q)
/-- .. a list that is new and known to none yet -/
def tDn (G : Gx) (f : EnvD → M (List D)) : TE := fun σ H Q => ∃ Z env W, W.H = H ∧ Ok G Z env σ W ∧ (f env).wp W.n fun n' ds => ∀ a vs F' H', Gr Z W ⟨F', H', n'⟩ → W.H a = none → F' a = none → H' a = some (.lst vs) → Reps G Z F' vs ds → Q (.ref a) H'
/-- .. a dict that is new and known to none yet -/
def tDd (G : Gx) (f : EnvD → M (List (Int × D))) : TE := fun σ H Q => ∃ Z env W, W.H = H ∧ Ok G Z env σ W ∧ (f env).wp W.n fun n' kvs => ∀ a vs F' H', Gr Z W ⟨F', H', n'⟩ → W.H a = none → F' a = none →
  H' a = some (.dK (List.zip (kvs.map fun p => (Sum.inl p.1 : Key)) vs)) → Reps G Z F' vs (kvs.map (·.2)) → Q (.ref a) H'
def tDT (G : Gx) (f : EnvD → M Bool) : TT := fun σ H Q => ∃ Z env W, W.H = H ∧ Ok G Z env σ W ∧ (f env).wp W.n fun n' b => ∀ F' H', Gr Z W ⟨F', H', n'⟩ → Q b H'
def tDA (G : Gx) (f : EnvD → M (List D)) : TA := fun σ H Q => ∃ Z env W, W.H = H ∧ Ok G Z env σ W ∧ (f env).wp W.n fun n' ds => ∀ vs F' H', Gr Z W ⟨F', H', n'⟩ → Reps G Z F' vs ds → Q vs H'
/-- what is walked yields the ds, whatever comes meanwhile -/
def ItOk (G : Gx) (Z : Zs) (J : It) (F : Hp) (ds : List D) : Prop := ∀ (i : Nat) (W : Wd), Ex F W.F → Gd Z W →
  (∀ d, ds[i]? = some d → J.go i W.H ∧ ∀ x H2, J.yld i W.H x H2 → ∃ F2, Gr Z W ⟨F2, H2, W.n⟩ ∧ Rep G Z F2 x d) ∧ (i = ds.length → J.stop i W.H)
def iD (G : Gx) (f : EnvD → M (List D)) : TI := fun σ H R => ∃ Z env W, W.H = H ∧ Ok G Z env σ W ∧ (f env).wp W.n fun n' ds => ∀ J F' H', Gr Z W ⟨F', H', n'⟩ → ItOk G Z J F' ds → R J H'
/-- an operation on two values -/
def opD (G : Gx) (f : D → D → M D) : R2 := fun x y H Q => ∃ Z W d e, W.H = H ∧ Gd Z W ∧ Rep G Z W.F x d ∧ Rep G Z W.F y e ∧ (f d e).wp W.n (Aft G Z W Q)
/-- a call on values -/
def callD (G : Gx) (f : List D → M D) : List V → Hp → VK → Prop := fun vs H Q => ∃ Z W ds, W.H = H ∧ Gd Z W ∧ Reps G Z W.F vs ds ∧ (f ds).wp W.n (Aft G Z W Q)

end Dv
namespace L2
open PySem PySem.Spec PyProof.Rows
section
variable {X : Cx}
theorem PE.weak {e : Expr} {t t' : TE} (h : PE X e t) (q : ∀ σ H Q, t' σ H Q → t σ H Q) : PE X e t' := ⟨fun pins s σ H Q I hw => h.run pins s σ H Q I (q _ _ _ hw)⟩
theorem PT.weak {e : Expr} {t t' : TT} (h : PT X e t) (q : ∀ σ H Q, t' σ H Q → t σ H Q) : PT X e t' := ⟨fun pins s σ H Q I hw => h.run pins s σ H Q I (q _ _ _ hw)⟩
theorem PW.weak {e : Expr} {t t' : TT} (h : PW X e t) (q : ∀ σ H Q, t' σ H Q → t σ H Q) : PW X e t' := ⟨fun wh pins s σ H Q I hw => h.run wh pins s σ H Q I (q _ _ _ hw)⟩
theorem PA.weak {es : List Expr} {t t' : TA} (h : PA X es t) (q : ∀ σ H Q, t' σ H Q → t σ H Q) : PA X es t' := ⟨fun pos pins s σ H Q I hw => h.run pos pins s σ H Q I (q _ _ _ hw)⟩
theorem PI.weak {tg it : Expr} {t t' : TI} (h : PI X tg it t) (q : ∀ σ H Q, t' σ H Q → t σ H Q) : PI X tg it t' := ⟨fun pins s σ H Q I hw => h.run pins s σ H Q I (q _ _ _ hw)⟩
theorem PS.weak {st : Stmt} {t t' : TS} (h : PS X st t) (q : ∀ Dn σ H, t' Dn σ H → t Dn σ H) : PS X st t' := ⟨fun pins s σ H Dn I hw => h.run pins s σ H Dn I (q _ _ _ hw)⟩
theorem PSs.weak {st : List Stmt} {t t' : TS} (h : PSs X st t) (q : ∀ Dn σ H, t' Dn σ H → t Dn σ H) : PSs X st t' := ⟨fun pins s σ H Dn I hw => h.run pins s σ H Dn I (q _ _ _ hw)⟩
theorem OpR.weak {f : Value → Value → Sem Value} {r r' : R2} (h : OpR X f r) (q : ∀ x y H Q, r' x y H Q → r x y H Q) : OpR X f r' := fun pins s σ H x y v u Q I a b hw => h pins s σ H x y v u Q I a b (q _ _ _ _ hw)
theorem CallR.weak {f : Value} {r r' : List V → Hp → VK → Prop} (h : CallR X f r) (q : ∀ x H Q, r' x H Q → r x H Q) : CallR X f r' := fun pins s σ H xs us Q I a hw => h pins s σ H xs us Q I a (q _ _ _ hw)
end
end L2
end
section
set_option linter.all false
set_option maxRecDepth 100000
set_option maxHeartbeats 4000000
/-! A1: names, constants, operators, tests, displays, calls: the rules that carry a function. -/
namespace Dv
open PySem PySem.Spec PyProof.Rows L2 Evl

/-! ### the functions -/
def eVar (i : Nat) : EnvD → M D := fun env => match env[i]? with
  | some (some d) => .ret d
  | _ => .bad
def eC (d : D) : EnvD → M D := fun _ => .ret d
def eBin (g : D → D → M D) (fa fb : EnvD → M D) : EnvD → M D := fun env => do
  let x ← fa env
  let y ← fb env
  g x y
def eUn (g : D → M D) (fa : EnvD → M D) : EnvD → M D := fun env => do
  let x ← fa env
  g x
def asB : D → M Bool
  | .bl b => .ret b
  | _ => .bad
def bOf (fa : EnvD → M D) : EnvD → M Bool := fun env => do
  let x ← fa env
  asB x
def eChain (g g' : D → D → M D) (fa fb fc : EnvD → M D) : EnvD → M D := fun env => do
  let x ← fa env
  let y ← fb env
  let r ← g x y
  let k ← asB r
  match k with
  | true => do
    let z ← fc env
    g' y z
  | false => .ret (.bl false)
def bAnd (fa fb : EnvD → M Bool) : EnvD → M Bool := fun env => do
  let x ← fa env
  match x with
  | true => fb env
  | false => .ret false
def bOr (fa fb : EnvD → M Bool) : EnvD → M Bool := fun env => do
  let x ← fa env
  match x with
  | true => .ret true
  | false => fb env
def bNot (fa : EnvD → M Bool) : EnvD → M Bool := fun env => do
  let x ← fa env
  .ret (!x)
def eAnd (fa fb : EnvD → M D) : EnvD → M D := fun env => do
  let r ← fa env
  let x ← asB r
  match x with
  | true => fb env
  | false => .ret (.bl false)
def eOr (fa fb : EnvD → M D) : EnvD → M D := fun env => do
  let r ← fa env
  let x ← asB r
  match x with
  | true => .ret (.bl true)
  | false => fb env
def eNot (fa : EnvD → M D) : EnvD → M D := fun env => do
  let r ← fa env
  let x ← asB r
  .ret (.bl (!x))
def eIf (ft : EnvD → M Bool) (fa fb : EnvD → M D) : EnvD → M D := fun env => do
  let x ← ft env
  match x with
  | true => fa env
  | false => fb env
/-- at most 100000 -/
def chk {α : Type} (n : Nat) (m : M α) : M α := match Nat.ble n 100000 with
  | true => m
  | false => .bad
def aNil : EnvD → M (List D) := fun _ => .ret []
def aCons (fa : EnvD → M D) (fr : EnvD → M (List D)) : EnvD → M (List D) := fun env => do
  let x ← fa env
  let r ← fr env
  .ret (x :: r)
def asSeq : D → M (List D)
  | .tup ds => .ret ds
  | .lst ds => .ret ds
  | _ => .bad
def aStar (fa : EnvD → M D) (fr : EnvD → M (List D)) : EnvD → M (List D) := fun env => do
  let x ← fa env
  let l ← asSeq x
  let r ← fr env
  .ret (l ++ r)
def eTup (fs : EnvD → M (List D)) : EnvD → M D := fun env => do
  let ds ← fs env
  chk ds.length (.ret (.tup ds))
def nLst (fs : EnvD → M (List D)) : EnvD → M (List D) := fun env => do
  let ds ← fs env
  chk ds.length (.ret ds)
/-- a new list, kept as it is -/
def eN (f : EnvD → M (List D)) : EnvD → M D := fun env => do
  let ds ← f env
  .ret (.lst ds)
/-- a call -/
def eCall (f : List D → M D) (fs : EnvD → M (List D)) : EnvD → M D := fun env => do
  let ds ← fs env
  f ds

theorem chk_wp {α : Type} {n : Nat} {m : M α} {k : Nat} {Q : Nat → α → Prop} (h : (chk n m).wp k Q) : n ≤ 100000 ∧ m.wp k Q := by
  unfold chk at h
  cases e : Nat.ble n 100000 with
  | true =>
    rw [e] at h
    exact ⟨Nat.le_of_ble_eq_true e, h⟩
  | false =>
    rw [e] at h
    exact h.elim
theorem szl {n : Nat} (h : n ≤ 100000) : n ≤ sizeLine := Nat.le_trans h (by decide)
theorem asB_wp {d : D} {k : Nat} {Q : Nat → Bool → Prop} (h : (asB d).wp k Q) : ∃ b, d = .bl b ∧ Q k b := by
  cases d with
  | bl b => exact ⟨b, rfl, h⟩
  | _ => exact h.elim
theorem asSeq_wp {d : D} {k : Nat} {Q : Nat → List D → Prop} (h : (asSeq d).wp k Q) : ∃ ds, (d = .tup ds ∨ d = .lst ds) ∧ Q k ds := by
  cases d with
  | tup ds => exact ⟨ds, .inl rfl, h⟩
  | lst ds => exact ⟨ds, .inr rfl, h⟩
  | _ => exact h.elim

abbrev gx (X : Cx) : Gx := ⟨X.prog, X.w, X.K⟩
section
variable {X : Cx} {a b c e : Expr} {es : List Expr} {pos : Pos} {fa fb fc : EnvD → M D} {fs : EnvD → M (List D)}

theorem Rep.bl_inv {G : Gx} {Z : Zs} {F : Hp} {v : V} {b : Bool} (r : Rep G Z F v (.bl b)) : v = .bl b := by
  cases r
  rfl
theorem Rep.int_inv {G : Gx} {Z : Zs} {F : Hp} {v : V} {b : Int} (r : Rep G Z F v (.int b)) : v = .int b := by
  cases r
  rfl

theorem de_var (i : Nat) {x : Str} (hN : X.N[i]? = some x := by rfl) (hv : Vis X.env.scope x := by first | exact Or.inl rfl | exact Or.inr (Or.inl rfl) | exact Or.inr (Or.inr rfl)) (hd : (x == ("__debug__" : Str)) = false := by decide)
    (hcd : (x == ("__classdict__" : Str)) = false := by decide) : PE X (.Name x pos) (tD (gx X) (eVar i)) := by
  refine (pe_var hN hv hd hcd).weak fun σ H Q ⟨Z, env, W, hW, ok, h⟩ => ?_
  subst hW
  unfold eVar at h
  cases e1 : env[i]? with
  | none =>
    rw [e1] at h
    exact h.elim
  | some o =>
    rw [e1] at h
    cases o with
    | none => exact h.elim
    | some d =>
      obtain ⟨v, h1, h2⟩ := ok.env.get i d e1
      exact ⟨v, h1, h v W.F W.H (Gr.refl ok.gd) h2⟩
theorem de_c {v : V} {d : D} (r : ∀ Z F, Rep (gx X) Z F v d) (h : PE X e (tC v)) : PE X e (tD (gx X) (eC d)) :=
  h.weak fun σ H Q ⟨Z, env, W, hW, ok, h⟩ => by
    subst hW
    exact h v W.F W.H (Gr.refl ok.gd) (r Z W.F)
theorem de_int {i j} : PE X (.Constant (.int i) j pos) (tD (gx X) (eC (.int i))) := de_c (fun _ _ => .int i) pe_int
theorem de_bl {i j} : PE X (.Constant (.bool i) j pos) (tD (gx X) (eC (.bl i))) := de_c (fun _ _ => .bl i) pe_bl
theorem de_non {j} : PE X (.Constant .none j pos) (tD (gx X) (eC .non)) := de_c (fun _ _ => .non) pe_non
theorem de_str {i j} : PE X (.Constant (.str i) j pos) (tD (gx X) (eC (.str i))) := de_c (fun _ _ => .str i) pe_str
/-- a module's int -/
theorem de_gint {x : Str} {i : Int} (hg : Gl X x) (h : ∃ t, X.mg x = some (.int i t)) (hd : (x == ("__debug__" : Str)) = false := by decide) : PE X (.Name x pos) (tD (gx X) (eC (.int i))) := by
  obtain ⟨t, h⟩ := h
  exact de_c (fun _ _ => .int i) (pe_glob hg h ⟨t, rfl⟩ hd)

theorem bin_r {G : Gx} {r : R2} {g : D → D → M D} {σ : L2.St} {H : Hp} {Q : VK} (hr : ∀ x y H Q, opD G g x y H Q → r x y H Q) (h : tD G (eBin g fa fb) σ H Q) : tOp r (tD G fa) (tD G fb) σ H Q := by
  obtain ⟨Z, env, W, hW, ok, h⟩ := h
  subst hW
  refine ⟨Z, env, W, rfl, ok, M.wp_mono (fun n1 d1 h1 v1 F1 H1 g1 r1 => ?_) (wp_then h)⟩
  refine ⟨Z, env, ⟨F1, H1, n1⟩, rfl, ok.step g1, M.wp_mono (fun n2 d2 h2 v2 F2 H2 g2 r2 => ?_) (wp_then h1)⟩
  exact hr _ _ _ _ ⟨Z, ⟨F2, H2, n2⟩, d1, d2, rfl, g2.gd, r1.mono g2.ff, r2, M.wp_mono (fun n3 d3 h3 v F' H' g3 r => h3 v F' H' ((g1.trans g2).trans g3) r) h2⟩
theorem de_bin {op : Operator} {g : D → D → M D} (ho : OpR X (binaryOp op) (opD (gx X) g)) (ha : PE X a (tD (gx X) fa)) (hb : PE X b (tD (gx X) fb)) : PE X (.BinOp a op b pos) (tD (gx X) (eBin g fa fb)) :=
  (pe_op ho ha hb).weak fun σ H Q h => bin_r (fun _ _ _ _ h => h) h
theorem de_cmp {op : CmpOp} {g : D → D → M D} (ho : OpR X (compareOp op) (opD (gx X) g)) (ha : PE X a (tD (gx X) fa)) (hb : PE X b (tD (gx X) fb)) (hm : behindInMarks op b = false) : PE X (.Compare a [op] [b] pos) (tD (gx X) (eBin g fa fb)) :=
  (pe_cmpR ho ha hb hm).weak fun σ H Q h => bin_r (fun _ _ _ _ h => h) h
/-- a value's reading as a test's -/
theorem test_r {G : Gx} {f : EnvD → M D} {σ : L2.St} {H : Hp} {Q : Bool → Hp → Prop} (h : tDT G (bOf f) σ H Q) : tTest (tD G f) σ H Q := by
  obtain ⟨Z, env, W, hW, ok, h⟩ := h
  subst hW
  refine ⟨Z, env, W, rfl, ok, M.wp_mono (fun n1 d1 h1 v1 F1 H1 g1 r1 => ?_) (wp_then h)⟩
  obtain ⟨b, rfl, h1⟩ := asB_wp h1
  exact ⟨b, r1.bl_inv, h1 F1 H1 g1⟩
theorem test_weak {t t' : TE} (q : ∀ σ H Q, t' σ H Q → t σ H Q) {σ : L2.St} {H : Hp} {Q : Bool → Hp → Prop} (h : tTest t' σ H Q) : tTest t σ H Q := q _ _ _ h
theorem dt_cmp {op : CmpOp} {g : D → D → M D} (ho : OpR X (compareOp op) (opD (gx X) g)) (ha : PE X a (tD (gx X) fa)) (hb : PE X b (tD (gx X) fb)) (hm : behindInMarks op b = false) : PT X (.Compare a [op] [b] pos) (tDT (gx X) (bOf (eBin g fa fb))) :=
  (pt_cmpR ho ha hb hm).weak fun σ H Q h => test_weak (fun σ H Q h => bin_r (fun _ _ _ _ h => h) h) (test_r h)
theorem dt_val (h : PE X e (tD (gx X) fa)) (he : ∀ whole, isTrue e X.env whole = (do let v ← whole; standAt e.pos; holding [v] (truthy v)) := by intro _; rfl) : PT X e (tDT (gx X) (bOf fa)) :=
  (pt_val h he).weak fun σ H Q h => test_r h
theorem chain_r {G : Gx} {r r' : R2} {g g' : D → D → M D} {σ : L2.St} {H : Hp} {Q : VK} (hr : ∀ x y H Q, opD G g x y H Q → r x y H Q) (hr' : ∀ x y H Q, opD G g' x y H Q → r' x y H Q) (h : tD G (eChain g g' fa fb fc) σ H Q) : tChain r r' (tD G fa) (tD G fb) (tD G fc) σ H Q := by
  obtain ⟨Z, env, W, hW, ok, h⟩ := h
  subst hW
  refine ⟨Z, env, W, rfl, ok, M.wp_mono (fun n1 d1 h1 v1 F1 H1 g1 r1 => ?_) (wp_then h)⟩
  refine ⟨Z, env, ⟨F1, H1, n1⟩, rfl, ok.step g1, M.wp_mono (fun n2 d2 h2 v2 F2 H2 g2 r2 => ?_) (wp_then h1)⟩
  refine hr _ _ _ _ ⟨Z, ⟨F2, H2, n2⟩, d1, d2, rfl, g2.gd, r1.mono g2.ff, r2, M.wp_mono (fun n3 d3 h3 v3 F3 H3 g3 r3 => ?_) (wp_then h2)⟩
  obtain ⟨k, rfl, h3⟩ := asB_wp (wp_then h3)
  have g12 := g1.trans g2
  have g13 := g12.trans g3
  refine ⟨k, r3.bl_inv, ?_⟩
  cases k with
  | false => exact h3 (.bl false) F3 H3 g13 (.bl false)
  | true =>
    refine ⟨Z, env, ⟨F3, H3, n3⟩, rfl, ok.step g13, M.wp_mono (fun n4 d4 h4 v4 F4 H4 g4 r4 => ?_) (wp_then h3)⟩
    exact hr' _ _ _ _ ⟨Z, ⟨F4, H4, n4⟩, d2, d4, rfl, g4.gd, (r2.mono g3.ff).mono g4.ff, r4, M.wp_mono (fun n5 d5 h5 v F' H' g5 r => h5 v F' H' ((g13.trans g4).trans g5) r) h4⟩
theorem de_chain {op op' : CmpOp} {g g' : D → D → M D} (ho : OpR X (compareOp op) (opD (gx X) g)) (ho' : OpR X (compareOp op') (opD (gx X) g')) (ha : PE X a (tD (gx X) fa)) (hb : PE X b (tD (gx X) fb)) (hc : PE X c (tD (gx X) fc))
    (hm : lastMarks [op, op'] [b, c] = false := by with_unfolding_all rfl) : PE X (.Compare a [op, op'] [b, c] pos) (tD (gx X) (eChain g g' fa fb fc)) :=
  (pe_chain ho ho' ha hb hc hm).weak fun σ H Q h => chain_r (fun _ _ _ _ h => h) (fun _ _ _ _ h => h) h
theorem dt_chain {op op' : CmpOp} {g g' : D → D → M D} (ho : OpR X (compareOp op) (opD (gx X) g)) (ho' : OpR X (compareOp op') (opD (gx X) g')) (ha : PE X a (tD (gx X) fa)) (hb : PE X b (tD (gx X) fb)) (hc : PE X c (tD (gx X) fc))
    (hm : lastMarks [op, op'] [b, c] = false := by with_unfolding_all rfl) : PT X (.Compare a [op, op'] [b, c] pos) (tDT (gx X) (bOf (eChain g g' fa fb fc))) :=
  (pt_chain ho ho' ha hb hc hm).weak fun σ H Q h => test_weak (fun σ H Q h => chain_r (fun _ _ _ _ h => h) (fun _ _ _ _ h => h) h) (test_r h)

/-! ### and, or, not -/
variable {ta tb : EnvD → M Bool} {rest : List Expr}
theorem dw_and1 (ha : PT X a (tDT (gx X) ta)) : PW X (.BoolOp .And [a] pos) (tDT (gx X) ta) := pw_and1 ha
theorem dw_or1 (ha : PT X a (tDT (gx X) ta)) : PW X (.BoolOp .Or [a] pos) (tDT (gx X) ta) := pw_or1 ha
theorem dw_and (ha : PT X a (tDT (gx X) ta)) (hb : PW X (.BoolOp .And (b :: rest) pos) (tDT (gx X) tb)) : PW X (.BoolOp .And (a :: b :: rest) pos) (tDT (gx X) (bAnd ta tb)) :=
  (pw_and ha hb).weak fun σ H Q ⟨Z, env, W, hW, ok, h⟩ => by
    subst hW
    refine ⟨Z, env, W, rfl, ok, M.wp_mono (fun n1 x h1 F1 H1 g1 => ?_) (wp_then h)⟩
    cases x with
    | true => exact ⟨Z, env, ⟨F1, H1, n1⟩, rfl, ok.step g1, M.wp_mono (fun n2 y h2 F2 H2 g2 => h2 F2 H2 (g1.trans g2)) h1⟩
    | false => exact h1 F1 H1 g1
theorem dw_or (ha : PT X a (tDT (gx X) ta)) (hb : PW X (.BoolOp .Or (b :: rest) pos) (tDT (gx X) tb)) : PW X (.BoolOp .Or (a :: b :: rest) pos) (tDT (gx X) (bOr ta tb)) :=
  (pw_or ha hb).weak fun σ H Q ⟨Z, env, W, hW, ok, h⟩ => by
    subst hW
    refine ⟨Z, env, W, rfl, ok, M.wp_mono (fun n1 x h1 F1 H1 g1 => ?_) (wp_then h)⟩
    cases x with
    | true => exact h1 F1 H1 g1
    | false => exact ⟨Z, env, ⟨F1, H1, n1⟩, rfl, ok.step g1, M.wp_mono (fun n2 y h2 F2 H2 g2 => h2 F2 H2 (g1.trans g2)) h1⟩
theorem dt_not (ha : PT X a (tDT (gx X) ta)) : PT X (.UnaryOp .Not a pos) (tDT (gx X) (bNot ta)) :=
  (pt_not ha).weak fun σ H Q ⟨Z, env, W, hW, ok, h⟩ => by
    subst hW
    exact ⟨Z, env, W, rfl, ok, M.wp_mono (fun n1 x h1 F1 H1 g1 => h1 F1 H1 g1) (wp_then h)⟩
theorem de_one {op} (h : PE X a (tD (gx X) fa)) : PE X (.BoolOp op [a] pos) (tD (gx X) fa) := pe_one h
theorem de_and (ha : PE X a (tD (gx X) fa)) (hb : PE X (.BoolOp .And (b :: rest) pos) (tD (gx X) fb)) : PE X (.BoolOp .And (a :: b :: rest) pos) (tD (gx X) (eAnd fa fb)) :=
  (pe_and ha hb).weak fun σ H Q ⟨Z, env, W, hW, ok, h⟩ => by
    subst hW
    refine ⟨Z, env, W, rfl, ok, M.wp_mono (fun n1 d1 h1 v1 F1 H1 g1 r1 => ?_) (wp_then h)⟩
    obtain ⟨k, rfl, h1⟩ := asB_wp (wp_then h1)
    refine ⟨k, r1.bl_inv, ?_⟩
    cases k with
    | true => exact ⟨Z, env, ⟨F1, H1, n1⟩, rfl, ok.step g1, M.wp_mono (fun n2 y h2 v2 F2 H2 g2 r2 => h2 v2 F2 H2 (g1.trans g2) r2) h1⟩
    | false => exact h1 (.bl false) F1 H1 g1 (.bl false)
theorem de_or (ha : PE X a (tD (gx X) fa)) (hb : PE X (.BoolOp .Or (b :: rest) pos) (tD (gx X) fb)) : PE X (.BoolOp .Or (a :: b :: rest) pos) (tD (gx X) (eOr fa fb)) :=
  (pe_or ha hb).weak fun σ H Q ⟨Z, env, W, hW, ok, h⟩ => by
    subst hW
    refine ⟨Z, env, W, rfl, ok, M.wp_mono (fun n1 d1 h1 v1 F1 H1 g1 r1 => ?_) (wp_then h)⟩
    obtain ⟨k, rfl, h1⟩ := asB_wp (wp_then h1)
    refine ⟨k, r1.bl_inv, ?_⟩
    cases k with
    | false => exact ⟨Z, env, ⟨F1, H1, n1⟩, rfl, ok.step g1, M.wp_mono (fun n2 y h2 v2 F2 H2 g2 r2 => h2 v2 F2 H2 (g1.trans g2) r2) h1⟩
    | true => exact h1 (.bl true) F1 H1 g1 (.bl true)
theorem de_not (ha : PE X a (tD (gx X) fa)) : PE X (.UnaryOp .Not a pos) (tD (gx X) (eNot fa)) :=
  (pe_not ha).weak fun σ H Q ⟨Z, env, W, hW, ok, h⟩ => by
    subst hW
    refine ⟨Z, env, W, rfl, ok, M.wp_mono (fun n1 d1 h1 v1 F1 H1 g1 r1 => ?_) (wp_then h)⟩
    obtain ⟨k, rfl, h1⟩ := asB_wp (wp_then h1)
    exact ⟨k, r1.bl_inv, h1 (.bl (!k)) F1 H1 g1 (.bl (!k))⟩
theorem de_if (hc : PT X c (tDT (gx X) ta)) (ha : PE X a (tD (gx X) fa)) (hb : PE X b (tD (gx X) fb)) : PE X (.IfExp c a b pos) (tD (gx X) (eIf ta fa fb)) :=
  (pe_ifExp hc ha hb).weak fun σ H Q ⟨Z, env, W, hW, ok, h⟩ => by
    subst hW
    refine ⟨Z, env, W, rfl, ok, M.wp_mono (fun n1 x h1 F1 H1 g1 => ?_) (wp_then h)⟩
    cases x with
    | true => exact ⟨Z, env, ⟨F1, H1, n1⟩, rfl, ok.step g1, M.wp_mono (fun n2 y h2 v2 F2 H2 g2 r2 => h2 v2 F2 H2 (g1.trans g2) r2) h1⟩
    | false => exact ⟨Z, env, ⟨F1, H1, n1⟩, rfl, ok.step g1, M.wp_mono (fun n2 y h2 v2 F2 H2 g2 r2 => h2 v2 F2 H2 (g1.trans g2) r2) h1⟩

/-! ### argument lists, displays -/
theorem da_nil : PA X [] (tDA (gx X) aNil) := pa_nil.weak fun σ H Q ⟨Z, env, W, hW, ok, h⟩ => by
  subst hW
  exact h [] W.F W.H (Gr.refl ok.gd) .nil
theorem da_cons (ha : PE X e (tD (gx X) fa)) (hr : PA X es (tDA (gx X) fs)) (hs : starEach (e :: es) X.env = (false, eval e X.env) :: starEach es X.env := by rfl) : PA X (e :: es) (tDA (gx X) (aCons fa fs)) :=
  (pa_cons ha hr hs).weak fun σ H Q ⟨Z, env, W, hW, ok, h⟩ => by
    subst hW
    refine ⟨Z, env, W, rfl, ok, M.wp_mono (fun n1 d1 h1 v1 F1 H1 g1 r1 => ?_) (wp_then h)⟩
    exact ⟨Z, env, ⟨F1, H1, n1⟩, rfl, ok.step g1, M.wp_mono (fun n2 ds h2 vs F2 H2 g2 r2 => h2 (v1 :: vs) F2 H2 (g1.trans g2) (.cons (r1.mono g2.ff) r2)) (wp_then h1)⟩
theorem de_tup {x1} (h : PA X es (tDA (gx X) fs)) : PE X (.Tuple es x1 pos) (tD (gx X) (eTup fs)) :=
  (pe_tup h).weak fun σ H Q ⟨Z, env, W, hW, ok, h⟩ => by
    subst hW
    refine ⟨Z, env, W, rfl, ok, M.wp_mono (fun n1 ds h1 vs F1 H1 g1 r1 => ?_) (wp_then h)⟩
    obtain ⟨h2, h3⟩ := chk_wp h1
    refine ⟨szl (by rw [r1.length]; exact h2), fun p hp => ?_⟩
    have g2 := g1.trans (Gr.alloc g1.gd (o := .tup vs) hp)
    exact h3 (.ref p) _ _ g2 (.tup (SqT.of upd_same) (r1.mono (Gr.alloc (o := .tup vs) g1.gd hp).ff))
/-- a new list -/
theorem dn_lst (h : PA X es (tDA (gx X) fs)) : PE X (.List es pos) (tDn (gx X) (nLst fs)) :=
  (pe_lst h).weak fun σ H Q ⟨Z, env, W, hW, ok, h⟩ => by
    subst hW
    refine ⟨Z, env, W, rfl, ok, M.wp_mono (fun n1 ds h1 vs F1 H1 g1 r1 => ?_) (wp_then h)⟩
    obtain ⟨h2, h3⟩ := chk_wp h1
    refine ⟨szl (by rw [r1.length]; exact h2), fun p hp => ?_⟩
    exact h3 p vs F1 _ (g1.trans (Gr.allocH g1.gd hp)) (g1.back hp) (g1.gd.noF hp) upd_same r1
/-- .. known from now on -/
theorem de_n {f : EnvD → M (List D)} (h : PE X e (tDn (gx X) f)) : PE X e (tD (gx X) (eN f)) :=
  h.weak fun σ H Q ⟨Z, env, W, hW, ok, h⟩ => by
    subst hW
    refine ⟨Z, env, W, rfl, ok, M.wp_mono (fun n1 ds h1 a vs F1 H1 g1 hn hF ha r1 => ?_) (wp_then h)⟩
    exact h1 (.ref a) (upd F1 a (.lst vs)) H1 (g1.learn hn ha (ok.gd.noHas hn) hF) (.lst upd_same (r1.mono (Ex.new hF)))

/-! ### calls -/
theorem call_r {G : Gx} {r : List V → Hp → VK → Prop} {g : List D → M D} {σ : L2.St} {H : Hp} {Q : VK} (hr : ∀ x H Q, callD G g x H Q → r x H Q) (h : tD G (eCall g fs) σ H Q) : tCB r (tDA G fs) σ H Q := by
  obtain ⟨Z, env, W, hW, ok, h⟩ := h
  subst hW
  refine ⟨Z, env, W, rfl, ok, M.wp_mono (fun n1 ds h1 vs F1 H1 g1 r1 => ?_) (wp_then h)⟩
  exact hr _ _ _ ⟨Z, ⟨F1, H1, n1⟩, ds, rfl, g1.gd, r1, M.wp_mono (fun n2 d2 h2 v F' H' g2 r => h2 v F' H' (g1.trans g2) r) h1⟩
theorem de_callB {x : Str} {id : String} {p : Pos} {g : List D → M D} (hc : CallR X (.builtin id) (callD (gx X) g)) (hg : Gl X x) (hm : X.mg x = none) (hv : bootBuiltins x = some (.builtin id)) (ha : PA X (e :: es) (tDA (gx X) fs)) (hn : x ≠ "__name__" := by decide) (hdb : (x == ("__debug__" : Str)) = false := by decide)
    (he : starEach (e :: es) X.env = (false, eval e X.env) :: starEach es X.env := by rfl) (hpl : (backTo pos (starEach es X.env)).any (·.1) = false := by rfl) : PE X (.Call (.Name x p) (e :: es) [] pos) (tD (gx X) (eCall g fs)) :=
  (pe_callB hc hg hm hv ha hn hdb he hpl).weak fun σ H Q h => call_r (fun _ _ _ h => h) h
theorem de_callTy {x : Str} {T : String} {p : Pos} {g : List D → M D} (hc : CallR X (.type T) (callD (gx X) g)) (hg : Gl X x) (hm : X.mg x = none) (hv : bootBuiltins x = some (.type T)) (ha : PA X (e :: es) (tDA (gx X) fs)) (hn : x ≠ "__name__" := by decide) (hdb : (x == ("__debug__" : Str)) = false := by decide)
    (he : starEach (e :: es) X.env = (false, eval e X.env) :: starEach es X.env := by rfl) (hpl : (backTo pos (starEach es X.env)).any (·.1) = false := by rfl) : PE X (.Call (.Name x p) (e :: es) [] pos) (tD (gx X) (eCall g fs)) :=
  (pe_callTy hc hg hm hv ha hn hdb he hpl).weak fun σ H Q h => call_r (fun _ _ _ h => h) h
end

/-! ### defs -/
/-- a def's promise: it computes f of its n arguments -/
def spD (G : Gx) (n : Nat) (f : List D → M D) : Sp := fun vs H Q _ => vs.length = n ∧ callD G f vs H Q
section
variable {X : Cx} {e : Expr} {es : List Expr} {pos p : Pos} {fs : EnvD → M (List D)} {k j n : Nat} {x : Str} {f : List D → M D}
/-- a def of the module that computes f -/
structure Def (P : Program) (w : World) (K : PySem.W.Frag) (mg : Str → Option Value) (base : Heap) (k : Nat) (x : Str) (n : Nat) (f : List D → M D) : Prop where
  ex : ∃ (fa : Addr) (fd : FuncData) (ps : List Str), ps.length = n ∧ FnOk P w K mg base CX0 k fa fd ps (spD ⟨P, w, K⟩ n f) ∧ mg x = some (.ref fa) ∧ PySem.W.keepIn K (.ref fa) = true ∧ Binds K fd ps []
theorem de_def (F : Def X.prog X.w X.K X.mg X.base k x n f) (hr : Room j X.A) (hk : k ≤ j) (hg : Gl X x) (hl : (e :: es).length = n) (ha : PA X (e :: es) (tDA (gx X) fs))
    (hlen : ∀ env m (Q : Nat → List D → Prop), (fs env).wp m Q → (fs env).wp m fun k ds => ds.length = n ∧ Q k ds)
    (he : starEach (e :: es) X.env = (false, eval e X.env) :: starEach es X.env := by rfl) (hpl : (backTo pos (starEach es X.env)).any (·.1) = false := by rfl) (hdb : (x == ("__debug__" : Str)) = false := by decide) : PE X (.Call (.Name x p) (e :: es) [] pos) (tD (gx X) (eCall f fs)) := by
  obtain ⟨fa, fd, ps, hps, F, hm, hkp, hb⟩ := F.ex
  have hp : PE X (.Call (.Name x p) (e :: es) [] pos) (tCall (spD (gx X) n f) [] E0 (tDA (gx X) fs)) := pe_call F (hr.mono hk) hg hm hkp hb .nil pass0 ha (he := he) (hpl := hpl) (hdb := hdb)
  refine hp.weak fun σ H Q ⟨Z, env, W, hW, ok, h⟩ => ?_
  subst hW
  refine ⟨Z, env, W, rfl, ok, M.wp_mono (fun n1 ds h1 vs F1 H1 g1 r1 => ?_) (hlen _ _ _ (wp_then h))⟩
  obtain ⟨hn, h1⟩ := h1
  refine ⟨by rw [List.append_nil, r1.length]; exact hn, Z, ⟨F1, H1, n1⟩, ds, rfl, g1.gd, by rw [List.append_nil]; exact r1, M.wp_mono (fun n2 d2 h2 v F' H' g2 r => h2 v F' H' (g1.trans g2) r) h1⟩
end
theorem len_nil (env : EnvD) (m : Nat) (Q : Nat → List D → Prop) (h : (aNil env).wp m Q) : (aNil env).wp m fun k ds => ds.length = 0 ∧ Q k ds := ⟨rfl, h⟩
theorem len_cons {fa : EnvD → M D} {fs : EnvD → M (List D)} {n : Nat} (hs : ∀ env m (Q : Nat → List D → Prop), (fs env).wp m Q → (fs env).wp m fun k ds => ds.length = n ∧ Q k ds) (env : EnvD) (m : Nat) (Q : Nat → List D → Prop)
    (h : (aCons fa fs env).wp m Q) : (aCons fa fs env).wp m fun k ds => ds.length = n + 1 ∧ Q k ds := by
  refine M.wp_bind.mpr (M.wp_mono (fun n1 d h1 => M.wp_bind.mpr (M.wp_mono (fun n2 ds h2 => ?_) (hs _ _ _ (wp_then h1)))) (wp_then h))
  exact ⟨by rw [List.length_cons, h2.1], h2.2⟩
end Dv
end
section
set_option linter.all false
set_option maxRecDepth 100000
set_option maxHeartbeats 4000000
/-! A2: what is walked; targets; list comprehensions. -/
namespace Dv
open PySem PySem.Spec PyProof.Rows L2 Evl

/-! ### the world's steps, more -/
/-- a thing that none knows, new since W, is changed -/
theorem Gr.poke {Z : Zs} {W W1 : Wd} (g : Gr Z W W1) {a : Addr} {o : HO} (hn : W.H a = none) (hF : W1.F a = none) (hz : ¬ Z.has a) : Gr Z W ⟨W1.F, upd W1.H a o, W1.n⟩ := by
  refine ⟨g.ff, fun x u q nz => ?_, g.new, ⟨fun x u q => ?_, g.gd.st.same fun x q => ?_, g.gd.zf, g.gd.tabs (Ex.refl _) fun x q => upd_ne fun z => hz (z ▸ q)⟩⟩
  · show upd W1.H a o x = some u
    rw [upd_ne (ne_of_none q hn)]
    exact g.hh x u q nz
  · show upd W1.H a o x = some u
    rw [upd_ne (ne_of_none q hF)]
    exact g.gd.sub x u q
  · show upd W1.H a o x = W1.H x
    exact upd_ne fun z => hz (.inl (z ▸ q))
/-- what is not known stays so, if it stands -/
theorem Gr.unk {Z : Zs} {W W1 : Wd} (g : Gr Z W W1) {a : Addr} {o : HO} (h : W.H a = some o) (hF : W.F a = none) : W1.F a = none := by
  cases e : W1.F a with
  | none => rfl
  | some u =>
    have := g.new a hF (by rw [e]; simp)
    rw [h] at this
    cases this

/-! ### wipe -/
def wipeD (env : EnvD) : List Nat → EnvD
  | [] => env
  | v :: vs => (wipeD env vs).set v none
theorem EnvR.wipe {G : Gx} {Z : Zs} {F : Hp} {env : EnvD} {σ : L2.St} (h : EnvR G Z F env σ) : ∀ vs : List Nat, EnvR G Z F (wipeD env vs) (L2.wipe σ vs)
  | [] => h
  | v :: vs => (EnvR.wipe h vs).unset v none
theorem wipe_get (σ : L2.St) (j : Nat) : ∀ vs : List Nat, (L2.wipe σ vs)[j]? = if j ∈ vs then (σ[j]?).map (fun _ => none) else σ[j]?
  | [] => by simp [L2.wipe]
  | v :: vs => by
    unfold L2.wipe
    have ih := wipe_get σ j vs
    by_cases hv : v = j
    · subst hv
      rw [if_pos List.mem_cons_self]
      by_cases hl : v < (L2.wipe σ vs).length
      · rw [List.getElem?_set_self hl]
        rw [wipe_length] at hl
        rw [List.getElem?_eq_getElem hl]
        rfl
      · rw [List.getElem?_eq_none (by rw [List.length_set]; omega)]
        rw [wipe_length] at hl
        rw [List.getElem?_eq_none (by omega)]
        rfl
    · rw [List.getElem?_set_ne hv, ih]
      have : j ∈ v :: vs ↔ j ∈ vs := by
        rw [List.mem_cons]
        exact ⟨fun q => q.elim (fun z => absurd z.symm hv) id, .inr⟩
      by_cases hm : j ∈ vs
      · rw [if_pos hm, if_pos (this.mpr hm)]
      · rw [if_neg hm, if_neg fun q => hm (this.mp q)]
theorem wipe_set {σ : L2.St} {i : Nat} {x : Option V} {vs : List Nat} (h : i ∈ vs) : L2.wipe (σ.set i x) vs = L2.wipe σ vs := by
  apply List.ext_getElem?
  intro j
  rw [wipe_get, wipe_get]
  by_cases hm : j ∈ vs
  · rw [if_pos hm, if_pos hm]
    by_cases hj : i = j
    · subst hj
      by_cases hl : i < σ.length
      · rw [List.getElem?_set_self hl, List.getElem?_eq_getElem hl]
        rfl
      · rw [List.getElem?_eq_none (by rw [List.length_set]; omega), List.getElem?_eq_none (by omega)]
    · rw [List.getElem?_set_ne hj]
  · have z : i ≠ j := fun z => by
      subst z
      exact hm h
    rw [if_neg hm, if_neg hm, List.getElem?_set_ne z]
theorem wipe_wipe (σ : L2.St) (vs : List Nat) : L2.wipe (L2.wipe σ vs) vs = L2.wipe σ vs := by
  apply List.ext_getElem?
  intro j
  rw [wipe_get, wipe_get]
  by_cases hm : j ∈ vs
  · rw [if_pos hm, if_pos hm]
    cases σ[j]? <;> rfl
  · rw [if_neg hm, if_neg hm]

/-! ### targets -/
abbrev TgF := D → EnvD → Option EnvD
def tg1 (i : Nat) : TgF := fun d env => some (env.set i (some d))
def tg2 (i j : Nat) : TgF := fun d env => match d with
  | .tup [x, y] => some ((env.set i (some x)).set j (some y))
  | _ => none
def tg3 (i j k : Nat) : TgF := fun d env => match d with
  | .tup [x, y, z] => some (((env.set i (some x)).set j (some y)).set k (some z))
  | _ => none
/-- the target g binds as f says, in the slots is alone -/
def TgR (G : Gx) (g : TG) (is : List Nat) (f : TgF) : Prop := ∀ Z env env' σ W v d, Ok G Z env σ W → Rep G Z W.F v d → f d env = some env' → ∀ Q : L2.St → Hp → Prop,
  (∀ σ', Ok G Z env' σ' W → (∀ vs : List Nat, (∀ i ∈ is, i ∈ vs) → L2.wipe σ' vs = L2.wipe σ vs) → Q σ' W.H) → g v σ W.H Q
theorem tgr1 {G : Gx} (i : Nat) : TgR G (gName i) [i] (tg1 i) := by
  intro Z env env' σ W v d ok r h Q q
  cases h
  exact q _ ⟨ok.gd, ok.env.set i r⟩ fun vs hv => wipe_set (hv i List.mem_cons_self)
theorem rep_tup {G : Gx} {Z : Zs} {F : Hp} {v : V} {ds : List D} (r : Rep G Z F v (.tup ds)) : ∃ a vs, v = .ref a ∧ SqT G.K F a vs ∧ Reps G Z F vs ds := by
  cases r with
  | tup h q => exact ⟨_, _, rfl, h, q⟩
theorem tgr2 {G : Gx} (i j : Nat) : TgR G (gTup G.K 2 (gCons (gName i) (gCons (gName j) gNil))) [i, j] (tg2 i j) := by
  intro Z env env' σ W v d ok r h Q q
  unfold tg2 at h
  split at h
  · cases h
    obtain ⟨a, vs, rfl, hs, rs⟩ := rep_tup r
    cases rs with
    | cons r1 rs =>
      cases rs with
      | cons r2 rs =>
        cases rs
        refine ⟨a, _, rfl, ex_t ok.gd.sub hs, rfl, _, _, rfl, _, _, rfl, rfl, ?_⟩
        exact q _ ⟨ok.gd, (ok.env.set i r1).set j r2⟩ fun ws hw => by rw [wipe_set (hw j (by simp)), wipe_set (hw i (by simp))]
  · cases h
theorem tgr3 {G : Gx} (i j k : Nat) : TgR G (gTup G.K 3 (gCons (gName i) (gCons (gName j) (gCons (gName k) gNil)))) [i, j, k] (tg3 i j k) := by
  intro Z env env' σ W v d ok r h Q q
  unfold tg3 at h
  split at h
  · cases h
    obtain ⟨a, vs, rfl, hs, rs⟩ := rep_tup r
    cases rs with
    | cons r1 rs =>
      cases rs with
      | cons r2 rs =>
        cases rs with
        | cons r3 rs =>
          cases rs
          refine ⟨a, _, rfl, ex_t ok.gd.sub hs, rfl, _, _, rfl, _, _, rfl, _, _, rfl, rfl, ?_⟩
          exact q _ ⟨ok.gd, ((ok.env.set i r1).set j r2).set k r3⟩ fun ws hw => by rw [wipe_set (hw k (by simp)), wipe_set (hw j (by simp)), wipe_set (hw i (by simp))]
  · cases h
/-- a target's rule with what it binds -/
structure PGD (X : Cx) (tg : Expr) (is : List Nat) (f : TgF) : Prop where
  ex : ∃ g, PG X tg g ∧ TgR (gx X) g is f

/-! ### what is walked -/
theorem itl_ok {G : Gx} {Z : Zs} {F : Hp} {a : Addr} {vs : List V} {ds : List D} (h : F a = some (.lst vs)) (r : Reps G Z F vs ds) : ItOk G Z (Itl G.K a) F ds := by
  intro i W e g
  have hW : SqL G.K W.H a vs := SqL.of (g.sub _ _ (e _ _ h))
  refine ⟨fun d hd => ?_, fun hl => ⟨vs, hW, by rw [r.length, hl]; exact Nat.le_refl _⟩⟩
  obtain ⟨v, h1, h2⟩ := r.get hd
  refine ⟨⟨vs, v, hW, h1⟩, fun x H2 y => ?_⟩
  obtain ⟨rfl, y⟩ := y
  have := y vs hW
  rw [h1] at this
  cases this
  exact ⟨W.F, Gr.refl g, h2.mono e⟩
theorem itt_ok {G : Gx} {Z : Zs} {F : Hp} {a : Addr} {vs : List V} {ds : List D} (h : SqT G.K F a vs) (r : Reps G Z F vs ds) : ItOk G Z (Itt G.K a) F ds := by
  intro i W e g
  have hW : SqT G.K W.H a vs := ex_t (e.trans g.sub) h
  refine ⟨fun d hd => ?_, fun hl => ⟨vs, hW, by rw [r.length, hl]; exact Nat.le_refl _⟩⟩
  obtain ⟨v, h1, h2⟩ := r.get hd
  refine ⟨⟨vs, v, hW, h1⟩, fun x H2 y => ?_⟩
  obtain ⟨rfl, y⟩ := y
  have := y vs hW
  rw [h1] at this
  cases this
  exact ⟨W.F, Gr.refl g, h2.mono e⟩
theorem zip_get {α β : Type} : ∀ {xs : List α} {ys : List β} {i : Nat} {x : α} {y : β}, xs[i]? = some x → ys[i]? = some y → (List.zip xs ys)[i]? = some (x, y)
  | [], _, _, _, _, h, _ => by simp at h
  | _ :: _, [], _, _, _, _, h => by simp at h
  | a :: xs, b :: ys, 0, x, y, h, h' => by
    simp at h h'
    subst h h'
    rfl
  | a :: xs, b :: ys, i + 1, x, y, h, h' => by
    rw [List.getElem?_cons_succ] at h h'
    rw [List.zip_cons_cons, List.getElem?_cons_succ]
    exact zip_get h h'
theorem itk_ok {G : Gx} {Z : Zs} {F : Hp} {a : Addr} {o : Obj} {vs : List V} {kvs : List (Int × D)} (h : F a = some (.frz o (.dK (List.zip (kvs.map fun p => (Sum.inl p.1 : Key)) vs)))) (r : Reps G Z F vs (kvs.map (·.2))) :
    ItOk G Z (Itk a o (List.zip (kvs.map fun p => (Sum.inl p.1 : Key)) vs)) F (kvs.map fun p => .int p.1) := by
  intro i W e g
  have hW := g.sub _ _ (e _ _ h)
  have hl : vs.length = kvs.length := by rw [r.length, List.length_map]
  have hz : (List.zip (kvs.map fun p => (Sum.inl p.1 : Key)) vs).length = kvs.length := by rw [List.length_zip, List.length_map, hl, Nat.min_self]
  refine ⟨fun d hd => ?_, fun hi => ⟨hW, by rw [hz, hi, List.length_map]; exact Nat.le_refl _⟩⟩
  rw [List.getElem?_map] at hd
  cases q : kvs[i]? with
  | none =>
    rw [q] at hd
    cases hd
  | some p =>
    rw [q] at hd
    cases hd
    have hi : i < kvs.length := (List.getElem?_eq_some_iff.mp q).1
    refine ⟨⟨hW, by rw [hz]; exact hi⟩, fun x H2 y => ?_⟩
    obtain ⟨rfl, k, v, hk, rfl⟩ := y
    have e1 : (kvs.map fun p => (Sum.inl p.1 : Key))[i]? = some (Sum.inl p.1) := by rw [List.getElem?_map, q]; rfl
    have e2 : vs[i]? = some vs[i] := List.getElem?_eq_getElem (by omega)
    rw [zip_get e1 e2] at hk
    cases hk
    exact ⟨W.F, Gr.refl g, .int _⟩
theorem itr_ok {G : Gx} {Z : Zs} {F : Hp} (lo : Int) (n : Nat) : ItOk G Z (Itr lo n) F ((List.range n).map fun i => .int (lo + (i : Nat))) := by
  intro i W e g
  refine ⟨fun d hd => ?_, fun hl => by rw [List.length_map, List.length_range] at hl; exact Nat.le_of_eq hl.symm⟩
  have hi : i < n := by
    have := (List.getElem?_eq_some_iff.mp hd).1
    rw [List.length_map, List.length_range] at this
    exact this
  rw [List.getElem?_map, List.getElem?_range hi] at hd
  cases hd
  refine ⟨hi, fun x H2 y => ?_⟩
  obtain ⟨rfl, rfl⟩ := y
  exact ⟨W.F, Gr.refl g, .int _⟩
/-! keys that are bools or texts -/
def bsD : Bs → D
  | .inl b => .bl b
  | .inr x => .str x
def Itm (P : Program) (w : World) (d : Addr) (o : Obj) (ks : List Bs) : It :=
  ⟨fun i H => H d = some (.frz o (mixO P w d ks)) ∧ i < ks.length, fun i H x H' => H' = H ∧ ∃ k, ks[i]? = some k ∧ x = bsV k, fun i H => H d = some (.frz o (mixO P w d ks)) ∧ ks.length ≤ i⟩
theorem frzM {X : Cx} {pins : List (Addr × Obj)} {σ : L2.St} {H : Hp} {s : Shared} {d : Addr} {o : Obj} {ks : List Bs} (I : Inv X pins σ H s) (h : H d = some (.frz o (mixO X.prog X.w d ks))) :
    (d == sysModules) = false ∧ s.heap.get? d = some o ∧ o.ExactDict ∧ ∃ (es : Array DictEntry) (ep : Nat) (kvs : List (Bs × Value)), o.data = .dict es ep ∧ es.size = ks.length ∧ kvs.map (·.1) = ks ∧ s.heap.DictAt (bsKind X.prog X.w) d kvs ep := by
  obtain ⟨hd, ⟨hs, kvs, hk, o', es, ep, ho, hx, hdt, r⟩, _⟩ := I.hok d _ h
  rw [hd] at ho
  cases ho
  refine ⟨hs, hd, hx, es, ep, kvs, hdt, ?_, hk, o, es, hd, hx, hdt, r⟩
  have l1 := r.2.1.length
  rw [Array.length_toList] at l1
  rw [← hk, List.length_map]
  omega
theorem turn_mix {P : Program} {w : World} {K : PySem.W.Frag} {tg : Expr} {d : Addr} {o : Obj} {es : Array DictEntry} {ep : Nat} {ks : List Bs} (it : Addr) (hod : o.data = .dict es ep) : Turn P w K tg (Itm P w d o ks) [it] it (fun i h => h.IsKeyIter it d i ks.length ep) := by
  have T0 := turn_keys (P := P) (w := w) (K := K) (tg := tg) (d := d) (kvs := ks.map fun _ => ((Sum.inl 0 : Key), V.non)) it hod
  rw [List.length_map] at T0
  refine ⟨T0.mem, T0.obj, T0.keep, ?_, ?_, T0.self⟩
  · intro X e1 e2 e3 hc i pins s σ H E J fp st go
    subst e1 e2 e3
    obtain ⟨hd, hi⟩ := go
    obtain ⟨q0, q1, q2, q3, q4, q5⟩ := fp it (by simp)
    obtain ⟨hs, hg, hx, es1, ep1, kvs, hdt, hz, hk, hm⟩ := frzM J hd
    obtain ⟨rfl, rfl⟩ := dict_ep hod hdt
    have hl : ks.length = kvs.length := by rw [← hk, List.length_map]
    obtain ⟨⟨k, v⟩, hkv⟩ : ∃ p, kvs[i]? = some p := ⟨kvs[i], List.getElem?_eq_getElem (by omega)⟩
    rw [hl] at st
    refine wpAny_pyNext_dict_item st hm hkv fun key g hkey st1 sb => ?_
    have J1 : Inv X pins σ H { s with heap := g } := J.turned (t' := s.toks) (fun b ob hb e => (sb.2 b hb).trans e) q0 q1 q3 q4 q5
    obtain ⟨oi, e, c, dd⟩ := id st1
    refine ⟨key, rfl, go_of (s := { s with heap := g }) e c dd (by decide) ⟨bsV k, H, J1, bs_rel hkey, ⟨rfl, k, ?_, rfl⟩, ?_, fun b hb => (fp b hb).1⟩⟩
    · rw [← hk, List.getElem?_map, hkv]
      rfl
    · show g.IsKeyIter it d (i + 1) ks.length _
      rw [hl]
      exact st1
  · intro X e1 e2 e3 hc i pins s σ H E J fp st stop
    subst e1 e2 e3
    obtain ⟨hd, hi⟩ := stop
    obtain ⟨q0, q1, q2, q3, q4, q5⟩ := fp it (by simp)
    obtain ⟨hs, hg, hx, es1, ep1, kvs, hdt, hz, hk, hm⟩ := frzM J hd
    obtain ⟨rfl, rfl⟩ := dict_ep hod hdt
    have hl : ks.length = kvs.length := by rw [← hk, List.length_map]
    rw [hl] at st hi
    exact wpAny_pyNext_dict_end (J.ok.hd hc) st hm (List.getElem?_eq_none hi) fun g eb => ⟨rfl, J.turned (t' := s.toks) (fun b ob hb e => eb b ob hb e) q0 q1 q3 q4 q5⟩
theorem itm_ok {G : Gx} {Z : Zs} {F : Hp} {a : Addr} {o : Obj} {ks : List Bs} (h : F a = some (.frz o (mixO G.P G.w a ks))) : ItOk G Z (Itm G.P G.w a o ks) F (ks.map bsD) := by
  intro i W e g
  have hW := g.sub _ _ (e _ _ h)
  refine ⟨fun d hd => ?_, fun hi => ⟨hW, by rw [hi, List.length_map]; exact Nat.le_refl _⟩⟩
  rw [List.getElem?_map] at hd
  cases q : ks[i]? with
  | none =>
    rw [q] at hd
    cases hd
  | some k =>
    rw [q] at hd
    cases hd
    refine ⟨⟨hW, (List.getElem?_eq_some_iff.mp q).1⟩, fun x H2 y => ?_⟩
    obtain ⟨rfl, k', hk, rfl⟩ := y
    rw [q] at hk
    cases hk
    refine ⟨W.F, Gr.refl g, ?_⟩
    cases k with
    | inl b => exact .bl b
    | inr x => exact .str x
/-- enumerate -/
def enumD (ds : List D) : List D := ds.zipIdx.map fun p => .tup [.int (p.2 : Nat), p.1]
theorem enumD_get {ds : List D} {i : Nat} {e : D} (h : (enumD ds)[i]? = some e) : ∃ d, ds[i]? = some d ∧ e = .tup [.int (i : Nat), d] := by
  unfold enumD at h
  rw [List.getElem?_map, List.getElem?_zipIdx] at h
  cases q : ds[i]? with
  | none =>
    rw [q] at h
    cases h
  | some d =>
    rw [q] at h
    simp at h
    exact ⟨d, rfl, h.symm⟩
theorem enumD_len (ds : List D) : (enumD ds).length = ds.length := by
  unfold enumD
  rw [List.length_map, List.length_zipIdx]
theorem ite_ok {G : Gx} {Z : Zs} {F : Hp} {a : Addr} {vs : List V} {ds : List D} (h : F a = some (.lst vs)) (r : Reps G Z F vs ds) : ItOk G Z (Ite G.K a) F (enumD ds) := by
  intro i W e g
  have hW : SqL G.K W.H a vs := SqL.of (g.sub _ _ (e _ _ h))
  refine ⟨fun d hd => ?_, fun hl => ⟨vs, hW, by rw [r.length, hl, enumD_len]; exact Nat.le_refl _⟩⟩
  obtain ⟨d, hd', rfl⟩ := enumD_get hd
  obtain ⟨v, h1, h2⟩ := r.get hd'
  refine ⟨⟨vs, v, hW, h1⟩, fun x H2 y => ?_⟩
  obtain ⟨T, u, rfl, hT, rfl, y⟩ := y
  have := y vs hW
  rw [h1] at this
  cases this
  have ga := Gr.alloc g (o := .tup [.int (i : Nat), v]) hT
  exact ⟨_, ga, .tup (SqT.of upd_same) (.cons (.int _) (.cons ((h2.mono e).mono ga.ff) .nil))⟩
/-- zip of two -/
def zipD (ds es : List D) : List D := (List.zip ds es).map fun p => .tup [p.1, p.2]
theorem zipD_get {ds es : List D} {i : Nat} {e : D} (h : (zipD ds es)[i]? = some e) : ∃ x y, ds[i]? = some x ∧ es[i]? = some y ∧ e = .tup [x, y] := by
  unfold zipD at h
  rw [List.getElem?_map] at h
  cases q : (List.zip ds es)[i]? with
  | none =>
    rw [q] at h
    cases h
  | some p =>
    rw [q] at h
    cases h
    obtain ⟨h1, h2⟩ := List.getElem?_zip_eq_some.mp q
    exact ⟨p.1, p.2, h1, h2, rfl⟩
theorem zipD_len (ds es : List D) : (zipD ds es).length = min ds.length es.length := by
  unfold zipD
  rw [List.length_map, List.length_zip]
theorem itz_ok {G : Gx} {Z : Zs} {F : Hp} {a b : Addr} {vs ws : List V} {ds es : List D} (h : F a = some (.lst vs)) (h' : F b = some (.lst ws)) (r : Reps G Z F vs ds) (r' : Reps G Z F ws es) : ItOk G Z (Itz G.K a b) F (zipD ds es) := by
  intro i W e g
  have hW : SqL G.K W.H a vs := SqL.of (g.sub _ _ (e _ _ h))
  have hW' : SqL G.K W.H b ws := SqL.of (g.sub _ _ (e _ _ h'))
  refine ⟨fun d hd => ?_, fun hl => ⟨vs, ws, hW, hW', ?_⟩⟩
  · obtain ⟨x, y, hx, hy, rfl⟩ := zipD_get hd
    obtain ⟨v, h1, h2⟩ := r.get hx
    obtain ⟨u, h3, h4⟩ := r'.get hy
    refine ⟨⟨vs, ws, v, u, hW, hW', h1, h3⟩, fun x H2 q => ?_⟩
    obtain ⟨T, x1, y1, rfl, hT, rfl, q1, q2⟩ := q
    have q1 := q1 vs hW
    have q2 := q2 ws hW'
    rw [h1] at q1
    rw [h3] at q2
    cases q1
    cases q2
    have ga := Gr.alloc g (o := .tup [v, u]) hT
    exact ⟨_, ga, .tup (SqT.of upd_same) (.cons ((h2.mono e).mono ga.ff) (.cons ((h4.mono e).mono ga.ff) .nil))⟩
  · rw [zipD_len] at hl
    rw [r.length, r'.length]
    omega
theorem itzT_ok {G : Gx} {Z : Zs} {F : Hp} {a b : Addr} {vs ws : List V} {ds es : List D} (h : SqT G.K F a vs) (h' : SqT G.K F b ws) (r : Reps G Z F vs ds) (r' : Reps G Z F ws es) : ItOk G Z (RZ.ItzT G.K a b) F (zipD ds es) := by
  intro i W e g
  have hW : SqT G.K W.H a vs := ex_t (e.trans g.sub) h
  have hW' : SqT G.K W.H b ws := ex_t (e.trans g.sub) h'
  refine ⟨fun d hd => ?_, fun hl => ⟨vs, ws, hW, hW', ?_⟩⟩
  · obtain ⟨x, y, hx, hy, rfl⟩ := zipD_get hd
    obtain ⟨v, h1, h2⟩ := r.get hx
    obtain ⟨u, h3, h4⟩ := r'.get hy
    refine ⟨⟨vs, ws, v, u, hW, hW', h1, h3⟩, fun x H2 q => ?_⟩
    obtain ⟨T, x1, y1, rfl, hT, rfl, q1, q2⟩ := q
    have q1 := q1 vs hW
    have q2 := q2 ws hW'
    rw [h1] at q1
    rw [h3] at q2
    cases q1
    cases q2
    have ga := Gr.alloc g (o := .tup [v, u]) hT
    exact ⟨_, ga, .tup (SqT.of upd_same) (.cons ((h2.mono e).mono ga.ff) (.cons ((h4.mono e).mono ga.ff) .nil))⟩
  · rw [zipD_len] at hl
    rw [r.length, r'.length]
    omega

/-- a list, a tuple, a dict's keys -/
def asIter : D → M (List D)
  | .tup ds => .ret ds
  | .lst ds => .ret ds
  | .dic kvs => .ret (kvs.map fun p => .int p.1)
  | .mix ks => .ret (ks.map bsD)
  | _ => .bad
def iOf (fa : EnvD → M D) : EnvD → M (List D) := fun env => do
  let x ← fa env
  asIter x
section
variable {X : Cx} {tg a b e : Expr} {pos p : Pos} {fa fb : EnvD → M D} {fs : EnvD → M (List D)}
theorem iter_v {pins : List (Addr × Obj)} {s : Shared} {σ : L2.St} {H : Hp} {R : It → Hp → Prop} {Z : Zs} {W : Wd} {v : V} {u : Value} {d : D} (I : Inv X pins σ W.H s) (rv : RelV v u) (g : Gd Z W) (r : Rep (gx X) Z W.F v d)
    (h : (asIter d).wp W.n fun n' ds => ∀ J F' H', Gr Z W ⟨F', H', n'⟩ → ItOk (gx X) Z J F' ds → R J H') : wpAny (model X.prog X.w) X.A (pyIter u) (PIE X pins σ tg R) X.xe s := by
  cases r with
  | @tup a vs ds ht r =>
    cases rv
    obtain ⟨its, rv, p, hz⟩ := I.tuple (ex_t g.sub ht)
    refine wpAny_pyIter_tuple (show s.heap.IsTuple a its.toArray from p) ?_
    refine ⟨s.heap.objs.size, [s.heap.objs.size], _, _, W.H, rfl, I.kept (t' := s.toks) fun b o e => Heap.get?_push_of_some _ e, turn_tuple a _, ⟨_, Heap.get?_push_size _ rfl, rfl, rfl⟩, fun b hb => ?_, ?_⟩
    · have e : b = s.heap.objs.size := by simpa using hb
      subst e
      exact I.fpOk (Nat.le_refl _) (I.hok.fresh (Nat.le_refl _))
    · exact h _ W.F W.H (Gr.refl g) (itt_ok ht r)
  | @lst a vs ds ht r =>
    cases rv
    obtain ⟨its, rv, p, hz⟩ := I.list (SqL.of (g.sub _ _ ht))
    refine wpAny_pyIter_list p.isList ?_
    refine ⟨s.heap.objs.size, [s.heap.objs.size], _, _, W.H, rfl, I.kept (t' := s.toks) fun b o e => Heap.get?_push_of_some _ e, turn_list a _, ⟨_, Heap.get?_push_size _ rfl, rfl, rfl⟩, fun b hb => ?_, ?_⟩
    · have e : b = s.heap.objs.size := by simpa using hb
      subst e
      exact I.fpOk (Nat.le_refl _) (I.hok.fresh (Nat.le_refl _))
    · exact h _ W.F W.H (Gr.refl g) (itl_ok ht r)
  | @dic a o ks vs kvs ht q r =>
    subst q
    cases rv
    obtain ⟨hs, hgd, hx, es, ep, us, hdt, hsz, kv, hm⟩ := I.frzK (g.sub _ _ ht)
    refine iter_keys hs hgd hx hdt (pi_one (J := Itk a o (List.zip (kvs.map fun p => (Sum.inl p.1 : Key)) vs)) (tk := s.toks) I _ (turn_keys _ hdt) ⟨_, Heap.get?_push_size _ rfl, rfl, ?_⟩ (h _ W.F W.H (Gr.refl g) (itk_ok ht r)))
    rw [hsz] <;> rfl
  | @mix a o ks ht =>
    cases rv
    obtain ⟨hs, hgd, hx, es, ep, us, hdt, hsz, hk, hm⟩ := frzM I (g.sub _ _ ht)
    refine iter_keys hs hgd hx hdt (pi_one (J := Itm X.prog X.w a o ks) (tk := s.toks) I _ (turn_mix _ hdt) ⟨_, Heap.get?_push_size _ rfl, rfl, ?_⟩ (h _ W.F W.H (Gr.refl g) (itm_ok ht)))
    rw [hsz] <;> rfl
  | _ => exact h.elim
theorem di_of (ha : PE X e (tD (gx X) fa)) : PI X tg e (iD (gx X) (iOf fa)) := by
  refine ⟨fun pins s σ H R I ⟨Z, env, W, hW, ok, h⟩ => ?_⟩
  subst hW
  have h' : tD (gx X) fa σ W.H fun v H1 => ∃ W1 d, W1.H = H1 ∧ Gd Z W1 ∧ Rep (gx X) Z W1.F v d ∧ (asIter d).wp W1.n fun n' ds => ∀ J F' H', Gr Z W1 ⟨F', H', n'⟩ → ItOk (gx X) Z J F' ds → R J H' :=
    ⟨Z, env, W, rfl, ok, M.wp_mono (fun n1 d1 h1 v1 F1 H1 g1 r1 => ⟨⟨F1, H1, n1⟩, d1, rfl, g1.gd, r1, M.wp_mono (fun n2 ds h2 J F' H' g2 i => h2 J F' H' (g1.trans g2) i) h1⟩) (wp_then h)⟩
  refine thn (ha.run pins s σ W.H _ I h') fun u s1 ⟨v, H1, I1, rv, W1, d, e, g, r, q⟩ => ?_
  subst e
  exact iter_v (H := W1.H) I1 rv g r q
def iRng1D (fs : EnvD → M (List D)) : EnvD → M (List D) := fun env => do
  let ds ← fs env
  match ds with
  | [.int n] => chk n.natAbs (.ret ((List.range n.toNat).map fun i => .int (0 + (i : Nat))))
  | _ => .bad
theorem di_rng (hg : Gl X "range") (hm : X.mg "range" = none) (ha : PA X [a] (tDA (gx X) fs)) (hs : starEach [a] X.env = [(false, eval a X.env)] := by rfl) : PI X tg (.Call (.Name "range" p) [a] [] pos) (iD (gx X) (iRng1D fs)) := by
  refine (pi_range1 hg hm ha hs).weak fun σ H R ⟨Z, env, W, hW, ok, h⟩ => ?_
  subst hW
  refine ⟨Z, env, W, rfl, ok, M.wp_mono (fun n1 ds h1 vs F1 H1 g1 r1 => ?_) (wp_then h)⟩
  split at h1
  · rename_i n
    obtain ⟨h2, h3⟩ := chk_wp h1
    cases r1 with
    | cons r rs =>
      cases rs
      cases r
      refine ⟨n, rfl, by omega, by omega, h3 _ F1 H1 g1 (itr_ok 0 n.toNat)⟩
  · exact h1.elim
def iEnumD (fs : EnvD → M (List D)) : EnvD → M (List D) := fun env => do
  let ds ← fs env
  match ds with
  | [.lst ds] => .ret (enumD ds)
  | _ => .bad
theorem rep_lst {G : Gx} {Z : Zs} {F : Hp} {v : V} {ds : List D} (r : Rep G Z F v (.lst ds)) : ∃ a vs, v = .ref a ∧ F a = some (.lst vs) ∧ Reps G Z F vs ds := by
  cases r with
  | lst h q => exact ⟨_, _, rfl, h, q⟩
theorem di_enum {elts : List Expr} {kk : Nat} {tpos : Pos} (hg : Gl X "enumerate") (hm : X.mg "enumerate" = none) (ha : PA X [e] (tDA (gx X) fs)) (hs : starEach [e] X.env = [(false, eval e X.env)] := by rfl) : PI X (.Tuple elts kk tpos) (.Call (.Name "enumerate" p) [e] [] pos) (iD (gx X) (iEnumD fs)) := by
  refine (pi_enum hg hm ha hs).weak fun σ H R ⟨Z, env, W, hW, ok, h⟩ => ?_
  subst hW
  refine ⟨Z, env, W, rfl, ok, M.wp_mono (fun n1 ds h1 vs F1 H1 g1 r1 => ?_) (wp_then h)⟩
  split at h1
  · cases r1 with
    | cons r rs =>
      cases rs
      obtain ⟨a, ws, rfl, hl, rs⟩ := rep_lst r
      exact ⟨a, ws, rfl, SqL.of (g1.gd.sub _ _ hl), h1 _ F1 H1 g1 (ite_ok hl rs)⟩
  · exact h1.elim
def iZipD (fs : EnvD → M (List D)) : EnvD → M (List D) := fun env => do
  let ds ← fs env
  match ds with
  | [.lst ds, .lst es] => .ret (zipD ds es)
  | [.tup ds, .tup es] => .ret (zipD ds es)
  | _ => .bad
theorem di_zip {elts : List Expr} {kk : Nat} {tpos : Pos} (hg : Gl X "zip") (hm : X.mg "zip" = none) (ha : PA X [a, b] (tDA (gx X) fs)) (hs : starEach [a, b] X.env = (false, eval a X.env) :: starEach [b] X.env := by rfl) (hpl : (backTo pos (starEach [b] X.env)).any (·.1) = false := by rfl) :
    PI X (.Tuple elts kk tpos) (.Call (.Name "zip" p) [a, b] [] pos) (iD (gx X) (iZipD fs)) := by
  refine (RZ.pi_zipA hg hm ha hs hpl).weak fun σ H R ⟨Z, env, W, hW, ok, h⟩ => ?_
  subst hW
  refine ⟨Z, env, W, rfl, ok, M.wp_mono (fun n1 ds h1 vs F1 H1 g1 r1 => ?_) (wp_then h)⟩
  split at h1
  · cases r1 with
    | cons r rs =>
      cases rs with
      | cons r' rs =>
        cases rs
        obtain ⟨a, vs, rfl, hl, rs⟩ := rep_lst r
        obtain ⟨b, ws, rfl, hl', rs'⟩ := rep_lst r'
        exact ⟨a, b, vs, ws, rfl, .inl ⟨SqL.of (g1.gd.sub _ _ hl), SqL.of (g1.gd.sub _ _ hl'), h1 _ F1 H1 g1 (itz_ok hl hl' rs rs')⟩⟩
  · cases r1 with
    | cons r rs =>
      cases rs with
      | cons r' rs =>
        cases rs
        obtain ⟨a, vs, rfl, hl, rs⟩ := rep_tup r
        obtain ⟨b, ws, rfl, hl', rs'⟩ := rep_tup r'
        exact ⟨a, b, vs, ws, rfl, .inr ⟨ex_t g1.gd.sub hl, ex_t g1.gd.sub hl', h1 _ F1 H1 g1 (itzT_ok hl hl' rs rs')⟩⟩
  · exact h1.elim
end

/-! ### list comprehensions -/
def goLc (vs : List Nat) (tg : TgF) (ft : EnvD → M Bool) (fe : EnvD → M D) (env : EnvD) : List D → List D → M (List D)
  | [], acc => .ret acc
  | d :: r, acc => match tg d (wipeD env vs) with
    | none => .bad
    | some env1 => do
      let b ← ft env1
      match b with
      | true => do
        let y ← fe env1
        goLc vs tg ft fe env r (acc ++ [y])
      | false => goLc vs tg ft fe env r acc
def nLc (vs : List Nat) (fi : EnvD → M (List D)) (tg : TgF) (ft : EnvD → M Bool) (fe : EnvD → M D) : EnvD → M (List D) := fun env => do
  let ds ← fi env
  chk ds.length (goLc vs tg ft fe env ds [])
def bYes : EnvD → M Bool := fun _ => .ret true
section
variable {X : Cx}
theorem dts_nil : PTs X [] (tDT (gx X) bYes) := ⟨fun pins s σ H Q I ⟨Z, env, W, hW, ok, h⟩ => by
  subst hW
  exact pts_nil.run pins s σ W.H Q I (h W.F W.H (Gr.refl ok.gd))⟩
theorem dts_one {c : Expr} {ft : EnvD → M Bool} (h : PT X c (tDT (gx X) ft)) : PTs X [c] (tDT (gx X) ft) := pts_one h
theorem lc_r {G : Gx} {vs is : List Nat} {fi : EnvD → M (List D)} {g : TG} {tg : TgF} {ft : EnvD → M Bool} {fe : EnvD → M D} {σ : L2.St} {H : Hp} {Q : VK} (tr : TgR G g is tg) (hv : ∀ i ∈ is, i ∈ vs) (h : tDn G (nLc vs fi tg ft fe) σ H Q) :
    tLc (iD G fi) g (tDT G ft) (tD G fe) vs σ H Q := by
  obtain ⟨Z, env, W, hW, ok, h⟩ := h
  subst hW
  refine ⟨Z, env, W, rfl, ok, M.wp_mono (fun n1 ds h1 J F1 H1 g1 it => ?_) (wp_then h)⟩
  obtain ⟨hlen, h1⟩ := chk_wp h1
  intro Da hD
  have nz : ¬ Z.has Da := g1.gd.noHas hD
  refine ⟨fun i m H' => m = ds.length - i ∧ i ≤ ds.length ∧ ∃ F' n' accV accD, Gr Z ⟨F1, H1, n1⟩ ⟨F', H', n'⟩ ∧ F' Da = none ∧ H' Da = some (.lst accV) ∧ Reps G Z F' accV accD ∧ accD.length ≤ i ∧
    (goLc vs tg ft fe env (ds.drop i) accD).wp n' fun n2 es => ∀ a ws F'' H'', Gr Z W ⟨F'', H'', n2⟩ → W.H a = none → F'' a = none → H'' a = some (.lst ws) → Reps G Z F'' ws es → Q (.ref a) H'',
    ⟨_, rfl, Nat.zero_le _, F1, n1, [], [], Gr.allocH g1.gd hD, g1.gd.noF hD, upd_same, .nil, Nat.le_refl _, h1⟩, ?_⟩
  rintro i m H' ⟨rfl, hi, F', n', accV, accD, g', hF', hH', ra, hal, hw⟩
  have gW := g1.trans g'
  obtain ⟨it1, it2⟩ := it i ⟨F', H', n'⟩ g'.ff g'.gd
  by_cases hlt : i < ds.length
  · have hd : ds[i]? = some ds[i] := List.getElem?_eq_getElem hlt
    obtain ⟨go, yl⟩ := it1 _ hd
    rw [List.drop_eq_getElem_cons hlt] at hw
    unfold goLc at hw
    cases ht : tg ds[i] (wipeD env vs) with
    | none =>
      rw [ht] at hw
      exact hw.elim
    | some env1 =>
      rw [ht] at hw
      refine .inr ⟨go, fun H'' => ∃ F'' n'' accV' accD', Gr Z ⟨F1, H1, n1⟩ ⟨F'', H'', n''⟩ ∧ F'' Da = none ∧ H'' Da = some (.lst accV') ∧ Reps G Z F'' accV' accD' ∧ accD'.length ≤ i + 1 ∧
        (goLc vs tg ft fe env (ds.drop (i + 1)) accD').wp n'' fun n2 es => ∀ a ws F'' H'', Gr Z W ⟨F'', H'', n2⟩ → W.H a = none → F'' a = none → H'' a = some (.lst ws) → Reps G Z F'' ws es → Q (.ref a) H'',
        fun H'' q => ⟨ds.length - (i + 1), by omega, rfl, hlt, q⟩, fun x H2 y => ?_⟩
      obtain ⟨F2, g2, rx⟩ := yl x H2 y
      have g12 := g'.trans g2
      have hF2 := g2.unk hH' hF'
      have hH2 := g2.hh _ _ hH' nz
      have okw : Ok G Z (wipeD env vs) (L2.wipe σ vs) ⟨F2, H2, n'⟩ := ⟨g2.gd, (ok.env.wipe vs).mono (gW.trans g2).ff⟩
      refine tr Z _ env1 _ ⟨F2, H2, n'⟩ x _ okw rx ht _ fun σ1 ok1 hwp => ⟨by rw [hwp vs hv, wipe_wipe], ?_⟩
      refine ⟨Z, env1, ⟨F2, H2, n'⟩, rfl, ok1, M.wp_mono (fun n3 b h3 F3 H3 g3 => ?_) (wp_then hw)⟩
      have hF3 := g3.unk hH2 hF2
      have hH3 := g3.hh _ _ hH2 nz
      have g13 := g12.trans g3
      cases b with
      | false => exact ⟨F3, n3, accV, accD, g13, hF3, hH3, (ra.mono g2.ff).mono g3.ff, by omega, h3⟩
      | true =>
        show tD G fe σ1 H3 _
        refine ⟨Z, env1, ⟨F3, H3, n3⟩, rfl, ok1.step g3, M.wp_mono (fun n4 y4 h4 v4 F4 H4 g4 r4 => ?_) (wp_then h3)⟩
        have hF4 := g4.unk hH3 hF3
        have hH4 := g4.hh _ _ hH3 nz
        have ra4 := ((ra.mono g2.ff).mono g3.ff).mono g4.ff
        refine ⟨accV, hH4, ?_, F4, n4, accV ++ [v4], accD ++ [y4], (g13.trans g4).poke hD hF4 nz, hF4, upd_same, ra4.append (.cons r4 .nil), ?_, h4⟩
        · have := ra4.length
          exact Nat.lt_of_lt_of_le (show accV.length < 100001 by omega) (by decide)
        · rw [List.length_append, List.length_singleton]
          omega
  · have e : i = ds.length := by omega
    subst e
    rw [List.drop_length] at hw
    exact .inl ⟨it2 rfl, hw Da accV F' H' gW (g1.back hD) hF' hH' ra⟩
variable {elt tge iter : Expr} {ifs : List Expr} {scope : Scope} {own : List (Str × Nat)} {pos : Pos} {fi : EnvD → M (List D)} {tg : TgF} {is : List Nat} {ft : EnvD → M Bool} {fe : EnvD → M D} {g : TG}
theorem dn_lc (hc : X.calm = true) (hN : X.N.Nodup) (hi : PI X tge iter (iD (gx X) fi)) (ok : BlkOk X.N X.env.scope scope own)
    (hg : ∀ (s : Shared) (H : Hp) (C : Addr) (cl : List (Str × Addr)) (fp : List Addr), PG (X.blk s H scope (compEnvC scope cl C X.env) fp) tge g) (tr : TgR (gx X) g is tg) (hv : ∀ i ∈ is, i ∈ own.map (·.2))
    (ht : ∀ (s : Shared) (H : Hp) (C : Addr) (cl : List (Str × Addr)) (fp : List Addr), PTs (X.blk s H scope (compEnvC scope cl C X.env) fp) ifs (tDT (gx X) ft))
    (he : ∀ (s : Shared) (H : Hp) (C : Addr) (cl : List (Str × Addr)) (fp : List Addr), PE (X.blk s H scope (compEnvC scope cl C X.env) fp) elt (tD (gx X) fe)) (hs : ∀ x, foldedSetIterable iter X.env x = pure x := by intro _; rfl) :
    PE X (.ListComp elt [⟨tge, iter, ifs, 0⟩] scope pos) (tDn (gx X) (nLc (own.map (·.2)) fi tg ft fe)) :=
  (pe_lc hc hN hi ok hg ht he hs).weak fun σ H Q h => lc_r tr hv h
end
end Dv
end
section
set_option linter.all false
set_option maxRecDepth 100000
set_option maxHeartbeats 4000000
/-! N0: a dict whose keys are pairs of tuples of ints, whose values are dicts (known of picks_by_spans). -/
namespace Dv
open PySem PySem.Spec PyProof.Rows L2 Evl
abbrev NK := List Int × List Int
def nkOf (k : NK) : NestedKey := .tup [.tup (k.1.map .num), .tup (k.2.map .num)]
/-- the key k stands at T -/
def NKat (K : PySem.W.Frag) (H : Hp) (T : Addr) (k : NK) : Prop := ∃ t1 t2, SqT K H T [.ref t1, .ref t2] ∧ SqT K H t1 (k.1.map V.int) ∧ SqT K H t2 (k.2.map V.int)
theorem NKat.mono {K : PySem.W.Frag} {H H' : Hp} {T : Addr} {k : NK} (h : NKat K H T k) (e : Ex H H') : NKat K H' T k := by
  obtain ⟨t1, t2, h0, h1, h2⟩ := h
  exact ⟨t1, t2, ex_t e h0, ex_t e h1, ex_t e h2⟩
abbrev NE3 := List (NK × Addr × Addr)
def nsX (P : Program) (w : World) (xs : NE3) : List (NestedKey × Addr × Value) := xs.map fun x => (nkOf x.1, x.2.1, .ref x.2.2)
def nstO (P : Program) (w : World) (d : Addr) (xs : NE3) : HO := .ext fun h => (d == sysModules) = false ∧ ∃ o es ep, h.get? d = some o ∧ o.ExactDict ∧ o.data = .dict es ep ∧ es.toList = (nsX P w xs).map (entryOfKey (nestedKind P w))
theorem map_num_inj : ∀ {a b : List Int}, a.map NestedKey.num = b.map NestedKey.num → a = b
  | [], [], _ => rfl
  | [], _ :: _, h => by cases h
  | _ :: _, [], h => by cases h
  | x :: a, y :: b, h => by
    injection h with h1 h2
    injection h1 with h1
    rw [h1, map_num_inj h2]
theorem nkOf_inj {a b : NK} (h : nkOf a = nkOf b) : a = b := by
  unfold nkOf at h
  injection h with h
  injection h with h1 h2
  injection h1 with h1
  injection h2 with h2 _
  injection h2 with h2
  exact Prod.ext (map_num_inj h1) (map_num_inj h2)
def nkGet : NE3 → NK → Option (Addr × Addr)
  | [], _ => none
  | x :: r, k => if x.1 = k then some x.2 else nkGet r k
theorem nested_nums {h : Heap} : ∀ {ns : List Int} {us : List Value}, Vals (ns.map V.int) us → NestedAll h (ns.map NestedKey.num) us
  | [], _, r => by cases r; exact .nil
  | n :: ns, _, r => by
    cases r with
    | cons a r =>
      obtain ⟨t, rfl⟩ := a
      exact .cons (.int n t) (nested_nums r)
theorem depth_nums : ∀ ns : List Int, NestedKey.depthAll (ns.map NestedKey.num) ≤ 1
  | [] => by simp [NestedKey.depthAll]
  | n :: ns => by
    have := depth_nums ns
    simp [NestedKey.depthAll, NestedKey.depth]
    omega
theorem depth_nk (k : NK) : (nkOf k).depth ≤ 8 := by
  have h1 := depth_nums k.1
  have h2 := depth_nums k.2
  simp [nkOf, NestedKey.depth, NestedKey.depthAll]
  omega
section
variable {X : Cx} {pins : List (Addr × Obj)} {σ : L2.St} {H : Hp} {s : Shared}
theorem nested_tup {a : Addr} {its : List Value} {ks : List NestedKey} (p : IsTup s.heap a its.toArray) (h : NestedAll s.heap ks its) : NestedIs s.heap (.tup ks) (.ref a) := by
  obtain ⟨o, ho, hc, n, hd⟩ := p
  exact .tup ho hc hd (by simpa using h)
theorem nk_is {T : Addr} {k : NK} (I : Inv X pins σ H s) (h : NKat X.K H T k) : (nestedKind X.prog X.w).is s.heap (nkOf k) T := by
  obtain ⟨t1, t2, h0, h1, h2⟩ := h
  obtain ⟨i0, r0, p0, _⟩ := I.tuple h0
  obtain ⟨i1, r1, p1, _⟩ := I.tuple h1
  obtain ⟨i2, r2, p2, _⟩ := I.tuple h2
  refine ⟨nested_tup p0 ?_, depth_nk k⟩
  cases r0 with
  | cons a r =>
    cases r with
    | cons b r =>
      cases r
      cases a
      cases b
      exact .cons (nested_tup p1 (nested_nums r1)) (.cons (nested_tup p2 (nested_nums r2)) .nil)
end
end Dv
end
section
set_option linter.all false
set_option maxRecDepth 100000
set_option maxHeartbeats 4000000
/-! A3: statements: slots that hold data, and slots that own a list or a dict that is still changed. -/
namespace Dv
open PySem PySem.Spec PyProof.Rows L2 Evl

/-- a slot: nothing; data; an own list; an own dict with int keys -/
inductive Slot where
  | no
  | v (d : D)
  | o (ds : List D)
  | od (kvs : List (Int × D))
  | on (kvs : List (NK × List (Int × D)))
abbrev SEnv := List Slot
def isOwn : Slot → Bool
  | .o _ => true
  | .od _ => true
  | .on _ => true
  | _ => false
def isOL : Slot → Bool
  | .o _ => true
  | _ => false
/-- what expressions see: data alone; own lists, too -/
def lendV (se : SEnv) : EnvD := se.map fun
  | .v d => some d
  | _ => none
def lendO (se : SEnv) : EnvD := se.map fun
  | .v d => some d
  | .o ds => some (.lst ds)
  | _ => none
def dkeys (kvs : List (Int × D)) : List Key := kvs.map fun p => (Sum.inl p.1 : Key)
/-- what an own slot's object holds -/
def OwnR (G : Gx) (Z : Zs) (W : Wd) (p : Addr) : Slot → Prop
  | .o ds => ∃ vs, W.H p = some (.lst vs) ∧ Reps G Z W.F vs ds
  | .od kvs => ∃ vs, W.H p = some (.dK (List.zip (dkeys kvs) vs)) ∧ Reps G Z W.F vs (kvs.map (·.2))
  | .on kvs => ∃ xs : NE3, W.H p = some (nstO G.P G.w p xs) ∧ Paired (fun (q : NK × List (Int × D)) (x : NK × Addr × Addr) => q.1 = x.1 ∧ NKat G.K W.F x.2.1 q.1 ∧ Rep G Z W.F (.ref x.2.2) (.dic q.2)) kvs xs ∧ (kvs.map (·.1)).Nodup
  | _ => True
/-- the slots, from the entry W0 on -/
structure SOk (G : Gx) (Z : Zs) (W0 : Wd) (se : SEnv) (σ : L2.St) (W : Wd) : Prop where
  g0 : Gd Z W0
  base : Gr Z W0 W
  len : se.length = σ.length
  val : ∀ (i : Nat) (d : D), se[i]? = some (.v d) → ∃ v, σ[i]? = some (some v) ∧ Rep G Z W.F v d
  own : ∀ (i : Nat) (sl : Slot), se[i]? = some sl → isOwn sl = true → ∃ p, σ[i]? = some (some (.ref p)) ∧ W.F p = none ∧ W0.H p = none ∧ OwnR G Z W p sl
  dis : ∀ (i j : Nat) (s t : Slot) (p : Addr), i ≠ j → se[i]? = some s → se[j]? = some t → isOwn s = true → isOwn t = true → σ[i]? = some (some (.ref p)) → σ[j]? = some (some (.ref p)) → False

theorem OwnR.mono {G : Gx} {Z : Zs} {W W1 : Wd} {p : Addr} {sl : Slot} (h : OwnR G Z W p sl) (e : Ex W.F W1.F) (k : ∀ o, W.H p = some o → W1.H p = some o) : OwnR G Z W1 p sl := by
  cases sl with
  | no => trivial
  | v d => trivial
  | o ds =>
    obtain ⟨vs, h1, h2⟩ := h
    exact ⟨vs, k _ h1, h2.mono e⟩
  | od kvs =>
    obtain ⟨vs, h1, h2⟩ := h
    exact ⟨vs, k _ h1, h2.mono e⟩
  | on kvs =>
    obtain ⟨xs, h1, h2, h3⟩ := h
    refine ⟨xs, k _ h1, ?_, h3⟩
    clear h1 h3
    induction h2 with
    | nil => exact .nil
    | cons a _ ih => exact .cons ⟨a.1, a.2.1.mono e, a.2.2.mono e⟩ ih
theorem OwnR.some {G : Gx} {Z : Zs} {W : Wd} {p : Addr} {sl : Slot} (h : OwnR G Z W p sl) (o : isOwn sl = true) : ∃ u, W.H p = some u := by
  cases sl with
  | no => cases o
  | v d => cases o
  | o ds =>
    obtain ⟨vs, h1, _⟩ := h
    exact ⟨_, h1⟩
  | od kvs =>
    obtain ⟨vs, h1, _⟩ := h
    exact ⟨_, h1⟩
  | on kvs =>
    obtain ⟨xs, h1, _⟩ := h
    exact ⟨_, h1⟩
section
variable {G : Gx} {Z : Zs} {W0 W W1 : Wd} {se : SEnv} {σ : L2.St}
theorem SOk.gd (S : SOk G Z W0 se σ W) : Gd Z W := S.base.gd
theorem SOk.nz (S : SOk G Z W0 se σ W) {p : Addr} (h : W0.H p = none) : ¬ Z.has p := S.g0.noHas h
/-- a step of an expression that sees the data alone -/
theorem SOk.step (S : SOk G Z W0 se σ W) (g : Gr Z W W1) : SOk G Z W0 se σ W1 := by
  refine ⟨S.g0, S.base.trans g, S.len, fun i d h => ?_, fun i sl h o => ?_, S.dis⟩
  · obtain ⟨v, h1, h2⟩ := S.val i d h
    exact ⟨v, h1, h2.mono g.ff⟩
  · obtain ⟨p, h1, h2, h3, h4⟩ := S.own i sl h o
    obtain ⟨u, hu⟩ := h4.some o
    exact ⟨p, h1, g.unk hu h2, h3, h4.mono g.ff fun o q => g.hh p o q (S.nz h3)⟩
theorem SOk.envV (S : SOk G Z W0 se σ W) : Ok G Z (lendV se) σ W := by
  refine ⟨S.gd, by unfold lendV; rw [List.length_map]; exact S.len, fun i d h => ?_⟩
  unfold lendV at h
  rw [List.getElem?_map] at h
  cases q : se[i]? with
  | none =>
    rw [q] at h
    cases h
  | some sl =>
    rw [q] at h
    cases sl with
    | v d' =>
      cases h
      exact S.val i d q
    | _ => cases h
/-- the own lists' places -/
def OL (se : SEnv) (σ : L2.St) (a : Addr) : Prop := ∃ (i : Nat) (ds : List D), se[i]? = some (.o ds) ∧ σ[i]? = some (some (.ref a))
open Classical in
noncomputable def FB (se : SEnv) (σ : L2.St) (W : Wd) : Hp := fun a => if OL se σ a then W.H a else W.F a
open Classical in
noncomputable def FD (se : SEnv) (σ : L2.St) (F : Hp) : Hp := fun a => if OL se σ a then none else F a
theorem SOk.ol (S : SOk G Z W0 se σ W) {a : Addr} (h : OL se σ a) : W.F a = none ∧ W0.H a = none ∧ ∃ vs, W.H a = some (.lst vs) := by
  obtain ⟨i, ds, h1, h2⟩ := h
  obtain ⟨p, q1, q2, q3, q4⟩ := S.own i _ h1 rfl
  rw [h2] at q1
  cases q1
  obtain ⟨vs, q4, _⟩ := q4
  exact ⟨q2, q3, vs, q4⟩
theorem FB_in {a : Addr} (h : OL se σ a) : FB se σ W a = W.H a := if_pos h
theorem FB_out {a : Addr} (h : ¬ OL se σ a) : FB se σ W a = W.F a := if_neg h
theorem FD_in {F : Hp} {a : Addr} (h : OL se σ a) : FD se σ F a = none := if_pos h
theorem FD_out {F : Hp} {a : Addr} (h : ¬ OL se σ a) : FD se σ F a = F a := if_neg h
theorem SOk.fb (S : SOk G Z W0 se σ W) : Ex W.F (FB se σ W) := fun a o h => by
  by_cases q : OL se σ a
  · rw [(S.ol q).1] at h
    cases h
  · rw [FB_out q]
    exact h
theorem SOk.gdB (S : SOk G Z W0 se σ W) : Gd Z ⟨FB se σ W, W.H, W.n⟩ := by
  refine ⟨fun a o h => ?_, S.gd.st, fun a h => ?_, S.gd.tabs S.fb fun _ _ => rfl⟩
  · have h : FB se σ W a = some o := h
    by_cases q : OL se σ a
    · rw [FB_in q] at h
      exact h
    · rw [FB_out q] at h
      exact S.gd.sub a o h
  · show FB se σ W a = none
    by_cases q : OL se σ a
    · exact absurd h (S.nz (S.ol q).2.1)
    · rw [FB_out q]
      exact S.gd.zf a h
theorem SOk.envO (S : SOk G Z W0 se σ W) : Ok G Z (lendO se) σ ⟨FB se σ W, W.H, W.n⟩ := by
  refine ⟨S.gdB, by unfold lendO; rw [List.length_map]; exact S.len, fun i d h => ?_⟩
  unfold lendO at h
  rw [List.getElem?_map] at h
  cases q : se[i]? with
  | none =>
    rw [q] at h
    cases h
  | some sl =>
    rw [q] at h
    cases sl with
    | v d' =>
      cases h
      obtain ⟨v, h1, h2⟩ := S.val i d q
      exact ⟨v, h1, h2.mono S.fb⟩
    | o ds =>
      cases h
      obtain ⟨p, h1, h2, h3, vs, h4, h5⟩ := S.own i _ q rfl
      exact ⟨.ref p, h1, .lst (by show FB se σ W p = _; rw [FB_in ⟨i, ds, q, h1⟩]; exact h4) (h5.mono S.fb)⟩
    | _ => cases h
theorem SOk.exO (S : SOk G Z W0 se σ W) (g : Gr Z ⟨FB se σ W, W.H, W.n⟩ W1) : Ex W.F (FD se σ W1.F) := fun a o h => by
  by_cases q : OL se σ a
  · rw [(S.ol q).1] at h
    cases h
  · rw [FD_out q]
    exact g.ff a o (by show FB se σ W a = _; rw [FB_out q]; exact h)
/-- behind an expression that saw the own lists: they are own again -/
theorem SOk.stepO (S : SOk G Z W0 se σ W) (g : Gr Z ⟨FB se σ W, W.H, W.n⟩ W1) : SOk G Z W0 se σ ⟨FD se σ W1.F, W1.H, W1.n⟩ := by
  have ff := S.exO g
  have sub : Ex (FD se σ W1.F) W1.H := fun a o h => by
    by_cases q : OL se σ a
    · rw [FD_in q] at h
      cases h
    · rw [FD_out q] at h
      exact g.gd.sub a o h
  refine ⟨S.g0, ⟨S.base.ff.trans ff, fun a o h n => g.hh a o (S.base.hh a o h n) n, fun a h h' => ?_, ⟨sub, g.gd.st, fun a h => ?_, fun p hp => ?_⟩⟩, S.len, fun i d h => ?_, fun i sl h o => ?_, S.dis⟩
  · have h' : FD se σ W1.F a ≠ none := h'
    by_cases q : OL se σ a
    · exact (S.ol q).2.1
    · rw [FD_out q] at h'
      by_cases e : W.F a = none
      · exact S.base.back (g.new a (by show FB se σ W a = none; rw [FB_out q]; exact e) h')
      · exact S.base.new a h e
  · show FD se σ W1.F a = none
    by_cases q : OL se σ a
    · exact FD_in q
    · rw [FD_out q]
      exact g.gd.zf a h
  · obtain ⟨ps, t1, t2, t3⟩ := g.gd.tab p hp
    refine ⟨ps, t1, t2, fun pos cv hc => ?_⟩
    obtain ⟨c, e1, e2⟩ := t3 pos cv hc
    refine ⟨c, e1, (FD_out fun q => ?_).trans e2⟩
    obtain ⟨_, _, vs, e⟩ := S.ol q
    have := g.ff c _ (by show FB se σ W c = _; rw [FB_in q]; exact e)
    rw [e2] at this
    unfold LamX.CodeO at this
    cases this
  · obtain ⟨v, h1, h2⟩ := S.val i d h
    exact ⟨v, h1, h2.mono ff⟩
  · obtain ⟨p, h1, h2, h3, h4⟩ := S.own i sl h o
    obtain ⟨u, hu⟩ := h4.some o
    refine ⟨p, h1, ?_, h3, h4.mono ff fun o q => g.hh p o q (S.nz h3)⟩
    show FD se σ W1.F p = none
    by_cases q : OL se σ p
    · exact FD_in q
    · rw [FD_out q]
      exact g.unk (a := p) (o := u) hu (by show FB se σ W p = none; rw [FB_out q]; exact h2)
theorem SOk.noOL (S : SOk G Z W0 se σ W) (h : se.any isOL = false) (a : Addr) : ¬ OL se σ a := fun ⟨i, ds, h1, _⟩ => by
  have : se.any isOL = true := List.any_eq_true.mpr ⟨_, List.mem_of_getElem? h1, rfl⟩
  rw [h] at this
  cases this
theorem SOk.repD (S : SOk G Z W0 se σ W) (g : Gr Z ⟨FB se σ W, W.H, W.n⟩ W1) {v : V} {d : D} (ok : (noL d || !se.any isOL) = true) (r : Rep G Z W1.F v d) : Rep G Z (FD se σ W1.F) v d := by
  rcases Bool.or_eq_true_iff.mp ok with h | h
  · refine r.drop (O := OL se σ) (fun a q => ?_) (fun a q => FD_out q) h
    obtain ⟨_, _, vs, e⟩ := S.ol q
    exact ⟨vs, g.ff a _ (by show FB se σ W a = _; rw [FB_in q]; exact e)⟩
  · have h : se.any isOL = false := by simpa using h
    refine r.mono fun a o q => ?_
    rw [FD_out (S.noOL h a)]
    exact q
theorem SOk.repsD (S : SOk G Z W0 se σ W) (g : Gr Z ⟨FB se σ W, W.H, W.n⟩ W1) {vs : List V} {ds : List D} (ok : (noLs ds || !se.any isOL) = true) (r : Reps G Z W1.F vs ds) : Reps G Z (FD se σ W1.F) vs ds := by
  rcases Bool.or_eq_true_iff.mp ok with h | h
  · refine r.dropO (O := OL se σ) (fun a q => ?_) (fun a q => FD_out q) h
    obtain ⟨_, _, vs, e⟩ := S.ol q
    exact ⟨vs, g.ff a _ (by show FB se σ W a = _; rw [FB_in q]; exact e)⟩
  · have h : se.any isOL = false := by simpa using h
    refine r.mono fun a o q => ?_
    rw [FD_out (S.noOL h a)]
    exact q
/-- what a slot is given -/
def SlR (G : Gx) (Z : Zs) (Hold : Hp) (W0 W : Wd) (v : V) : Slot → Prop
  | .no => True
  | .v d => Rep G Z W.F v d
  | sl => ∃ p, v = .ref p ∧ Hold p = none ∧ W.F p = none ∧ W0.H p = none ∧ OwnR G Z W p sl
theorem SOk.set (S : SOk G Z W0 se σ W) {Hold : Hp} {v : V} {sl : Slot} (i : Nat) (hold : ∀ (j : Nat) (t : Slot) (p : Addr), se[j]? = some t → isOwn t = true → j ≠ i → σ[j]? = some (some (.ref p)) → Hold p ≠ none) (r : SlR G Z Hold W0 W v sl) : SOk G Z W0 (se.set i sl) (σ.set i (some v)) W := by
  have at_ : ∀ {j : Nat} {t : Slot}, (se.set i sl)[j]? = some t → (j = i ∧ t = sl ∧ (σ.set i (some v))[j]? = some (some v)) ∨ (j ≠ i ∧ se[j]? = some t ∧ (σ.set i (some v))[j]? = σ[j]?) := fun {j t} h => by
    by_cases hj : i = j
    · subst hj
      by_cases hl : i < se.length
      · rw [List.getElem?_set_self hl] at h
        cases h
        exact .inl ⟨rfl, rfl, List.getElem?_set_self (by rw [← S.len]; exact hl)⟩
      · rw [List.getElem?_eq_none (by rw [List.length_set]; omega)] at h
        cases h
    · rw [List.getElem?_set_ne hj] at h
      exact .inr ⟨fun z => hj z.symm, h, List.getElem?_set_ne hj⟩
  refine ⟨S.g0, S.base, by rw [List.length_set, List.length_set]; exact S.len, fun j d h => ?_, fun j t h o => ?_, fun j k s t p ne hs ht os ot e1 e2 => ?_⟩
  · rcases at_ h with ⟨rfl, rfl, e⟩ | ⟨hj, h, e⟩
    · exact ⟨v, e, r⟩
    · rw [e]
      exact S.val j d h
  · rcases at_ h with ⟨rfl, rfl, e⟩ | ⟨hj, h, e⟩
    · cases t with
      | no => cases o
      | v d => cases o
      | o ds =>
        obtain ⟨p, rfl, _, h2, h3, h4⟩ := r
        exact ⟨p, e, h2, h3, h4⟩
      | od ds =>
        obtain ⟨p, rfl, _, h2, h3, h4⟩ := r
        exact ⟨p, e, h2, h3, h4⟩
      | on ds =>
        obtain ⟨p, rfl, _, h2, h3, h4⟩ := r
        exact ⟨p, e, h2, h3, h4⟩
    · rw [e]
      exact S.own j t h o
  · have fresh : ∀ {q : Addr}, isOwn sl = true → v = .ref q → Hold q = none := fun {q} o e => by
      subst e
      cases sl with
      | no => cases o
      | v d => cases o
      | o ds =>
        obtain ⟨p, h1, h2, _⟩ := r
        cases h1
        exact h2
      | od ds =>
        obtain ⟨p, h1, h2, _⟩ := r
        cases h1
        exact h2
      | on ds =>
        obtain ⟨p, h1, h2, _⟩ := r
        cases h1
        exact h2
    rcases at_ hs with ⟨rfl, rfl, a1⟩ | ⟨hj, a0, a1⟩
    · rcases at_ ht with ⟨rfl, _, _⟩ | ⟨hk, b0, b1⟩
      · exact ne rfl
      · rw [a1] at e1
        rw [b1] at e2
        exact hold k t p b0 ot hk e2 (fresh os (by cases e1; rfl))
    · rcases at_ ht with ⟨rfl, rfl, b1⟩ | ⟨hk, b0, b1⟩
      · rw [a1] at e1
        rw [b1] at e2
        exact hold j s p a0 os hj e1 (fresh ot (by cases e2; rfl))
      · rw [a1] at e1
        rw [b1] at e2
        exact S.dis j k s t p ne a0 b0 os ot e1 e2
theorem SOk.setV (S : SOk G Z W0 se σ W) {v : V} {d : D} (i : Nat) (r : Rep G Z W.F v d) : SOk G Z W0 (se.set i (.v d)) (σ.set i (some v)) W := by
  refine S.set (Hold := W.H) (sl := .v d) i (fun j t p h o _ e q => ?_) r
  obtain ⟨p', h1, _, _, h4⟩ := S.own j t h o
  rw [e] at h1
  cases h1
  obtain ⟨u, hu⟩ := h4.some o
  rw [hu] at q
  cases q
/-- a thing that no slot owns is known from now on -/
theorem SOk.learn (S : SOk G Z W0 se σ W) {a : Addr} {o : HO} (ha : W.H a = some o) (hF : W.F a = none) (h0 : W0.H a = none) (nz : ¬ Z.has a) (ne : ∀ (j : Nat) (t : Slot) (p : Addr), se[j]? = some t → isOwn t = true → σ[j]? = some (some (.ref p)) → p ≠ a) :
    SOk G Z W0 se σ ⟨upd W.F a o, W.H, W.n⟩ := by
  have e : Ex W.F (upd W.F a o) := Ex.new hF
  refine ⟨S.g0, S.base.learn h0 ha nz hF, S.len, fun i d h => ?_, fun i sl h ow => ?_, S.dis⟩
  · obtain ⟨v, h1, h2⟩ := S.val i d h
    exact ⟨v, h1, h2.mono e⟩
  · obtain ⟨p, h1, h2, h3, h4⟩ := S.own i sl h ow
    refine ⟨p, h1, ?_, h3, h4.mono e fun _ q => q⟩
    show upd W.F a o p = none
    rw [upd_ne (ne i sl p h ow h1)]
    exact h2
/-- what the own slots hold stood already ahead of a step -/
theorem SOk.held (S : SOk G Z W0 se σ W) (i : Nat) : ∀ (j : Nat) (t : Slot) (p : Addr), se[j]? = some t → isOwn t = true → j ≠ i → σ[j]? = some (some (.ref p)) → W.H p ≠ none := fun j t p h o _ e q => by
  obtain ⟨p', h1, _, _, h4⟩ := S.own j t h o
  rw [e] at h1
  cases h1
  obtain ⟨u, hu⟩ := h4.some o
  rw [hu] at q
  cases q
end

/-- an own thing is changed -/
theorem SOk.poke {G : Gx} {Z : Zs} {W0 W : Wd} {se : SEnv} {σ : L2.St} (S : SOk G Z W0 se σ W) {i : Nat} {p : Addr} {sl sl' : Slot} {o : HO} (hi : se[i]? = some sl) (ho : isOwn sl = true) (hp : σ[i]? = some (some (.ref p))) (ho' : isOwn sl' = true)
    (h : OwnR G Z ⟨W.F, upd W.H p o, W.n⟩ p sl') : SOk G Z W0 (se.set i sl') σ ⟨W.F, upd W.H p o, W.n⟩ := by
  obtain ⟨p', e1, e2, e3, e4⟩ := S.own i sl hi ho
  rw [hp] at e1
  cases e1
  have hl : i < se.length := (List.getElem?_eq_some_iff.mp hi).1
  refine ⟨S.g0, S.base.poke e3 e2 (S.nz e3), by rw [List.length_set]; exact S.len, fun j d q => ?_, fun j t q ow => ?_, fun j k s t r ne hs ht os ot a b => ?_⟩
  · by_cases hj : i = j
    · subst hj
      rw [List.getElem?_set_self hl] at q
      cases q
      cases ho'
    · rw [List.getElem?_set_ne hj] at q
      exact S.val j d q
  · by_cases hj : i = j
    · subst hj
      rw [List.getElem?_set_self hl] at q
      cases q
      exact ⟨p, hp, e2, e3, h⟩
    · rw [List.getElem?_set_ne hj] at q
      obtain ⟨r, h1, h2, h3, h4⟩ := S.own j t q ow
      have hne : r ≠ p := fun z => by
        subst z
        exact S.dis i j sl t r hj hi q ho ow hp h1
      exact ⟨r, h1, h2, h3, h4.mono (Ex.refl _) fun u e => by show upd W.H p o r = some u; rw [upd_ne hne]; exact e⟩
  · have old : ∀ {m : Nat} {u : Slot}, (se.set i sl')[m]? = some u → isOwn u = true → ∃ u', se[m]? = some u' ∧ isOwn u' = true := fun {m u} q ow => by
      by_cases hm : i = m
      · subst hm
        exact ⟨sl, hi, ho⟩
      · rw [List.getElem?_set_ne hm] at q
        exact ⟨u, q, ow⟩
    obtain ⟨s', hs', os'⟩ := old hs os
    obtain ⟨t', ht', ot'⟩ := old ht ot
    exact S.dis j k s' t' r ne hs' ht' os' ot' a b

/-! ### readings of statements -/
inductive Ctl where
  | nx (se : SEnv)
  | rt (d : D)
def SAft (G : Gx) (Z : Zs) (W0 : Wd) (F : Hp) (Dn : Ends) (n' : Nat) : Ctl → Prop
  | .nx se => ∀ σ' F' H', SOk G Z W0 se σ' ⟨F', H', n'⟩ → Ex F F' → Dn.nx σ' H'
  | .rt d => ∀ v F' H', Gr Z W0 ⟨F', H', n'⟩ → Rep G Z F' v d → Dn.rt v H'
theorem SAft.mono {G : Gx} {Z : Zs} {W0 : Wd} {F F1 : Hp} {Dn : Ends} {n : Nat} {c : Ctl} (h : SAft G Z W0 F Dn n c) (e : Ex F F1) : SAft G Z W0 F1 Dn n c := by
  cases c with
  | nx se => exact fun σ' F' H' S q => h σ' F' H' S (e.trans q)
  | rt d => exact h
def tS (G : Gx) (g : SEnv → M Ctl) : TS := fun Dn σ H => ∃ Z W0 se W, W.H = H ∧ SOk G Z W0 se σ W ∧ (g se).wp W.n (SAft G Z W0 W.F Dn)
def sNil : SEnv → M Ctl := fun se => .ret (.nx se)
def sSeq (g h : SEnv → M Ctl) : SEnv → M Ctl := fun se => do
  let c ← g se
  match c with
  | .nx se' => h se'
  | .rt d => .ret (.rt d)
def sSet (i : Nat) (f : EnvD → M D) : SEnv → M Ctl := fun se => do
  let d ← f (lendV se)
  .ret (.nx (se.set i (.v d)))
/-- .. that reads own lists -/
def sSetO (i : Nat) (f : EnvD → M D) : SEnv → M Ctl := fun se => do
  let d ← f (lendO se)
  match noL d || !se.any isOL with
  | true => .ret (.nx (se.set i (.v d)))
  | false => .bad
/-- a new list, own -/
def sNew (i : Nat) (f : EnvD → M (List D)) : SEnv → M Ctl := fun se => do
  let ds ← f (lendV se)
  .ret (.nx (se.set i (.o ds)))
/-- a new list made of own ones, data -/
def sNewO (i : Nat) (f : EnvD → M (List D)) : SEnv → M Ctl := fun se => do
  let ds ← f (lendO se)
  match noLs ds || !se.any isOL with
  | true => .ret (.nx (se.set i (.v (.lst ds))))
  | false => .bad
def sRet (f : EnvD → M D) : SEnv → M Ctl := fun se => do
  let d ← f (lendO se)
  .ret (.rt d)
def sIf (ft : EnvD → M Bool) (g h : SEnv → M Ctl) : SEnv → M Ctl := fun se => do
  let b ← ft (lendO se)
  match b with
  | true => g se
  | false => h se
def sDrop (f : EnvD → M D) : SEnv → M Ctl := fun se => do
  let _ ← f (lendV se)
  .ret (.nx se)
def sNever : SEnv → M Ctl := fun _ => .bad
/-- own things are data from now on -/
def fzL (i : Nat) (se : SEnv) : SEnv := match se[i]? with
  | some (.o ds) => se.set i (.v (.lst ds))
  | _ => se
def sFzL (i : Nat) (g : SEnv → M Ctl) : SEnv → M Ctl := fun se => g (fzL i se)
/-- x.append(e) -/
def sApp (i : Nat) (f : EnvD → M D) : SEnv → M Ctl := fun se => match se[i]? with
  | some (.o ds) => do
    let d ← f (lendO se)
    match noL d with
    | true => chk ds.length (.ret (.nx (se.set i (.o (ds ++ [d])))))
    | false => .bad
  | _ => .bad
/-- targets of a for -/
inductive TgS where
  | one (i : Nat)
  | two (i j : Nat)
  | three (i j k : Nat)
def TgS.bind : TgS → D → SEnv → Option SEnv
  | .one i, d, se => some (se.set i (.v d))
  | .two i j, .tup [x, y], se => some ((se.set i (.v x)).set j (.v y))
  | .three i j k, .tup [x, y, z], se => some (((se.set i (.v x)).set j (.v y)).set k (.v z))
  | _, _, _ => none
def goFor (tg : TgS) (g : SEnv → M Ctl) : List D → SEnv → M Ctl
  | [], se => .ret (.nx se)
  | d :: r, se => match tg.bind d se with
    | none => .bad
    | some se1 => do
      let c ← g se1
      match c with
      | .nx se2 => goFor tg g r se2
      | .rt d => .ret (.rt d)
def sFor (fi : EnvD → M (List D)) (tg : TgS) (g : SEnv → M Ctl) : SEnv → M Ctl := fun se => do
  let ds ← fi (lendV se)
  goFor tg g ds se
def goWh (ft : EnvD → M Bool) (g : SEnv → M Ctl) : Nat → SEnv → M Ctl
  | 0, _ => .bad
  | n + 1, se => do
    let b ← ft (lendO se)
    match b with
    | false => .ret (.nx se)
    | true => do
      let c ← g se
      match c with
      | .nx se2 => goWh ft g n se2
      | .rt d => .ret (.rt d)
def sWh (n : Nat) (ft : EnvD → M Bool) (g : SEnv → M Ctl) : SEnv → M Ctl := goWh ft g n

section
variable {G : Gx} {fa : EnvD → M D} {fn : EnvD → M (List D)} {ft : EnvD → M Bool} {g h : SEnv → M Ctl} {Dn : Ends} {σ : L2.St} {H : Hp}
theorem nil_r (q : tS G sNil Dn σ H) : tNext Dn σ H := by
  obtain ⟨Z, W0, se, W, rfl, S, q⟩ := q
  exact q σ W.F W.H S (Ex.refl _)
theorem seq_r (q : tS G (sSeq g h) Dn σ H) : tSeq (tS G g) (tS G h) Dn σ H := by
  obtain ⟨Z, W0, se, W, rfl, S, q⟩ := q
  refine ⟨Z, W0, se, W, rfl, S, M.wp_mono (fun n1 c q1 => ?_) (wp_then q)⟩
  cases c with
  | nx se1 => exact fun σ' F' H' S' e' => ⟨Z, W0, se1, ⟨F', H', n1⟩, rfl, S', M.wp_mono (fun _ c h => h.mono e') q1⟩
  | rt d => exact q1
theorem set_r {i : Nat} (q : tS G (sSet i fa) Dn σ H) : tAsg (tD G fa) (gName i) Dn σ H := by
  obtain ⟨Z, W0, se, W, rfl, S, q⟩ := q
  refine ⟨Z, _, W, rfl, S.envV, M.wp_mono (fun n1 d q1 v F1 H1 g1 r1 => ?_) (wp_then q)⟩
  exact q1 _ F1 H1 ((S.step g1).setV i r1) g1.ff
theorem setO_r {i : Nat} (q : tS G (sSetO i fa) Dn σ H) : tAsg (tD G fa) (gName i) Dn σ H := by
  obtain ⟨Z, W0, se, W, rfl, S, q⟩ := q
  refine ⟨Z, _, ⟨FB se σ W, W.H, W.n⟩, rfl, S.envO, M.wp_mono (fun n1 d q1 v F1 H1 g1 r1 => ?_) (wp_then q)⟩
  cases e : (noL d || !se.any isOL) with
  | false =>
    rw [e] at q1
    exact q1.elim
  | true =>
    rw [e] at q1
    exact q1 _ _ H1 ((S.stepO g1).setV i (S.repD g1 e r1)) (S.exO g1)
theorem new_r {i : Nat} (q : tS G (sNew i fn) Dn σ H) : tAsg (tDn G fn) (gName i) Dn σ H := by
  obtain ⟨Z, W0, se, W, rfl, S, q⟩ := q
  refine ⟨Z, _, W, rfl, S.envV, M.wp_mono (fun n1 ds q1 a vs F1 H1 g1 hn hF ha r1 => ?_) (wp_then q)⟩
  exact q1 _ F1 H1 ((S.step g1).set (Hold := W.H) (sl := .o ds) i (S.held i) ⟨a, rfl, hn, hF, S.base.back hn, vs, ha, r1⟩) g1.ff
theorem newO_r {i : Nat} (q : tS G (sNewO i fn) Dn σ H) : tAsg (tDn G fn) (gName i) Dn σ H := by
  obtain ⟨Z, W0, se, W, rfl, S, q⟩ := q
  refine ⟨Z, _, ⟨FB se σ W, W.H, W.n⟩, rfl, S.envO, M.wp_mono (fun n1 ds q1 a vs F1 H1 g1 hn hF ha r1 => ?_) (wp_then q)⟩
  cases e : (noLs ds || !se.any isOL) with
  | false =>
    rw [e] at q1
    exact q1.elim
  | true =>
    rw [e] at q1
    have hn : W.H a = none := hn
    have na : ¬ OL se σ a := fun z => by
      obtain ⟨_, _, vs, e⟩ := S.ol z
      rw [hn] at e
      cases e
    have S1 := S.stepO g1
    have hFD : FD se σ F1 a = none := by
      rw [FD_out na]
      exact hF
    have ne : ∀ (j : Nat) (t : Slot) (p : Addr), se[j]? = some t → isOwn t = true → σ[j]? = some (some (.ref p)) → p ≠ a := fun j t p h o e z => by
      subst z
      exact S.held (j + 1) j t p h o (by omega) e hn
    have S2 := S1.learn (a := a) (o := .lst vs) ha hFD (S.base.back hn) (S.gd.noHas hn) ne
    exact q1 _ _ H1 (S2.setV i (.lst upd_same ((S.repsD g1 e r1).mono (Ex.new hFD)))) ((S.exO g1).trans (Ex.new hFD))
theorem ret_r (q : tS G (sRet fa) Dn σ H) : tRet (tD G fa) Dn σ H := by
  obtain ⟨Z, W0, se, W, rfl, S, q⟩ := q
  refine ⟨Z, _, ⟨FB se σ W, W.H, W.n⟩, rfl, S.envO, M.wp_mono (fun n1 d q1 v F1 H1 g1 r1 => ?_) (wp_then q)⟩
  refine q1 v F1 H1 ⟨(S.base.ff.trans S.fb).trans g1.ff, fun a o h n => g1.hh a o (S.base.hh a o h n) n, fun a e e' => ?_, g1.gd⟩ r1
  by_cases z : OL se σ a
  · exact (S.ol z).2.1
  · by_cases w : W.F a = none
    · exact S.base.back (g1.new a (by show FB se σ W a = none; rw [FB_out z]; exact w) e')
    · exact S.base.new a e w
/-- an own list is data from now on -/
theorem fzL_r {i : Nat} (q : tS G (sFzL i g) Dn σ H) : tS G g Dn σ H := by
  obtain ⟨Z, W0, se, W, rfl, S, q⟩ := q
  unfold sFzL fzL at q
  split at q
  · rename_i ds hi
    obtain ⟨p, h1, h2, h3, vs, h4, h5⟩ := S.own i _ hi rfl
    have S1 : SOk G Z W0 (se.set i .no) σ W := by
      have hl : i < σ.length := by
        rw [← S.len]
        exact (List.getElem?_eq_some_iff.mp hi).1
      have S1 := S.set (Hold := W.H) (sl := .no) (v := .ref p) i (S.held i) trivial
      have e : σ.set i (some (.ref p)) = σ := by
        apply List.ext_getElem?
        intro j
        by_cases hj : i = j
        · subst hj
          rw [List.getElem?_set_self hl, h1]
        · rw [List.getElem?_set_ne hj]
      rw [e] at S1
      exact S1
    have S2 := S1.learn (a := p) (o := .lst vs) h4 h2 h3 (S.nz h3) fun j t p' h o e z => by
      subst z
      by_cases hj : i = j
      · subst hj
        rw [List.getElem?_set_self (List.getElem?_eq_some_iff.mp hi).1] at h
        cases h
        cases o
      · rw [List.getElem?_set_ne hj] at h
        exact S.dis i j _ t p' hj hi h rfl o h1 e
    have S3 := S2.setV (v := .ref p) (d := .lst ds) i (.lst upd_same (h5.mono (Ex.new h2)))
    have hl : i < σ.length := by
      rw [← S.len]
      exact (List.getElem?_eq_some_iff.mp hi).1
    have e : σ.set i (some (.ref p)) = σ := by
      apply List.ext_getElem?
      intro j
      by_cases hj : i = j
      · subst hj
        rw [List.getElem?_set_self hl, h1]
      · rw [List.getElem?_set_ne hj]
    rw [e, List.set_set] at S3
    exact ⟨Z, W0, _, ⟨upd W.F p (.lst vs), W.H, W.n⟩, rfl, S3, M.wp_mono (fun _ c h => h.mono (Ex.new h2)) q⟩
  · exact ⟨Z, W0, se, W, rfl, S, q⟩
theorem if_r (q : tS G (sIf ft g h) Dn σ H) : tIfS (tDT G ft) (tS G g) (tS G h) Dn σ H := by
  obtain ⟨Z, W0, se, W, rfl, S, q⟩ := q
  refine ⟨Z, _, ⟨FB se σ W, W.H, W.n⟩, rfl, S.envO, M.wp_mono (fun n1 b q1 F1 H1 g1 => ?_) (wp_then q)⟩
  cases b with
  | true => exact ⟨Z, W0, se, _, rfl, S.stepO g1, M.wp_mono (fun _ c h => h.mono (S.exO g1)) q1⟩
  | false => exact ⟨Z, W0, se, _, rfl, S.stepO g1, M.wp_mono (fun _ c h => h.mono (S.exO g1)) q1⟩
theorem drop_r (q : tS G (sDrop fa) Dn σ H) : tDrop (tD G fa) Dn σ H := by
  obtain ⟨Z, W0, se, W, rfl, S, q⟩ := q
  exact ⟨Z, _, W, rfl, S.envV, M.wp_mono (fun n1 d q1 v F1 H1 g1 r1 => q1 _ F1 H1 (S.step g1) g1.ff) (wp_then q)⟩
/-! ### append, for, while -/
theorem app_r {i : Nat} (q : tS G (sApp i fa) Dn σ H) : tDrop (tBM G.K "list" rAppend (tVar i) (tCons (tD G fa) tNil)) Dn σ H := by
  obtain ⟨Z, W0, se, W, rfl, S, q⟩ := q
  unfold sApp at q
  split at q
  · rename_i ds hi
    obtain ⟨p, h1, h2, h3, vs, h4, h5⟩ := S.own i _ hi rfl
    refine ⟨.ref p, h1, .inl ⟨rfl, vs, SqL.of h4⟩, ?_⟩
    refine ⟨Z, _, ⟨FB se σ W, W.H, W.n⟩, rfl, S.envO, M.wp_mono (fun n1 d q1 v F1 H1 g1 r1 => ?_) (wp_then q)⟩
    have hH1 : H1 p = some (.lst vs) := g1.hh p _ h4 (S.nz h3)
    cases e : noL d with
    | false =>
      rw [e] at q1
      exact q1.elim
    | true =>
      rw [e] at q1
      obtain ⟨hc, q1⟩ := chk_wp q1
      have S1 := S.stepO g1
      have rv : Rep G Z (FD se σ F1) v d := S.repD g1 (by rw [e]; rfl) r1
      refine ⟨p, vs, v, rfl, rfl, hH1, ?_, ?_⟩
      · rw [h5.length]
        exact Nat.lt_of_le_of_lt hc (by decide)
      · exact q1 _ _ _ (S1.poke hi rfl h1 (sl' := .o (ds ++ [d])) (o := .lst (vs ++ [v])) rfl ⟨_, upd_same, (h5.mono (S.exO g1)).append (.cons rv .nil)⟩) (S.exO g1)
  · exact q.elim
/-- a for's target binds the slots -/
def TgSR (G : Gx) (g : TG) (tg : TgS) : Prop := ∀ Z W0 se se' σ W v d, SOk G Z W0 se σ W → Rep G Z W.F v d → tg.bind d se = some se' → ∀ Q : L2.St → Hp → Prop, (∀ σ', SOk G Z W0 se' σ' W → Q σ' W.H) → g v σ W.H Q
theorem tgs1 (i : Nat) : TgSR G (gName i) (.one i) := by
  intro Z W0 se se' σ W v d S r h Q q
  cases h
  exact q _ (S.setV i r)
theorem tgs2 (i j : Nat) : TgSR G (gTup G.K 2 (gCons (gName i) (gCons (gName j) gNil))) (.two i j) := by
  intro Z W0 se se' σ W v d S r h Q q
  unfold TgS.bind at h
  split at h
  · rename_i e
    cases e
  · rename_i e
    cases e
    cases h
    obtain ⟨a, vs, rfl, hs, rs⟩ := rep_tup r
    cases rs with
    | cons r1 rs =>
      cases rs with
      | cons r2 rs =>
        cases rs
        exact ⟨a, _, rfl, ex_t S.gd.sub hs, rfl, _, _, rfl, _, _, rfl, rfl, q _ ((S.setV i r1).setV j r2)⟩
  · rename_i e
    cases e
  · cases h
theorem tgs3 (i j k : Nat) : TgSR G (gTup G.K 3 (gCons (gName i) (gCons (gName j) (gCons (gName k) gNil)))) (.three i j k) := by
  intro Z W0 se se' σ W v d S r h Q q
  unfold TgS.bind at h
  split at h
  · rename_i e
    cases e
  · rename_i e
    cases e
  · rename_i e
    cases e
    cases h
    obtain ⟨a, vs, rfl, hs, rs⟩ := rep_tup r
    cases rs with
    | cons r1 rs =>
      cases rs with
      | cons r2 rs =>
        cases rs with
        | cons r3 rs =>
          cases rs
          exact ⟨a, _, rfl, ex_t S.gd.sub hs, rfl, _, _, rfl, _, _, rfl, _, _, rfl, rfl, q _ (((S.setV i r1).setV j r2).setV k r3)⟩
  · cases h
theorem for_r {fi : EnvD → M (List D)} {gt : TG} {tg : TgS} (tr : TgSR G gt tg) (q : tS G (sFor fi tg g) Dn σ H) : tFor (iD G fi) gt (tS G g) Dn σ H := by
  obtain ⟨Z, W0, se, W, rfl, S, q⟩ := q
  refine ⟨Z, _, W, rfl, S.envV, M.wp_mono (fun n1 ds q1 J F1 H1 g1 it => ?_) (wp_then q)⟩
  refine ⟨fun i m σ' H' => m = ds.length - i ∧ i ≤ ds.length ∧ ∃ se' F' n', SOk G Z W0 se' σ' ⟨F', H', n'⟩ ∧ Ex F1 F' ∧ (goFor tg g (ds.drop i) se').wp n' (SAft G Z W0 F1 Dn),
    ⟨_, rfl, Nat.zero_le _, se, F1, n1, S.step g1, Ex.refl _, M.wp_mono (fun _ c h => h.mono g1.ff) q1⟩, ?_⟩
  rintro i m σ' H' ⟨rfl, hi, se', F', n', S', e', hw⟩
  obtain ⟨it1, it2⟩ := it i ⟨F', H', n'⟩ e' S'.gd
  by_cases hlt : i < ds.length
  · have hd : ds[i]? = some ds[i] := List.getElem?_eq_getElem hlt
    obtain ⟨go, yl⟩ := it1 _ hd
    rw [List.drop_eq_getElem_cons hlt] at hw
    unfold goFor at hw
    cases ht : tg.bind ds[i] se' with
    | none =>
      rw [ht] at hw
      exact hw.elim
    | some se1 =>
      rw [ht] at hw
      refine .inr ⟨go, fun σ2 H2 => ∃ se2 F2 n2, SOk G Z W0 se2 σ2 ⟨F2, H2, n2⟩ ∧ Ex F1 F2 ∧ (goFor tg g (ds.drop (i + 1)) se2).wp n2 (SAft G Z W0 F1 Dn), fun σ2 H2 q => ⟨ds.length - (i + 1), by omega, rfl, hlt, q⟩, fun x H2 y => ?_⟩
      obtain ⟨F2, g2, rx⟩ := yl x H2 y
      refine tr Z W0 se' se1 σ' ⟨F2, H2, n'⟩ x _ (S'.step g2) rx ht _ fun σ2 S2 => ?_
      refine ⟨Z, W0, se1, ⟨F2, H2, n'⟩, rfl, S2, M.wp_mono (fun n3 c h3 => ?_) (wp_then hw)⟩
      cases c with
      | nx se3 => exact fun σ3 F3 H3 S3 e3 => ⟨se3, F3, n3, S3, (e'.trans g2.ff).trans e3, h3⟩
      | rt d => exact h3
  · have e : i = ds.length := by omega
    subst e
    rw [List.drop_length] at hw
    exact .inl ⟨it2 rfl, hw σ' F' H' S' e'⟩
theorem wh_r {n : Nat} (q : tS G (sWh n ft g) Dn σ H) : tWhile (tDT G ft) (tS G g) Dn σ H := by
  obtain ⟨Z, W0, se, W, rfl, S, q⟩ := q
  refine ⟨fun m σ' H' => ∃ se' F' n', SOk G Z W0 se' σ' ⟨F', H', n'⟩ ∧ Ex W.F F' ∧ (goWh ft g m se').wp n' (SAft G Z W0 W.F Dn), ⟨n, se, W.F, W.n, S, Ex.refl _, q⟩, ?_⟩
  rintro m σ' H' ⟨se', F', n', S', e', hw⟩
  cases m with
  | zero => exact hw.elim
  | succ m =>
    refine ⟨Z, _, ⟨FB se' σ' ⟨F', H', n'⟩, H', n'⟩, rfl, S'.envO, M.wp_mono (fun n1 b h1 F1 H1 g1 => ?_) (wp_then hw)⟩
    have S1 := S'.stepO g1
    have e1 := e'.trans (S'.exO g1)
    cases b with
    | false => exact h1 σ' _ H1 S1 e1
    | true =>
      refine ⟨fun σ2 H2 => ∃ se2 F2 n2, SOk G Z W0 se2 σ2 ⟨F2, H2, n2⟩ ∧ Ex W.F F2 ∧ (goWh ft g m se2).wp n2 (SAft G Z W0 W.F Dn), fun σ2 H2 q => ⟨m, Nat.lt_succ_self _, q⟩, ?_⟩
      refine ⟨Z, W0, se', _, rfl, S1, M.wp_mono (fun n3 c h3 => ?_) (wp_then h1)⟩
      cases c with
      | nx se3 => exact fun σ3 F3 H3 S3 e3 => ⟨se3, F3, n3, S3, e1.trans e3, h3⟩
      | rt d => exact h3
theorem never_r (q : tS G sNever Dn σ H) : tNever Dn σ H := by
  obtain ⟨Z, W0, se, W, rfl, S, q⟩ := q
  exact q
end
end Dv
end
section
set_option linter.all false
set_option maxRecDepth 100000
set_option maxHeartbeats 4000000
/-! A4: the statements' rules; several targets at once; a def's rule. -/
namespace Dv
open PySem PySem.Spec PyProof.Rows L2 Evl

/-! ### several slots at once -/
def SlR2 (G : Gx) (Z : Zs) (Hold : Hp) (W : Wd) (v : V) : Slot → Prop
  | .no => True
  | .v d => Rep G Z W.F v d
  | sl => ∃ p, v = .ref p ∧ Hold p = none ∧ W.F p = none ∧ OwnR G Z W p sl
def SlRs (G : Gx) (Z : Zs) (Hold : Hp) (W : Wd) : List V → List Slot → Prop
  | [], [] => True
  | v :: vs, s :: ss => SlR2 G Z Hold W v s ∧ (isOwn s = true → ∀ (k : Nat) (t : Slot), ss[k]? = some t → isOwn t = true → vs[k]? ≠ some v) ∧ SlRs G Z Hold W vs ss
  | _, _ => False
theorem SlR2.mono {G : Gx} {Z : Zs} {Hold : Hp} {W W1 : Wd} {v : V} {sl : Slot} (h : SlR2 G Z Hold W v sl) (g : Gr Z W W1) (nz : ∀ p, Hold p = none → ¬ Z.has p) : SlR2 G Z Hold W1 v sl := by
  cases sl with
  | no => trivial
  | v d => exact Rep.mono g.ff h
  | o ds =>
    obtain ⟨p, h1, h2, h3, h4⟩ := h
    obtain ⟨u, hu⟩ := h4.some rfl
    exact ⟨p, h1, h2, g.unk hu h3, h4.mono g.ff fun o e => g.hh p o e (nz p h2)⟩
  | od ds =>
    obtain ⟨p, h1, h2, h3, h4⟩ := h
    obtain ⟨u, hu⟩ := h4.some rfl
    exact ⟨p, h1, h2, g.unk hu h3, h4.mono g.ff fun o e => g.hh p o e (nz p h2)⟩
  | on ds =>
    obtain ⟨p, h1, h2, h3, h4⟩ := h
    obtain ⟨u, hu⟩ := h4.some rfl
    exact ⟨p, h1, h2, g.unk hu h3, h4.mono g.ff fun o e => g.hh p o e (nz p h2)⟩
def tSA (G : Gx) (f : EnvD → M (List Slot)) : TA := fun σ H Q => ∃ Z env W, W.H = H ∧ Ok G Z env σ W ∧ (f env).wp W.n fun n' sls => ∀ vs F' H', Gr Z W ⟨F', H', n'⟩ → SlRs G Z W.H ⟨F', H', n'⟩ vs sls → Q vs H'
def pNil : EnvD → M (List Slot) := fun _ => .ret []
def pV (fa : EnvD → M D) (fr : EnvD → M (List Slot)) : EnvD → M (List Slot) := fun env => do
  let d ← fa env
  let r ← fr env
  .ret (.v d :: r)
def pO (fa : EnvD → M (List D)) (fr : EnvD → M (List Slot)) : EnvD → M (List Slot) := fun env => do
  let d ← fa env
  let r ← fr env
  .ret (.o d :: r)
def pD (fa : EnvD → M (List (Int × D))) (fr : EnvD → M (List Slot)) : EnvD → M (List Slot) := fun env => do
  let d ← fa env
  let r ← fr env
  .ret (.od d :: r)
theorem SlRs.own_ref {G : Gx} {Z : Zs} {Hold : Hp} {W : Wd} : ∀ {vs : List V} {ss : List Slot} {k : Nat} {t : Slot}, SlRs G Z Hold W vs ss → ss[k]? = some t → isOwn t = true → ∃ p, vs[k]? = some (.ref p) ∧ Hold p = none
  | [], [], _, _, _, h, _ => by simp at h
  | [], _ :: _, _, _, h, _, _ => h.elim
  | _ :: _, [], _, _, h, _, _ => h.elim
  | v :: vs, s :: ss, 0, t, h, e, o => by
    simp at e
    subst e
    cases s with
    | no => cases o
    | v d => cases o
    | o ds =>
      obtain ⟨p, h1, h2, _⟩ := h.1
      subst h1
      exact ⟨p, rfl, h2⟩
    | od ds =>
      obtain ⟨p, h1, h2, _⟩ := h.1
      subst h1
      exact ⟨p, rfl, h2⟩
    | on ds =>
      obtain ⟨p, h1, h2, _⟩ := h.1
      subst h1
      exact ⟨p, rfl, h2⟩
  | v :: vs, s :: ss, k + 1, t, h, e, o => by
    obtain ⟨p, h1, h2⟩ := SlRs.own_ref (k := k) (t := t) h.2.2 (by simpa using e) o
    exact ⟨p, by simpa using h1, h2⟩
theorem SlRs.old {G : Gx} {Z : Zs} {Hold Hold' : Hp} {W : Wd} (h : ∀ p, Hold' p = none → Hold p = none) : ∀ {vs : List V} {ss : List Slot}, SlRs G Z Hold' W vs ss → SlRs G Z Hold W vs ss
  | [], [], _ => trivial
  | [], _ :: _, q => q.elim
  | _ :: _, [], q => q.elim
  | v :: vs, s :: ss, ⟨q1, q2, q3⟩ => by
    refine ⟨?_, q2, SlRs.old h q3⟩
    cases s with
    | no => trivial
    | v d => exact q1
    | o ds =>
      obtain ⟨p, e, h2, r⟩ := q1
      exact ⟨p, e, h p h2, r⟩
    | od ds =>
      obtain ⟨p, e, h2, r⟩ := q1
      exact ⟨p, e, h p h2, r⟩
    | on ds =>
      obtain ⟨p, e, h2, r⟩ := q1
      exact ⟨p, e, h p h2, r⟩
section
variable {X : Cx} {e : Expr} {es : List Expr} {fa : EnvD → M D} {fn : EnvD → M (List D)} {fd : EnvD → M (List (Int × D))} {fr : EnvD → M (List Slot)}
theorem sa_nil : PA X [] (tSA (gx X) pNil) := pa_nil.weak fun σ H Q ⟨Z, env, W, hW, ok, h⟩ => by
  subst hW
  exact h [] W.F W.H (Gr.refl ok.gd) trivial
/-- one more in front: v, new at hold or not -/
theorem sa_front {Z : Zs} {env : EnvD} {W W1 : Wd} {σ : L2.St} {v : V} {s : Slot} {Q : List V → Hp → Prop} (ok : Ok (gx X) Z env σ W) (g1 : Gr Z W W1) (hs : SlR2 (gx X) Z W.H W1 v s) (hs1 : isOwn s = true → ∀ p, v = .ref p → W1.H p ≠ none)
    (h : (fr env).wp W1.n fun n' r => ∀ vs F' H', Gr Z W ⟨F', H', n'⟩ → SlRs (gx X) Z W.H ⟨F', H', n'⟩ vs (s :: r) → Q vs H') : tSA (gx X) fr σ W1.H fun vs H2 => Q (v :: vs) H2 := by
  refine ⟨Z, env, W1, rfl, ok.step g1, M.wp_mono (fun n2 r h2 vs F2 H2 g2 r2 => ?_) h⟩
  refine h2 (v :: vs) F2 H2 (g1.trans g2) ⟨hs.mono g2 fun p q => ok.gd.noHas q, fun o k t ht ot e => ?_, r2.old fun p q => g1.back q⟩
  obtain ⟨p, e1, e2⟩ := r2.own_ref ht ot
  rw [e] at e1
  cases e1
  exact hs1 o p rfl e2
theorem sa_v (ha : PE X e (tD (gx X) fa)) (hr : PA X es (tSA (gx X) fr)) (hs : starEach (e :: es) X.env = (false, eval e X.env) :: starEach es X.env := by rfl) : PA X (e :: es) (tSA (gx X) (pV fa fr)) :=
  (pa_cons ha hr hs).weak fun σ H Q ⟨Z, env, W, hW, ok, h⟩ => by
    subst hW
    refine ⟨Z, env, W, rfl, ok, M.wp_mono (fun n1 d1 h1 v1 F1 H1 g1 r1 => ?_) (wp_then h)⟩
    exact sa_front (W1 := ⟨F1, H1, n1⟩) (s := .v d1) ok g1 r1 (fun o => by cases o) (wp_then h1)
theorem sa_o (ha : PE X e (tDn (gx X) fn)) (hr : PA X es (tSA (gx X) fr)) (hs : starEach (e :: es) X.env = (false, eval e X.env) :: starEach es X.env := by rfl) : PA X (e :: es) (tSA (gx X) (pO fn fr)) :=
  (pa_cons ha hr hs).weak fun σ H Q ⟨Z, env, W, hW, ok, h⟩ => by
    subst hW
    refine ⟨Z, env, W, rfl, ok, M.wp_mono (fun n1 d1 h1 a vs F1 H1 g1 hn hF ha r1 => ?_) (wp_then h)⟩
    exact sa_front (W1 := ⟨F1, H1, n1⟩) (s := .o d1) ok g1 ⟨a, rfl, hn, hF, vs, ha, r1⟩ (fun _ p q => by cases q; show H1 a ≠ none; rw [ha]; simp) (wp_then h1)
theorem sa_d (ha : PE X e (tDd (gx X) fd)) (hr : PA X es (tSA (gx X) fr)) (hs : starEach (e :: es) X.env = (false, eval e X.env) :: starEach es X.env := by rfl) : PA X (e :: es) (tSA (gx X) (pD fd fr)) :=
  (pa_cons ha hr hs).weak fun σ H Q ⟨Z, env, W, hW, ok, h⟩ => by
    subst hW
    refine ⟨Z, env, W, rfl, ok, M.wp_mono (fun n1 d1 h1 a vs F1 H1 g1 hn hF ha r1 => ?_) (wp_then h)⟩
    exact sa_front (W1 := ⟨F1, H1, n1⟩) (s := .od d1) ok g1 ⟨a, rfl, hn, hF, vs, ha, r1⟩ (fun _ p q => by cases q; show H1 a ≠ none; rw [ha]; simp) (wp_then h1)
end
/-- several slots stored -/
def setAll : SEnv → List Nat → List Slot → SEnv
  | se, i :: is, s :: ss => setAll (se.set i s) is ss
  | se, _, _ => se
def setAllV : L2.St → List Nat → List V → L2.St
  | σ, i :: is, v :: vs => setAllV (σ.set i (some v)) is vs
  | σ, _, _ => σ
def NE (se : SEnv) (σ : L2.St) (v : V) : Prop := ∀ (j : Nat) (t : Slot) (p : Addr), se[j]? = some t → isOwn t = true → σ[j]? = some (some (.ref p)) → v ≠ .ref p
section
variable {G : Gx} {Z : Zs} {W0 W : Wd} {Hold : Hp}
theorem SOk.set2 {se : SEnv} {σ : L2.St} (S : SOk G Z W0 se σ W) {v : V} {sl : Slot} (i : Nat) (h0 : ∀ p, Hold p = none → W0.H p = none) (r : SlR2 G Z Hold W v sl) (ne : isOwn sl = true → NE se σ v) : SOk G Z W0 (se.set i sl) (σ.set i (some v)) W := by
  cases sl with
  | no => exact S.set (Hold := W.H) i (S.held i) trivial
  | v d => exact S.setV i r
  | o ds =>
    obtain ⟨p, rfl, h2, h3, h4⟩ := r
    refine S.set (Hold := fun a => if a = p then none else some (.rng 0 0)) (sl := .o ds) i (fun j t q h ow _ e z => ?_) ⟨p, rfl, if_pos rfl, h3, h0 p h2, h4⟩
    have hq : q ≠ p := fun w => ne rfl j t q h ow e (by rw [w])
    simp [hq] at z
  | od ds =>
    obtain ⟨p, rfl, h2, h3, h4⟩ := r
    refine S.set (Hold := fun a => if a = p then none else some (.rng 0 0)) (sl := .od ds) i (fun j t q h ow _ e z => ?_) ⟨p, rfl, if_pos rfl, h3, h0 p h2, h4⟩
    have hq : q ≠ p := fun w => ne rfl j t q h ow e (by rw [w])
    simp [hq] at z
  | on ds =>
    obtain ⟨p, rfl, h2, h3, h4⟩ := r
    refine S.set (Hold := fun a => if a = p then none else some (.rng 0 0)) (sl := .on ds) i (fun j t q h ow _ e z => ?_) ⟨p, rfl, if_pos rfl, h3, h0 p h2, h4⟩
    have hq : q ≠ p := fun w => ne rfl j t q h ow e (by rw [w])
    simp [hq] at z
theorem NE.set {se : SEnv} {σ : L2.St} {v u : V} {sl : Slot} (i : Nat) (hl : se.length = σ.length) (h : NE se σ u) (d : isOwn sl = true → u ≠ v) : NE (se.set i sl) (σ.set i (some v)) u := fun j t p ht o e => by
  by_cases hj : i = j
  · subst hj
    have li : i < se.length := by
      by_cases q : i < se.length
      · exact q
      · rw [List.getElem?_eq_none (by rw [List.length_set]; omega)] at ht
        cases ht
    rw [List.getElem?_set_self li] at ht
    cases ht
    rw [List.getElem?_set_self (by omega)] at e
    cases e
    exact d o
  · rw [List.getElem?_set_ne hj] at ht e
    exact h j t p ht o e
theorem setAll_ok (h0 : ∀ p, Hold p = none → W0.H p = none) : ∀ (is : List Nat) {se : SEnv} {σ : L2.St} {ss : List Slot} {vs : List V}, SOk G Z W0 se σ W → SlRs G Z Hold W vs ss → (∀ (k : Nat) (t : Slot) (u : V), ss[k]? = some t → isOwn t = true → vs[k]? = some u → NE se σ u) → SOk G Z W0 (setAll se is ss) (setAllV σ is vs) W
  | [], se, σ, ss, vs, S, _, _ => by
    unfold setAll setAllV
    exact S
  | i :: is, se, σ, [], [], S, _, _ => S
  | i :: is, se, σ, [], _ :: _, S, r, _ => r.elim
  | i :: is, se, σ, _ :: _, [], S, r, _ => r.elim
  | i :: is, se, σ, s :: ss, v :: vs, S, ⟨r1, r2, r3⟩, ne => by
    show SOk G Z W0 (setAll (se.set i s) is ss) (setAllV (σ.set i (some v)) is vs) W
    refine setAll_ok h0 is (S.set2 i h0 r1 fun o => ne 0 s v rfl o rfl) r3 fun k t u h1 h2 h3 => ?_
    exact NE.set i S.len (ne (k + 1) t u (by simpa using h1) h2 (by simpa using h3)) fun o z => r2 o k t h1 h2 (by rw [h3, z])
/-- what was new is none of the own ones -/
theorem SOk.ne {se : SEnv} {σ : L2.St} {W1 : Wd} (S : SOk G Z W0 se σ W) {vs : List V} {ss : List Slot} (r : SlRs G Z W.H W1 vs ss) (k : Nat) (t : Slot) (u : V) (h1 : ss[k]? = some t) (h2 : isOwn t = true) (h3 : vs[k]? = some u) : NE se σ u := fun j s p hj o e z => by
  obtain ⟨q, e1, e2⟩ := r.own_ref h1 h2
  rw [h3] at e1
  cases e1
  have hpq : p = q := by
    injection z with z
    exact z.symm
  exact S.held (j + 1) j s q hj o (by omega) (by rw [e, hpq]) e2
end
def sPar (is : List Nat) (f : EnvD → M (List Slot)) : SEnv → M Ctl := fun se => do
  let ss ← f (lendV se)
  match Nat.beq ss.length is.length with
  | true => .ret (.nx (setAll se is ss))
  | false => .bad
section
variable {G : Gx} {f : EnvD → M (List Slot)} {Dn : Ends} {σ : L2.St} {H : Hp}
theorem SlRs.length {Z : Zs} {Hold : Hp} {W : Wd} : ∀ {vs : List V} {ss : List Slot}, SlRs G Z Hold W vs ss → vs.length = ss.length
  | [], [], _ => rfl
  | [], _ :: _, h => h.elim
  | _ :: _, [], h => h.elim
  | _ :: _, _ :: _, h => congrArg (· + 1) (SlRs.length h.2.2)
theorem par_r {is : List Nat} {t : TS} (ht : ∀ Dn σ H, (∃ P : List V → Hp → Prop, tSA G f σ H P ∧ ∀ vs H1, P vs H1 → vs.length = is.length ∧ (∀ p, H1 p = none → ∀ xs, Dn.nx (setAllV σ is vs) (upd H1 p (.tup xs))) ∧ Dn.nx (setAllV σ is vs) H1) → t Dn σ H) (q : tS G (sPar is f) Dn σ H) : t Dn σ H := by
  obtain ⟨Z, W0, se, W, rfl, S, q⟩ := q
  refine ht _ _ _ ⟨fun vs H1 => vs.length = is.length ∧ (∀ p, H1 p = none → ∀ xs, Dn.nx (setAllV σ is vs) (upd H1 p (.tup xs))) ∧ Dn.nx (setAllV σ is vs) H1, ?_, fun _ _ h => h⟩
  refine ⟨Z, _, W, rfl, S.envV, M.wp_mono (fun n1 ss q1 vs F1 H1 g1 r1 => ?_) (wp_then q)⟩
  cases hb : Nat.beq ss.length is.length with
  | false =>
    rw [hb] at q1
    exact q1.elim
  | true =>
    rw [hb] at q1
    have S1 := S.step g1
    have S2 := setAll_ok (Hold := W.H) (fun p h => S.base.back h) is S1 r1 fun k t u h1 h2 h3 => (show NE se σ u from S.ne r1 k t u h1 h2 h3)
    refine ⟨by rw [r1.length]; exact Nat.eq_of_beq_eq_true hb, fun p hp xs => ?_, q1 _ F1 H1 S2 g1.ff⟩
    exact q1 _ F1 _ (S2.step (Gr.allocH (W := ⟨F1, H1, n1⟩) S2.gd hp)) g1.ff
end

/-! ### the rules -/
section
variable {X : Cx} {st : Stmt} {rest body : List Stmt} {e iter : Expr} {pos pos' : Pos} {g h : SEnv → M Ctl} {fa : EnvD → M D} {fn : EnvD → M (List D)} {ft : EnvD → M Bool}
theorem ds_nil : PSs X [] (tS (gx X) sNil) := pss_nil.weak fun _ _ _ q => nil_r q
theorem ds_cons (h1 : PS X st (tS (gx X) g)) (h2 : PSs X rest (tS (gx X) h)) : PSs X (st :: rest) (tS (gx X) (sSeq g h)) := (pss_cons h1 h2).weak fun _ _ _ q => seq_r q
theorem ds_one (h1 : PS X st (tS (gx X) g)) : PSs X [st] (tS (gx X) g) := pss_one h1
theorem ds_set (i : Nat) {x : Str} (hN : X.N.Nodup) (hi : X.N[i]? = some x) (hx : Loc X.env.scope x) (he : PE X e (tD (gx X) fa)) (hs : swapsWith e (some (.Name x pos')) pos.line X.env = pure false := by rfl) (hf : X.fn x = true ∨ X.env.scope.names.lookup x = some .local := by first | exact .inl rfl | exact .inr rfl | assumption) :
    PS X (.Assign [.Name x pos'] e pos) (tS (gx X) (sSet i fa)) := (ps_set hN hi hx he hs hf).weak fun _ _ _ q => set_r q
theorem ds_setO (i : Nat) {x : Str} (hN : X.N.Nodup) (hi : X.N[i]? = some x) (hx : Loc X.env.scope x) (he : PE X e (tD (gx X) fa)) (hs : swapsWith e (some (.Name x pos')) pos.line X.env = pure false := by rfl) (hf : X.fn x = true ∨ X.env.scope.names.lookup x = some .local := by first | exact .inl rfl | exact .inr rfl | assumption) :
    PS X (.Assign [.Name x pos'] e pos) (tS (gx X) (sSetO i fa)) := (ps_set hN hi hx he hs hf).weak fun _ _ _ q => setO_r q
theorem ds_new (i : Nat) {x : Str} (hN : X.N.Nodup) (hi : X.N[i]? = some x) (hx : Loc X.env.scope x) (he : PE X e (tDn (gx X) fn)) (hs : swapsWith e (some (.Name x pos')) pos.line X.env = pure false := by rfl) (hf : X.fn x = true ∨ X.env.scope.names.lookup x = some .local := by first | exact .inl rfl | exact .inr rfl | assumption) :
    PS X (.Assign [.Name x pos'] e pos) (tS (gx X) (sNew i fn)) := (ps_set hN hi hx he hs hf).weak fun _ _ _ q => new_r q
theorem ds_newO (i : Nat) {x : Str} (hN : X.N.Nodup) (hi : X.N[i]? = some x) (hx : Loc X.env.scope x) (he : PE X e (tDn (gx X) fn)) (hs : swapsWith e (some (.Name x pos')) pos.line X.env = pure false := by rfl) (hf : X.fn x = true ∨ X.env.scope.names.lookup x = some .local := by first | exact .inl rfl | exact .inr rfl | assumption) :
    PS X (.Assign [.Name x pos'] e pos) (tS (gx X) (sNewO i fn)) := (ps_set hN hi hx he hs hf).weak fun _ _ _ q => newO_r q
theorem ds_ret (he : PE X e (tD (gx X) fa)) : PS X (.Return (some e) pos) (tS (gx X) (sRet fa)) := (ps_ret he).weak fun _ _ _ q => ret_r q
theorem ds_if {c : Expr} {a b : List Stmt} (hc : PT X c (tDT (gx X) ft)) (ha : PSs X a (tS (gx X) g)) (hb : PSs X b (tS (gx X) h)) : PS X (.If c a b pos) (tS (gx X) (sIf ft g h)) := (ps_if hc ha hb).weak fun _ _ _ q => if_r q
theorem ds_drop (he : PE X e (tD (gx X) fa)) (hs : swapsWith e none pos.line X.env = pure false := by rfl) : PS X (.Expr e pos) (tS (gx X) (sDrop fa)) := (ps_expr he hs).weak fun _ _ _ q => drop_r q
theorem ds_never : PS X st (tS (gx X) sNever) := ps_never.weak fun _ _ _ q => never_r q
theorem ds_fzL (i : Nat) (h1 : PS X st (tS (gx X) g)) : PS X st (tS (gx X) (sFzL i g)) := h1.weak fun _ _ _ q => fzL_r q
/-- a for's target -/
structure PGS (X : Cx) (tg : Expr) (f : TgS) : Prop where
  ex : ∃ g, PG X tg g ∧ TgSR (gx X) g f
theorem ds_for {tg : Expr} {fi : EnvD → M (List D)} {tf : TgS} (hp : PassesOwn (model X.prog X.w) X.A X.env X.xe) (hc : X.calm = true) (hi : PI X tg iter (iD (gx X) fi)) (hg : PGS X tg tf) (hb : PSs X body (tS (gx X) g))
    (hs : ∀ x, foldedSetIterable iter X.env x = pure x := by intro _; rfl) : PS X (.For tg iter body [] pos) (tS (gx X) (sFor fi tf g)) := by
  obtain ⟨gt, h1, h2⟩ := hg.ex
  exact (ps_for hp hc hi h1 hb hs).weak fun _ _ _ q => for_r h2 q
theorem ds_while {c : Expr} (n : Nat) (hp : PassesOwn (model X.prog X.w) X.A X.env X.xe) (hc : PT X c (tDT (gx X) ft)) (hb : PSs X body (tS (gx X) g)) : PS X (.While c body [] pos) (tS (gx X) (sWh n ft g)) := (ps_while hp hc hb).weak fun _ _ _ q => wh_r q
theorem ds_app (i : Nat) {x : Str} {px apos cpos : Pos} (hN : X.N[i]? = some x) (hv : Vis X.env.scope x) (he : PE X e (tD (gx X) fa)) (hd : (x == ("__debug__" : Str)) = false := by decide) (hcd : (x == ("__classdict__" : Str)) = false := by decide)
    (hbase : attributeBase (.Name x px) "append" X.env (eval (.Name x px) X.env) = eval (.Name x px) X.env := by rfl)
    (hfew : ((backTo cpos (starEach [e] X.env)).all (fun x => !x.1) && (backToKw cpos (keywordEach [] X.env)).all (fun x => x.1.isSome)
      && decide ([e].length + ([] : List Keyword).length + (if ([] : List Keyword).isEmpty then 0 else 1) < 30)) = true := by rfl)
    (hline : (apos.endLine == cpos.line) = true := by rfl) (hst : starEach [e] X.env = (false, eval e X.env) :: starEach [] X.env := by rfl) (hplain : (backTo cpos (starEach [] X.env)).any (·.1) = false := by rfl)
    (hs : swapsWith (.Call (.Attribute (.Name x px) "append" apos) [e] [] cpos) none pos.line X.env = pure false := by rfl) :
    PS X (.Expr (.Call (.Attribute (.Name x px) "append" apos) [e] [] cpos) pos) (tS (gx X) (sApp i fa)) :=
  (ps_expr (pe_bm PySem.F.plainAttrs_list PySem.F.slot_list_append PySem.F.type_list_append mt_append (pe_var hN hv hd hcd) (pa_cons he pa_nil hst) hbase hfew hline hst hplain) hs).weak fun _ _ _ q => app_r q
theorem gs1 (i : Nat) {x : Str} (hN : X.N.Nodup) (hi : X.N[i]? = some x) (hx : Loc X.env.scope x) (hf : X.fn x = true ∨ X.env.scope.names.lookup x = some .local := by first | exact .inl rfl | exact .inr rfl | assumption) : PGS X (.Name x pos) (.one i) := ⟨_, pg_name hN hi hx hf, tgs1 i⟩
theorem gs2 (i j : Nat) {x y : Str} {p1 p2 : Pos} {k : Nat} (hc : X.calm = true) (hN : X.N.Nodup) (hi : X.N[i]? = some x) (hj : X.N[j]? = some y) (hx : Loc X.env.scope x) (hy : Loc X.env.scope y)
    (hf : X.fn x = true ∨ X.env.scope.names.lookup x = some .local := by first | exact .inl rfl | exact .inr rfl | assumption) (hf' : X.fn y = true ∨ X.env.scope.names.lookup y = some .local := by first | exact .inl rfl | exact .inr rfl | assumption)
    (h : PG X (.Tuple [.Name x p1, .Name y p2] k pos) (gTup X.K 2 (gCons (gName i) (gCons (gName j) gNil)))) : PGS X (.Tuple [.Name x p1, .Name y p2] k pos) (.two i j) := ⟨_, h, tgs2 (G := gx X) i j⟩
theorem ds_par2 (i j : Nat) {x y : Str} {a b : Expr} {px py pt : Pos} {kt k2 pt2} {f : EnvD → M (List Slot)} (hc : X.calm = true) (hN : X.N.Nodup) (hi : X.N[i]? = some x) (hj : X.N[j]? = some y) (hij : i ≠ j)
    (hx : X.env.scope.names.lookup x = some .local) (hy : X.env.scope.names.lookup y = some .local) (ha : PA X [a, b] (tSA (gx X) f))
    (hw : swappedStores [.Tuple [.Name x px, .Name y py] kt pt] (.Tuple [a, b] k2 pt2) X.env = pure (some [x, y]))
    (hs : swapsWithSole [.Tuple [.Name x px, .Name y py] kt pt] (.Tuple [a, b] k2 pt2) pos.line X.env = pure false := by rfl) :
    PS X (.Assign [.Tuple [.Name x px, .Name y py] kt pt] (.Tuple [a, b] k2 pt2) pos) (tS (gx X) (sPar [i, j] f)) :=
  (ps_par hc hN hi hj hij hx hy ha hw hs).weak fun _ _ _ q => par_r (t := tPar i j (tSA (gx X) f)) (fun Dn σ H ⟨P, h1, h2⟩ => by
    obtain ⟨Z, env, W, hW, ok, h1⟩ := h1
    refine ⟨Z, env, W, hW, ok, M.wp_mono (fun n1 ss h3 vs F1 H1 g1 r1 => ?_) h1⟩
    obtain ⟨hl, _, h4⟩ := h2 _ _ (h3 vs F1 H1 g1 r1)
    match vs, hl with
    | [v, w], _ => exact ⟨v, w, rfl, h4⟩) q
theorem ds_par3 (i j l : Nat) {x y z : Str} {a b c : Expr} {px py pz pt : Pos} {kt k2 pt2} {f : EnvD → M (List Slot)} (hc : X.calm = true) (hN : X.N.Nodup) (hi : X.N[i]? = some x) (hj : X.N[j]? = some y) (hl : X.N[l]? = some z) (hij : i ≠ j) (hil : i ≠ l) (hjl : j ≠ l)
    (hx : X.env.scope.names.lookup x = some .local) (hy : X.env.scope.names.lookup y = some .local) (hz : X.env.scope.names.lookup z = some .local) (ha : PA X [a, b, c] (tSA (gx X) f))
    (hw : swappedStores [.Tuple [.Name x px, .Name y py, .Name z pz] kt pt] (.Tuple [a, b, c] k2 pt2) X.env = pure (some [x, y, z]))
    (hs : swapsWithSole [.Tuple [.Name x px, .Name y py, .Name z pz] kt pt] (.Tuple [a, b, c] k2 pt2) pos.line X.env = pure false := by rfl) :
    PS X (.Assign [.Tuple [.Name x px, .Name y py, .Name z pz] kt pt] (.Tuple [a, b, c] k2 pt2) pos) (tS (gx X) (sPar [i, j, l] f)) :=
  (ps_par3 hc hN hi hj hl hij hil hjl hx hy hz ha hw hs).weak fun _ _ _ q => par_r (t := tPar3 i j l (tSA (gx X) f)) (fun Dn σ H ⟨P, h1, h2⟩ => by
    obtain ⟨Z, env, W, hW, ok, h1⟩ := h1
    refine ⟨Z, env, W, hW, ok, M.wp_mono (fun n1 ss h3 vs F1 H1 g1 r1 => ?_) h1⟩
    obtain ⟨hl, _, h4⟩ := h2 _ _ (h3 vs F1 H1 g1 r1)
    match vs, hl with
    | [v, w, u], _ => exact ⟨v, w, u, rfl, h4⟩) q
/-- .. by a tuple that is made and unpacked -/
theorem ds_tup2 (i j : Nat) {tx ty a b : Expr} {pt : Pos} {kt k2 pt2} {f : EnvD → M (List Slot)} (hg : PG X (.Tuple [tx, ty] kt pt) (gTup X.K 2 (gCons (gName i) (gCons (gName j) gNil)))) (ha : PA X [a, b] (tSA (gx X) f))
    (hs : swapsWithSole [.Tuple [tx, ty] kt pt] (.Tuple [a, b] k2 pt2) pos.line X.env = pure false := by rfl) (hw : swappedStores [.Tuple [tx, ty] kt pt] (.Tuple [a, b] k2 pt2) X.env = pure none := by rfl)
    (h1 : (assignEach [.Tuple [tx, ty] kt pt] X.env).map (·.2) = [assign (.Tuple [tx, ty] kt pt) X.env] := by rfl) :
    PS X (.Assign [.Tuple [tx, ty] kt pt] (.Tuple [a, b] k2 pt2) pos) (tS (gx X) (sPar [i, j] f)) :=
  (ps_asg (pe_tup ha) hg hs hw h1).weak fun _ _ _ q => par_r (t := tAsg (tTup (tSA (gx X) f)) (gTup X.K 2 (gCons (gName i) (gCons (gName j) gNil)))) (fun Dn σ H ⟨P, h1, h2⟩ => by
    obtain ⟨Z, env, W, hW, ok, h1⟩ := h1
    refine ⟨Z, env, W, hW, ok, M.wp_mono (fun n1 ss h3 vs F1 H1 g1 r1 => ?_) h1⟩
    obtain ⟨hl, h4, _⟩ := h2 _ _ (h3 vs F1 H1 g1 r1)
    match vs, hl with
    | [v, w], _ =>
      refine ⟨by show 2 ≤ sizeLine; decide, fun p hp => ⟨p, [v, w], rfl, SqT.of upd_same, rfl, _, _, rfl, _, _, rfl, rfl, h4 p hp _⟩⟩) q
end

/-! ### a def -/
def runD (m : Nat) (g : SEnv → M Ctl) : List D → M D := fun ds => do
  let c ← g (ds.map Slot.v ++ List.replicate (m - ds.length) .no)
  match c with
  | .nx _ => .ret .non
  | .rt d => .ret d
theorem start_ok {G : Gx} {Z : Zs} {W : Wd} {N : List Str} {vs : List V} {ds : List D} (g : Gd Z W) (r : Reps G Z W.F vs ds) : SOk G Z W (ds.map Slot.v ++ List.replicate (N.length - ds.length) .no) (L2.start N vs) W := by
  have hl := r.length
  refine ⟨g, Gr.refl g, ?_, fun i d h => ?_, fun i sl h o => ?_, fun i j s t p _ h _ o _ _ _ => ?_⟩
  · unfold L2.start
    rw [List.length_append, List.length_append, List.length_map, List.length_map, List.length_replicate, List.length_replicate, hl]
  · by_cases hi : i < ds.length
    · rw [List.getElem?_append_left (by rw [List.length_map]; exact hi), List.getElem?_map] at h
      cases q : ds[i]? with
      | none =>
        rw [q] at h
        cases h
      | some d' =>
        rw [q] at h
        cases h
        obtain ⟨v, h1, h2⟩ := r.get q
        refine ⟨v, ?_, h2⟩
        unfold L2.start
        rw [List.getElem?_append_left (by rw [List.length_map, hl]; exact hi), List.getElem?_map, h1]
        rfl
    · rw [List.getElem?_append_right (by rw [List.length_map]; omega)] at h
      have := List.mem_of_getElem? h
      cases (List.mem_replicate.mp this).2
  · have : sl ∈ ds.map Slot.v ++ List.replicate (N.length - ds.length) .no := List.mem_of_getElem? h
    rcases List.mem_append.mp this with q | q
    · obtain ⟨d, _, rfl⟩ := List.mem_map.mp q
      cases o
    · rw [(List.mem_replicate.mp q).2] at o
      cases o
  · have : s ∈ ds.map Slot.v ++ List.replicate (N.length - ds.length) .no := List.mem_of_getElem? h
    rcases List.mem_append.mp this with q | q
    · obtain ⟨d, _, rfl⟩ := List.mem_map.mp q
      cases o
    · rw [(List.mem_replicate.mp q).2] at o
      cases o
theorem fn_start {G : Gx} {N : List Str} {g : SEnv → M Ctl} {vs : List V} {H : Hp} {Q : VK} (h : callD G (runD N.length g) vs H Q) : tS G g { nx := fun _ H' => Q .non H', rt := Q } (L2.start N vs) H := by
  obtain ⟨Z, W, ds, rfl, gd, r, h⟩ := h
  refine ⟨Z, W, _, W, rfl, start_ok gd r, M.wp_mono (fun n1 c h1 => ?_) (wp_then h)⟩
  cases c with
  | nx se => exact fun σ' F' H' S' _ => h1 .non F' H' S'.base .non
  | rt d => exact h1
section
variable {P : Program} {w : World} {K : PySem.W.Frag} {mg : Str → Option Value} {base : Heap} {k n : Nat} {x qual : Str} {st : Stmt} {f : Addr} {fd : FuncData} {N ps : List Str} {g : SEnv → M Ctl}
theorem mk_def (F : Fun K x qual st f fd) (S : FnScope N ps (defScope st)) (hb : L2.Binds K fd ps []) (hm : mg x = some (.ref f)) (hn : ps.length = n)
    (h : ∀ (cdv : Value) (A : Around) (outer : List PySem.Env) (s : Shared) (H : Hp) (E : XK), Room k (A.deeper (envOfC qual (defScope st) s.heap.objs.size f cdv)) → PSs (cxOf CX0 P w K mg base N qual (defScope st) f cdv A outer s H E).nox (defBody st) (tS ⟨P, w, K⟩ g)) :
    Def P w K mg base (k + 1) x n (runD N.length g) := by
  refine ⟨f, fd, ps, hn, F.ok S (fun vs H Q E h => ?_) (fun cdv A outer s H vs Q E hr hq => ⟨_, h cdv A outer s H E hr, fn_start hq.2⟩), hm, F.kp, hb⟩
  rw [h.1, hn]
end
end Dv
end
section
set_option linter.all false
set_option maxRecDepth 100000
set_option maxHeartbeats 4000000
/-! A5: operators on data. -/
namespace Dv
open PySem PySem.Spec PyProof.Rows L2 Evl

/-! ### equality of data without dicts, sets, texts -/
mutual
def okD : D → Bool
  | .non => true
  | .bl _ => true
  | .int _ => true
  | .tup ds => okDs ds
  | .lst ds => okDs ds
  | _ => false
def okDs : List D → Bool
  | [] => true
  | d :: r => okD d && okDs r
end
mutual
def dpD : D → Nat
  | .tup ds => dpDs ds + 1
  | .lst ds => dpDs ds + 1
  | _ => 0
def dpDs : List D → Nat
  | [] => 0
  | d :: r => max (dpD d) (dpDs r)
end
mutual
def toP : D → PyData
  | .bl b => .bool b
  | .int i => .int i
  | .tup ds => .tuple (toPs ds)
  | .lst ds => .list (toPs ds)
  | _ => .none
def toPs : List D → List PyData
  | [] => []
  | d :: r => toP d :: toPs r
end
def iEq (i j : Int) : Bool := i == j
mutual
def eqD : D → D → Bool
  | .non, .non => true
  | .bl a, .bl b => a == b
  | .bl a, .int j => iEq (if a then 1 else 0) j
  | .int i, .bl b => iEq i (if b then 1 else 0)
  | .int i, .int j => iEq i j
  | .tup xs, .tup ys => eqDs xs ys
  | .lst xs, .lst ys => eqDs xs ys
  | _, _ => false
def eqDs : List D → List D → Bool
  | [], [] => true
  | x :: xs, y :: ys => eqD x y && eqDs xs ys
  | _, _ => false
end
theorem toPs_map : ∀ ds : List D, toPs ds = ds.map toP
  | [] => rfl
  | d :: r => congrArg (toP d :: ·) (toPs_map r)
mutual
theorem eqv_toP : ∀ d e : D, okD d = true → okD e = true → PyData.eqv (toP d) (toP e) = eqD d e
  | .non, e, _, h => by
    cases e <;> first | (cases h; done) | (simp only [toP, PyData.eqv, eqD])
  | .bl a, e, _, h => by
    cases e <;> first | (cases h; done) | (simp only [toP, PyData.eqv, eqD, iEq]) | (simp only [toP, PyData.eqv, eqD, iEq]; rfl)
  | .int a, e, _, h => by
    cases e <;> first | (cases h; done) | (simp only [toP, PyData.eqv, eqD, iEq]) | (simp only [toP, PyData.eqv, eqD, iEq]; rfl)
  | .tup xs, e, h, h' => by
    cases e with
    | tup ys =>
      simp only [toP, PyData.eqv, eqD]
      exact eqv_toPs xs ys h h'
    | _ => first | (cases h'; done) | (simp only [toP, PyData.eqv, eqD])
  | .lst xs, e, h, h' => by
    cases e with
    | lst ys =>
      simp only [toP, PyData.eqv, eqD]
      exact eqv_toPs xs ys h h'
    | _ => first | (cases h'; done) | (simp only [toP, PyData.eqv, eqD])
  | .str _, _, h, _ => by cases h
  | .dic _, _, h, _ => by cases h
  | .mix _, _, h, _ => by cases h
  | .sti _, _, h, _ => by cases h
  | .st, _, h, _ => by cases h
theorem eqv_toPs : ∀ xs ys : List D, okDs xs = true → okDs ys = true → PyData.eqvAll (toPs xs) (toPs ys) = eqDs xs ys
  | [], [], _, _ => by simp only [toPs, PyData.eqvAll, eqDs]
  | [], _ :: _, _, _ => by simp only [toPs, PyData.eqvAll, eqDs]
  | _ :: _, [], _, _ => by simp only [toPs, PyData.eqvAll, eqDs]
  | x :: xs, y :: ys, h, h' => by
    have h1 : okD x = true ∧ okDs xs = true := Bool.and_eq_true_iff.mp h
    have h2 : okD y = true ∧ okDs ys = true := Bool.and_eq_true_iff.mp h'
    simp only [toPs, PyData.eqvAll, eqDs]
    rw [eqv_toP x y h1.1 h2.1, eqv_toPs xs ys h1.2 h2.2]
end
mutual
theorem lay_toP : ∀ d : D, okD d = true → PyData.canLay0 (toP d) = true
  | .non, _ => by simp only [toP, PyData.canLay0]
  | .bl _, _ => by simp only [toP, PyData.canLay0]
  | .int _, _ => by simp only [toP, PyData.canLay0]
  | .tup ds, h => by
    simp only [toP, PyData.canLay0]
    exact lay_toPs ds h
  | .lst ds, h => by
    simp only [toP, PyData.canLay0]
    exact lay_toPs ds h
  | .str _, h => by cases h
  | .dic _, h => by cases h
  | .mix _, h => by cases h
  | .sti _, h => by cases h
  | .st, h => by cases h
theorem lay_toPs : ∀ ds : List D, okDs ds = true → PyData.canLayAll0 (toPs ds) = true
  | [], _ => by simp only [toPs, PyData.canLayAll0]
  | d :: r, h => by
    have h1 : okD d = true ∧ okDs r = true := Bool.and_eq_true_iff.mp h
    simp only [toPs, PyData.canLayAll0]
    rw [lay_toP d h1.1, lay_toPs r h1.2]
    rfl
end
mutual
theorem dp_toP : ∀ d : D, PyData.depth (toP d) = dpD d
  | .non => by simp only [toP, PyData.depth, dpD]
  | .bl _ => by simp only [toP, PyData.depth, dpD]
  | .int _ => by simp only [toP, PyData.depth, dpD]
  | .tup ds => by
    simp only [toP, PyData.depth, dpD]
    rw [dp_toPs ds]
  | .lst ds => by
    simp only [toP, PyData.depth, dpD]
    rw [dp_toPs ds]
  | .str _ => by simp only [toP, PyData.depth, dpD]
  | .dic _ => by simp only [toP, PyData.depth, dpD]
  | .mix _ => by simp only [toP, PyData.depth, dpD]
  | .sti _ => by simp only [toP, PyData.depth, dpD]
  | .st => by simp only [toP, PyData.depth, dpD]
theorem dp_toPs : ∀ ds : List D, PyData.depthAll (toPs ds) = dpDs ds
  | [] => by simp only [toPs, PyData.depthAll, dpDs]
  | d :: r => by
    simp only [toPs, PyData.depthAll, dpDs]
    rw [dp_toP d, dp_toPs r]
end
/-- may be compared -/
def cmD (d : D) : Bool := okD d && Nat.ble (dpD d) 64
theorem shaped_toP {d : D} (h : cmD d = true) : SeqAt.shaped (toP d) = true := by
  have h1 := Bool.and_eq_true_iff.mp h
  show (PyData.canLay0 (toP d) && decide (PyData.depth (toP d) ≤ 64)) = true
  rw [lay_toP d h1.1, dp_toP, Bool.true_and]
  exact decide_eq_true (Nat.le_of_ble_eq_true h1.2)
section
variable {G : Gx} {Z : Zs} {F H : Hp}
mutual
theorem Rep.dp (e : Ex F H) : ∀ {v : V} {d : D}, Rep G Z F v d → okD d = true → Dp G.K H v (toP d)
  | _, _, .non, _ => by
    simp only [toP]
    exact .non
  | _, _, .bl b, _ => by
    simp only [toP]
    exact .bl b
  | _, _, .int i, _ => by
    simp only [toP]
    exact .int i
  | _, _, .str _, h => by cases h
  | _, .tup ds, .tup s r, h => by
    simp only [toP]
    exact .tup (ex_t e s) (Reps.dp e r h)
  | _, .lst ds, .lst s r, h => by
    simp only [toP]
    exact .lst (SqL.of (e _ _ s)) (Reps.dp e r h)
  | _, _, .dic _ _ _, h => by cases h
  | _, _, .mix _, h => by cases h
  | _, _, .sti _ _ _, h => by cases h
  | _, _, .st _, h => by cases h
theorem Reps.dp (e : Ex F H) : ∀ {vs : List V} {ds : List D}, Reps G Z F vs ds → okDs ds = true → DpAll G.K H vs (toPs ds)
  | _, _, .nil, _ => by
    simp only [toPs]
    exact .nil
  | _, d :: ds, .cons r t, h => by
    have h1 : okD d = true ∧ okDs ds = true := Bool.and_eq_true_iff.mp h
    simp only [toPs]
    exact .cons (Rep.dp e r h1.1) (Reps.dp e t h1.2)
end
end
/-- guarded -/
def gd {α : Type} (b : Bool) (m : M α) : M α := match b with
  | true => m
  | false => .bad
theorem gd_wp {α : Type} {b : Bool} {m : M α} {k : Nat} {Q : Nat → α → Prop} (h : (gd b m).wp k Q) : b = true ∧ m.wp k Q := by
  cases b with
  | true => exact ⟨rfl, h⟩
  | false => exact h.elim

/-! ### arithmetic -/
def gAdd : D → D → M D
  | .int i, .int j => .ret (.int (i + j))
  | .lst xs, .lst ys => chk (xs.length + ys.length) (.ret (.lst (xs ++ ys)))
  | .tup xs, .tup ys => chk (xs.length + ys.length) (.ret (.tup (xs ++ ys)))
  | _, _ => .bad
def gSub : D → D → M D
  | .int i, .int j => .ret (.int (i - j))
  | _, _ => .bad
def gMul : D → D → M D
  | .int i, .int j => gd (decide (i.natAbs ≤ 1000000000)) (.ret (.int (i * j)))
  | .tup xs, .int j => gd (Nat.ble xs.length 1000 && decide (1 ≤ j) && decide (j ≤ 1000) && !xs.isEmpty) (.ret (.tup (List.replicate j.toNat xs).flatten))
  | _, _ => .bad
def gMod : D → D → M D
  | .int i, .int j => gd (decide (0 < j)) (.ret (.int (i % j)))
  | _, _ => .bad
section
variable {X : Cx}
theorem op_addD : OpR X (binaryOp .Add) (opD (gx X) gAdd) := by
  refine (op_add.or ((op_cat (X := X)).or op_catA)).weak fun x y H Q ⟨Z, W, d, e, hW, g, rx, ry, h⟩ => ?_
  subst hW
  unfold gAdd at h
  split at h
  · rename_i i j
    cases rx
    cases ry
    exact .inl ⟨i, j, rfl, rfl, h _ W.F W.H (Gr.refl g) (.int _)⟩
  · rename_i xs ys
    obtain ⟨h1, h2⟩ := chk_wp h
    obtain ⟨a, vs, rfl, ha, r1⟩ := rep_lst rx
    obtain ⟨b, ws, rfl, hb, r2⟩ := rep_lst ry
    refine .inr (.inl ⟨a, b, vs, ws, rfl, rfl, g.sub _ _ ha, g.sub _ _ hb, szl (by rw [r1.length, r2.length]; exact h1), fun p hp => ?_⟩)
    exact h2 (.ref p) _ _ (Gr.alloc g (o := .lst (vs ++ ws)) hp) (.lst upd_same ((r1.append r2).mono (Gr.alloc (o := .lst (vs ++ ws)) g hp).ff))
  · rename_i xs ys
    obtain ⟨h1, h2⟩ := chk_wp h
    obtain ⟨a, vs, rfl, ha, r1⟩ := rep_tup rx
    obtain ⟨b, ws, rfl, hb, r2⟩ := rep_tup ry
    refine .inr (.inr ⟨a, b, vs, ws, rfl, rfl, ex_t g.sub ha, ex_t g.sub hb, szl (by rw [r1.length, r2.length]; exact h1), fun e => ?_, fun _ e => ?_, fun _ _ p hp => ?_⟩)
    · subst e
      cases r1
      exact h2 (.ref b) _ _ (Gr.refl g) ry
    · subst e
      cases r2
      rw [List.append_nil] at h2
      exact h2 (.ref a) _ _ (Gr.refl g) rx
    · exact h2 (.ref p) _ _ (Gr.alloc g (o := .tup (vs ++ ws)) hp) (.tup (SqT.of upd_same) ((r1.append r2).mono (Gr.alloc (o := .tup (vs ++ ws)) g hp).ff))
  · exact h.elim
theorem op_subD : OpR X (binaryOp .Sub) (opD (gx X) gSub) := by
  refine op_sub.weak fun x y H Q ⟨Z, W, d, e, hW, g, rx, ry, h⟩ => ?_
  subst hW
  unfold gSub at h
  split at h
  · rename_i i j
    cases rx
    cases ry
    exact ⟨i, j, rfl, rfl, h _ W.F W.H (Gr.refl g) (.int _)⟩
  · exact h.elim
theorem op_modD : OpR X (binaryOp .Mod) (opD (gx X) gMod) := by
  refine op_mod.weak fun x y H Q ⟨Z, W, d, e, hW, g, rx, ry, h⟩ => ?_
  subst hW
  unfold gMod at h
  split at h
  · rename_i i j
    cases rx
    cases ry
    obtain ⟨h1, h⟩ := gd_wp h
    exact ⟨i, j, rfl, rfl, of_decide_eq_true h1, h _ W.F W.H (Gr.refl g) (.int _)⟩
  · exact h.elim
end

/-! ### comparing -/
def gEq : D → D → M D := fun d e => gd (cmD d && cmD e) (.ret (.bl (eqD d e)))
def gNe : D → D → M D := fun d e => gd (cmD d && cmD e) (.ret (.bl (!eqD d e)))
/-- of ints -/
def gCmp (f : Int → Int → Bool) : D → D → M D
  | .int i, .int j => .ret (.bl (f i j))
  | _, _ => .bad
def isNon : D → Bool
  | .non => true
  | _ => false
def gIs : D → D → M D
  | d, .non => .ret (.bl (isNon d))
  | .bl a, .bl b => .ret (.bl (a == b))
  | _, _ => .bad
def gIsNot : D → D → M D
  | d, .non => .ret (.bl (!isNon d))
  | .bl a, .bl b => .ret (.bl (!(a == b)))
  | _, _ => .bad
section
variable {X : Cx}
theorem op_eqDD (hu : X.A.units + 64 < cLine) : OpR X (compareOp .Eq) (opD (gx X) gEq) := by
  refine (op_eqD hu).weak fun x y H Q ⟨Z, W, d, e, hW, g, rx, ry, h⟩ => ?_
  subst hW
  obtain ⟨h1, h⟩ := gd_wp h
  obtain ⟨h1, h2⟩ := Bool.and_eq_true_iff.mp h1
  have k1 := (Bool.and_eq_true_iff.mp h1).1
  have k2 := (Bool.and_eq_true_iff.mp h2).1
  exact ⟨toP d, toP e, rx.dp g.sub k1, ry.dp g.sub k2, shaped_toP h1, shaped_toP h2, by rw [eqv_toP d e k1 k2]; exact h _ W.F W.H (Gr.refl g) (.bl _)⟩
theorem op_neDD (hu : X.A.units + 64 < cLine) : OpR X (compareOp .NotEq) (opD (gx X) gNe) := by
  refine (op_neD hu).weak fun x y H Q ⟨Z, W, d, e, hW, g, rx, ry, h⟩ => ?_
  subst hW
  obtain ⟨h1, h⟩ := gd_wp h
  obtain ⟨h1, h2⟩ := Bool.and_eq_true_iff.mp h1
  have k1 := (Bool.and_eq_true_iff.mp h1).1
  have k2 := (Bool.and_eq_true_iff.mp h2).1
  exact ⟨toP d, toP e, rx.dp g.sub k1, ry.dp g.sub k2, shaped_toP h1, shaped_toP h2, by rw [eqv_toP d e k1 k2]; exact h _ W.F W.H (Gr.refl g) (.bl _)⟩
theorem cmp_r {f : Int → Int → Bool} {x y : V} {H : Hp} {Q : VK} (h : opD (gx X) (gCmp f) x y H Q) : rI0 (fun i j => .bl (f i j)) x y H Q := by
  obtain ⟨Z, W, d, e, hW, g, rx, ry, h⟩ := h
  subst hW
  unfold gCmp at h
  split at h
  · rename_i i j
    cases rx
    cases ry
    exact ⟨i, j, rfl, rfl, h _ W.F W.H (Gr.refl g) (.bl _)⟩
  · exact h.elim
theorem op_ltD : OpR X (compareOp .Lt) (opD (gx X) (gCmp fun i j => decide (i < j))) := op_lt.weak fun _ _ _ _ h => cmp_r h
theorem op_leD : OpR X (compareOp .LtE) (opD (gx X) (gCmp fun i j => decide (i ≤ j))) := op_le.weak fun _ _ _ _ h => cmp_r h
theorem op_gtD : OpR X (compareOp .Gt) (opD (gx X) (gCmp fun i j => decide (j < i))) := op_gt.weak fun _ _ _ _ h => cmp_r h
theorem op_geD : OpR X (compareOp .GtE) (opD (gx X) (gCmp fun i j => decide (j ≤ i))) := op_ge.weak fun _ _ _ _ h => cmp_r h
theorem Rep.isN {G : Gx} {Z : Zs} {F : Hp} {v : V} {d : D} (r : Rep G Z F v d) : decide (v = .non) = isNon d := by
  cases r <;> first | rfl | exact decide_eq_false (fun z => nomatch z)
theorem bdec (a b : Bool) : decide (a = b) = (a == b) := by cases a <;> cases b <;> rfl
theorem op_isD : OpR X (compareOp .Is) (opD (gx X) gIs) := by
  refine (op_isN.or op_isBl).weak fun x y H Q ⟨Z, W, d, e, hW, g, rx, ry, h⟩ => ?_
  subst hW
  unfold gIs at h
  split at h
  · cases ry
    exact .inl ⟨rfl, by rw [rx.isN]; exact h _ W.F W.H (Gr.refl g) (.bl _)⟩
  · rename_i a b
    cases rx
    cases ry
    exact .inr ⟨a, b, rfl, rfl, by rw [bdec]; exact h _ W.F W.H (Gr.refl g) (.bl _)⟩
  · exact h.elim
theorem op_isNotD : OpR X (compareOp .IsNot) (opD (gx X) gIsNot) := by
  refine (op_notN.or op_notBl).weak fun x y H Q ⟨Z, W, d, e, hW, g, rx, ry, h⟩ => ?_
  subst hW
  unfold gIsNot at h
  split at h
  · cases ry
    exact .inl ⟨rfl, by rw [rx.isN]; exact h _ W.F W.H (Gr.refl g) (.bl _)⟩
  · rename_i a b
    cases rx
    cases ry
    exact .inr ⟨a, b, rfl, rfl, by rw [bdec]; exact h _ W.F W.H (Gr.refl g) (.bl _)⟩
  · exact h.elim
end
end Dv
end
section
set_option linter.all false
set_option maxRecDepth 100000
set_option maxHeartbeats 4000000
/-! A6: membership, subscripts, slices, new dicts that are known. -/
namespace Dv
open PySem PySem.Spec PyProof.Rows L2 Evl

/-! ### dicts -/
def lookD : List (Int × D) → Int → Option D
  | [], _ => none
  | (i, d) :: r, k => match iEq i k with
    | true => some d
    | false => lookD r k
def hasD : List (Int × D) → Int → Bool
  | [], _ => false
  | (i, _) :: r, k => iEq i k || hasD r k
theorem iEq_iff {i j : Int} : iEq i j = true ↔ i = j := by
  unfold iEq
  exact beq_iff_eq
theorem iEq_no {i j : Int} : iEq i j = false ↔ i ≠ j := by
  unfold iEq
  exact beq_eq_false_iff_ne
theorem dkeys_eq (kvs : List (Int × D)) : dkeys kvs = kvs.map fun p => (Sum.inl p.1 : Key) := rfl
theorem valV_cons_same {kvs : List (Key × V)} {k : Key} {v : V} : valV ((k, v) :: kvs) k = some v := by
  unfold valV
  rw [List.find?_cons_of_pos (by simp)]
  rfl
theorem valV_cons_ne {kvs : List (Key × V)} {k j : Key} {v : V} (h : j ≠ k) : valV ((j, v) :: kvs) k = valV kvs k := by
  unfold valV
  rw [List.find?_cons_of_neg (by simp [h])]
section
variable {G : Gx} {Z : Zs} {F : Hp}
theorem val_some : ∀ {kvs : List (Int × D)} {vs : List V} {k : Int} {d : D}, Reps G Z F vs (kvs.map (·.2)) → lookD kvs k = some d → ∃ v, valV (List.zip (dkeys kvs) vs) (.inl k) = some v ∧ Rep G Z F v d
  | [], _, _, _, _, h => by cases h
  | (i, d') :: r, _, k, d, .cons (v := v) (vs := vs) rv rt, h => by
    show ∃ w, valV ((Sum.inl i, v) :: List.zip (dkeys r) vs) (.inl k) = some w ∧ _
    unfold lookD at h
    cases e : iEq i k with
    | true =>
      rw [e] at h
      cases h
      rw [iEq_iff.mp e]
      exact ⟨v, valV_cons_same, rv⟩
    | false =>
      rw [e] at h
      rw [valV_cons_ne fun z => iEq_no.mp e (Sum.inl.inj z)]
      exact val_some rt h
theorem val_none : ∀ {kvs : List (Int × D)} {vs : List V} {k : Int}, Reps G Z F vs (kvs.map (·.2)) → (valV (List.zip (dkeys kvs) vs) (.inl k)).isSome = hasD kvs k
  | [], _, _, _ => rfl
  | (i, d') :: r, _, k, .cons (v := v) (vs := vs) rv rt => by
    show (valV ((Sum.inl i, v) :: List.zip (dkeys r) vs) (.inl k)).isSome = (iEq i k || hasD r k)
    cases e : iEq i k with
    | true =>
      rw [iEq_iff.mp e, valV_cons_same]
      rfl
    | false =>
      rw [valV_cons_ne fun z => iEq_no.mp e (Sum.inl.inj z), val_none rt]
      rfl
theorem rep_dic {v : V} {kvs : List (Int × D)} (r : Rep G Z F v (.dic kvs)) : ∃ a o vs, v = .ref a ∧ F a = some (.frz o (.dK (List.zip (dkeys kvs) vs))) ∧ Reps G Z F vs (kvs.map (·.2)) := by
  cases r with
  | dic h q r =>
    subst q
    exact ⟨_, _, _, rfl, h, r⟩
theorem rep_sti {v : V} {ns : List Int} (r : Rep G Z F v (.sti ns)) : ∃ a S n, v = .ref a ∧ F a = some (SetO G.w a S n) ∧ (∀ i, S i = decide (i ∈ ns)) ∧ n = ns.length := by
  cases r with
  | sti h s n => exact ⟨_, _, _, rfl, h, s, n⟩
end

/-! ### membership -/
def neg (n b : Bool) : Bool := match n with
  | true => !b
  | false => b
def hasI : List Int → Int → Bool
  | [], _ => false
  | i :: r, k => iEq i k || hasI r k
theorem hasI_eq : ∀ (ns : List Int) (k : Int), hasI ns k = decide (k ∈ ns)
  | [], k => rfl
  | i :: r, k => by
    show (iEq i k || hasI r k) = _
    rw [hasI_eq r k]
    by_cases h : i = k
    · rw [iEq_iff.mpr h]
      simp [h]
    · rw [iEq_no.mpr h]
      have : (k ∈ i :: r) ↔ k ∈ r := by
        rw [List.mem_cons]
        exact ⟨fun q => q.elim (fun z => absurd z.symm h) id, .inr⟩
      simp [this]
def anyEq (d : D) : List D → Bool
  | [] => false
  | z :: r => eqD z d || anyEq d r
theorem anyEq_P (d : D) (hd : okD d = true) : ∀ ds : List D, okDs ds = true → (toPs ds).any (fun z => PyData.eqv z (toP d)) = anyEq d ds
  | [], _ => by simp only [toPs, List.any_nil, anyEq]
  | z :: r, h => by
    have h1 : okD z = true ∧ okDs r = true := Bool.and_eq_true_iff.mp h
    simp only [toPs, List.any_cons, anyEq]
    rw [eqv_toP z d h1.1 hd, anyEq_P d hd r h1.2]
def gIn (n : Bool) : D → D → M D
  | d, .lst xs => gd (cmD d && cmD (.lst xs)) (.ret (.bl (neg n (anyEq d xs))))
  | d, .tup xs => gd (cmD d && cmD (.tup xs)) (.ret (.bl (neg n (anyEq d xs))))
  | .int k, .dic kvs => .ret (.bl (neg n (hasD kvs k)))
  | .int k, .sti ns => .ret (.bl (neg n (hasI ns k)))
  | _, _ => .bad
section
variable {X : Cx}
def rInT (K : PySem.W.Frag) (n : Bool) : R2 := fun x y H Q => ∃ d ds, Dp K H x d ∧ Dp K H y (.tuple ds) ∧ SeqAt.shaped d = true ∧ SeqAt.shaped (.tuple ds) = true ∧ Q (.bl (neg n (ds.any fun z => PyData.eqv z d))) H
theorem op_inT (hu : X.A.units + 65 < cLine) : OpR X (compareOp .In) (rInT X.K false) := by
  intro pins s σ H x y v u Q I rx ry h
  obtain ⟨d, ds, hd, he, sd, se, q⟩ := h
  obtain ⟨as, r1⟩ := Dp.reads I d x v hd rx
  obtain ⟨bs, r2⟩ := Dp.reads I (.tuple ds) y u he ry
  exact SeqAt.in_tuple_reads r2 r1 (SeqAt.canLay_of_shaped se) (SeqAt.canLay_of_shaped sd) (room_in_shaped sd hu) ⟨.bl _, H, I, rfl, q⟩
theorem op_notInT (hu : X.A.units + 65 < cLine) : OpR X (compareOp .NotIn) (rInT X.K true) := by
  intro pins s σ H x y v u Q I rx ry h
  obtain ⟨d, ds, hd, he, sd, se, q⟩ := h
  obtain ⟨as, r1⟩ := Dp.reads I d x v hd rx
  obtain ⟨bs, r2⟩ := Dp.reads I (.tuple ds) y u he ry
  exact SeqAt.notIn_tuple_reads r2 r1 (SeqAt.canLay_of_shaped se) (SeqAt.canLay_of_shaped sd) (room_in_shaped sd hu) ⟨.bl _, H, I, rfl, q⟩
def rInK (n : Bool) : R2 := fun x y H Q => ∃ a o, y = .ref a ∧ DGet H a x o ∧ Q (.bl (neg n o.isSome)) H
theorem op_inK (hu : X.A.units + 1 < cLine) : OpR X (compareOp .In) (rInK false) := by
  intro pins s σ H x y v u Q I rx ry h
  obtain ⟨a, o, rfl, g, q⟩ := h
  obtain rfl : u = Value.ref a := ry
  exact d_in hu I g rx fun s3 I3 => ⟨.bl o.isSome, H, I3, rfl, q⟩
theorem op_notInK (hu : X.A.units + 1 < cLine) : OpR X (compareOp .NotIn) (rInK true) := by
  intro pins s σ H x y v u Q I rx ry h
  obtain ⟨a, o, rfl, g, q⟩ := h
  obtain rfl : u = Value.ref a := ry
  exact d_notIn hu I g rx fun s3 I3 => ⟨.bl (!o.isSome), H, I3, rfl, q⟩
theorem in_r {n : Bool} {x y : V} {H : Hp} {Q : VK} (h : opD (gx X) (gIn n) x y H Q) :
    (∃ d ds, Dp X.K H x d ∧ Dp X.K H y (.list ds) ∧ SeqAt.shaped d = true ∧ SeqAt.shaped (.list ds) = true ∧ Q (.bl (neg n (ds.any fun z => PyData.eqv z d))) H) ∨ rInT X.K n x y H Q ∨ rInK n x y H Q ∨
    ∃ k a S m, x = V.int k ∧ y = V.ref a ∧ H a = some (SetO X.w a S m) ∧ Q (.bl (neg n (S k))) H := by
  obtain ⟨Z, W, d, e, hW, g, rx, ry, h⟩ := h
  subst hW
  unfold gIn at h
  split at h
  · rename_i d xs
    obtain ⟨h1, h⟩ := gd_wp h
    obtain ⟨h1, h2⟩ := Bool.and_eq_true_iff.mp h1
    have k1 := (Bool.and_eq_true_iff.mp h1).1
    have k2 : okDs xs = true := (Bool.and_eq_true_iff.mp h2).1
    have s2 := shaped_toP h2
    have r2 := ry.dp g.sub (show okD (.lst xs) = true from k2)
    simp only [toP] at s2 r2
    exact .inl ⟨_, toPs xs, rx.dp g.sub k1, r2, shaped_toP h1, s2, by rw [anyEq_P _ k1 xs k2]; exact h _ W.F W.H (Gr.refl g) (.bl _)⟩
  · rename_i d xs
    obtain ⟨h1, h⟩ := gd_wp h
    obtain ⟨h1, h2⟩ := Bool.and_eq_true_iff.mp h1
    have k1 := (Bool.and_eq_true_iff.mp h1).1
    have k2 : okDs xs = true := (Bool.and_eq_true_iff.mp h2).1
    have s2 := shaped_toP h2
    have r2 := ry.dp g.sub (show okD (.tup xs) = true from k2)
    simp only [toP] at s2 r2
    exact .inr (.inl ⟨_, toPs xs, rx.dp g.sub k1, r2, shaped_toP h1, s2, by rw [anyEq_P _ k1 xs k2]; exact h _ W.F W.H (Gr.refl g) (.bl _)⟩)
  · rename_i k kvs
    cases rx
    obtain ⟨a, o, vs, rfl, ha, rv⟩ := rep_dic ry
    refine .inr (.inr (.inl ⟨a, _, rfl, .inl ⟨_, .inl k, .inr ⟨o, g.sub _ _ ha⟩, rfl, rfl⟩, ?_⟩))
    rw [val_none rv]
    exact h _ W.F W.H (Gr.refl g) (.bl _)
  · rename_i k ns
    cases rx
    obtain ⟨a, S, m, rfl, ha, hS, _⟩ := rep_sti ry
    refine .inr (.inr (.inr ⟨k, a, S, m, rfl, rfl, g.sub _ _ ha, ?_⟩))
    rw [hS, ← hasI_eq]
    exact h _ W.F W.H (Gr.refl g) (.bl _)
  · exact h.elim
theorem op_inDD (hu : X.A.units + 65 < cLine) : OpR X (compareOp .In) (opD (gx X) (gIn false)) :=
  ((op_inD hu).or ((op_inT hu).or ((op_inK (by omega)).or or_sin))).weak fun _ _ _ _ h => in_r (n := false) h
theorem op_notInDD (hu : X.A.units + 65 < cLine) : OpR X (compareOp .NotIn) (opD (gx X) (gIn true)) :=
  ((op_notInD hu).or ((op_notInT hu).or ((op_notInK (by omega)).or or_snotin))).weak fun _ _ _ _ h => in_r (n := true) h
end

/-! ### subscripts -/
def atD (xs : List D) : Int → M D
  | .ofNat n => match xs[n]? with
    | some d => .ret d
    | none => .bad
  | .negSucc n => gd (Nat.blt n xs.length) (match xs[xs.length - (n + 1)]? with
    | some d => .ret d
    | none => .bad)
def gIx : D → D → M D
  | .lst xs, .int i => atD xs i
  | .tup xs, .int i => atD xs i
  | .dic kvs, .int k => match lookD kvs k with
    | some d => .ret d
    | none => .bad
  | _, _ => .bad
section
variable {X : Cx}
theorem atD_wp {G : Gx} {Z : Zs} {F : Hp} {vs : List V} {xs : List D} {i : Int} {n : Nat} {Q : Nat → D → Prop} (r : Reps G Z F vs xs) (h : (atD xs i).wp n Q) : ∃ v d, atI vs i = some v ∧ Rep G Z F v d ∧ Q n d := by
  cases i with
  | ofNat j =>
    unfold atD at h
    cases e : xs[j]? with
    | none =>
      simp only [e] at h
      exact h.elim
    | some d =>
      simp only [e] at h
      obtain ⟨v, h1, h2⟩ := r.get e
      exact ⟨v, d, atI_nat h1, h2, h⟩
  | negSucc j =>
    unfold atD at h
    obtain ⟨h1, h⟩ := gd_wp h
    have hj : j < xs.length := Nat.blt_eq.mp h1
    cases e : xs[xs.length - (j + 1)]? with
    | none =>
      simp only [e] at h
      exact h.elim
    | some d =>
      simp only [e] at h
      obtain ⟨v, h2, h3⟩ := r.get e
      refine ⟨v, d, ?_, h3, h⟩
      have e2 : ixN vs.length (Int.negSucc j) = some (xs.length - (j + 1)) := by
        unfold ixN
        rw [if_neg (by omega), if_pos (by rw [r.length]; omega), r.length]
        congr 1
        omega
      unfold atI
      rw [e2]
      exact h2
def rIxK : R2 := fun x y H Q => ∃ a v, x = .ref a ∧ DGet H a y (some v) ∧ Q v H
theorem ix_dic (hu : X.A.units + 1 < cLine) : IxR X rIxK := by
  intro value slice pins s σ H x y v u Q I rx ry h hs
  obtain ⟨a, w, rfl, g, q⟩ := h
  obtain rfl : v = Value.ref a := rx
  exact tail_any (dict_typeIs I g) PySem.F.slot_dict_getitem.lookup (d_getItem hu I g ry fun w' s3 I3 rw' => ⟨w, H, I3, rw', q⟩) hs
theorem IxR.weak {r r' : R2} (h : IxR X r) (q : ∀ x y H Q, r' x y H Q → r x y H Q) : IxR X r' := fun value slice pins s σ H x y v u Q I a b hw hs => h value slice pins s σ H x y v u Q I a b (q _ _ _ _ hw) hs
theorem ix_D (hu : X.A.units + 1 < cLine) : IxR X (opD (gx X) gIx) := by
  refine IxR.weak (IxR.or ix_list (IxR.or ix_tup (ix_dic hu))) fun x y H Q ⟨Z, W, d, e, hW, g, rx, ry, h⟩ => ?_
  subst hW
  unfold gIx at h
  split at h
  · rename_i xs i
    cases ry
    obtain ⟨a, vs, rfl, ha, r1⟩ := rep_lst rx
    obtain ⟨v, d, h1, h2, h3⟩ := atD_wp r1 h
    exact .inl ⟨a, vs, i, v, rfl, rfl, SqL.of (g.sub _ _ ha), h1, h3 v W.F W.H (Gr.refl g) h2⟩
  · rename_i xs i
    cases ry
    obtain ⟨a, vs, rfl, ha, r1⟩ := rep_tup rx
    obtain ⟨v, d, h1, h2, h3⟩ := atD_wp r1 h
    exact .inr (.inl ⟨a, vs, i, v, rfl, rfl, ex_t g.sub ha, h1, h3 v W.F W.H (Gr.refl g) h2⟩)
  · rename_i kvs k
    cases ry
    obtain ⟨a, o, vs, rfl, ha, rv⟩ := rep_dic rx
    cases e : lookD kvs k with
    | none =>
      rw [e] at h
      exact h.elim
    | some d =>
      rw [e] at h
      obtain ⟨v, h1, h2⟩ := val_some rv e
      exact .inr (.inr ⟨a, v, rfl, .inl ⟨_, .inl k, .inr ⟨o, g.sub _ _ ha⟩, rfl, h1.symm⟩, h v W.F W.H (Gr.refl g) h2⟩)
  · exact h.elim
variable {a b e : Expr} {pos p1 p2 : Pos} {fa fb : EnvD → M D}
theorem de_ix (hu : X.A.units + 1 < cLine) (ha : PE X a (tD (gx X) fa)) (hb : PE X b (tD (gx X) fb)) (hs : PlainIx b := by intro _ _; rfl) : PE X (.Subscript a b pos) (tD (gx X) (eBin gIx fa fb)) :=
  (pe_ix (ix_D hu) ha hb hs).weak fun σ H Q h => bin_r (fun _ _ _ _ h => h) h
/-- t[1:] of a tuple -/
def gTail : D → M D
  | .tup (x :: xs) => .ret (.tup xs)
  | .tup [] => .ret (.tup [])
  | _ => .bad
theorem de_tail {k : Nat} {p3 : Pos} (ha : PE X a (tD (gx X) fa)) : PE X (.Subscript a (.Slice (some (.Constant (.int 1) k p3)) none none p2) pos) (tD (gx X) (eUn gTail fa)) := by
  refine (pe_slice sl_tupA ha (po_some (pe_int (i := 1))) po_none).weak fun σ H Q ⟨Z, env, W, hW, ok, h⟩ => ?_
  subst hW
  refine ⟨Z, env, W, rfl, ok, M.wp_mono (fun n1 d1 h1 v1 F1 H1 g1 r1 => ?_) (wp_then h)⟩
  refine ⟨1, rfl, ?_⟩
  unfold gTail at h1
  split at h1
  · rename_i d ds
    obtain ⟨a, vs, rfl, hs, rs⟩ := rep_tup r1
    cases rs with
    | @cons v _ vs _ rv rt =>
      refine ⟨a, v :: vs, rfl, ex_t g1.gd.sub hs, fun z => ?_, fun _ p hp => ?_⟩
      · have := z.1
        rw [show (1 : Int) = ((1 : Nat) : Int) from rfl, HT.sIx_nat, List.length_cons] at this
        omega
      · have e : cutV (v :: vs) (some 1) none = vs := by
          unfold cutV
          rw [HT.sIx_none, show (1 : Int) = ((1 : Nat) : Int) from rfl, HT.sIx_nat, List.length_cons, show min 1 (vs.length + 1) = 1 by omega]
          show (vs.drop 0).take (vs.length + 1 - 1) = vs
          rw [List.drop_zero, Nat.add_sub_cancel, List.take_length]
        rw [e]
        exact h1 (.ref p) _ _ (g1.trans (Gr.alloc g1.gd (o := .tup vs) hp)) (.tup (SqT.of upd_same) (rt.mono (Gr.alloc (o := .tup vs) g1.gd hp).ff))
  · obtain ⟨a, vs, rfl, hs, rs⟩ := rep_tup r1
    cases rs
    refine ⟨a, [], rfl, ex_t g1.gd.sub hs, fun _ => h1 _ F1 H1 g1 r1, fun z => absurd ⟨rfl, rfl⟩ z⟩
  · exact h1.elim
/-- xs[::-1] -/
def nRev (fa : EnvD → M D) : EnvD → M (List D) := fun env => do
  let x ← fa env
  match x with
  | .lst ds => .ret ds.reverse
  | _ => .bad
theorem dn_rev {k : Nat} {p3 p4 : Pos} (ha : PE X e (tD (gx X) fa)) : PE X (.Subscript e (.Slice none none (some (.UnaryOp .USub (.Constant (.int 1) k p1) p2)) p3) pos) (tDn (gx X) (nRev fa)) := by
  refine (pe_revL ha).weak fun σ H Q ⟨Z, env, W, hW, ok, h⟩ => ?_
  subst hW
  refine ⟨Z, env, W, rfl, ok, M.wp_mono (fun n1 d1 h1 v1 F1 H1 g1 r1 => ?_) (wp_then h)⟩
  split at h1
  · obtain ⟨a, vs, rfl, hs, rs⟩ := rep_lst r1
    refine ⟨a, vs, rfl, SqL.of (g1.gd.sub _ _ hs), fun p hp => ?_⟩
    exact h1 p _ F1 _ (g1.trans (Gr.allocH g1.gd hp)) (g1.back hp) (g1.gd.noF hp) upd_same rs.reverse
  · exact h1.elim

/-! ### a new dict that is known from now on -/
def eD (f : EnvD → M (List (Int × D))) : EnvD → M D := fun env => do
  let kvs ← f env
  .ret (.dic kvs)
theorem Gr.lockD {Z : Zs} {W W1 : Wd} (g : Gr Z W W1) {a : Addr} {o : HO} (hn : W.H a = none) (hF : W1.F a = none) (hz : ¬ Z.has a) : Gr Z W ⟨upd W1.F a o, upd W1.H a o, W1.n⟩ := by
  have g2 := g.poke (o := o) hn hF hz
  exact g2.learn hn upd_same hz hF
theorem de_d {f : EnvD → M (List (Int × D))} (h : PE X e (tDd (gx X) f)) : PE X e (tD (gx X) (eD f)) := by
  refine ⟨fun pins s σ H Q I ⟨Z, env, W, hW, ok, hw⟩ => ?_⟩
  subst hW
  have hw' : tDd (gx X) f σ W.H fun v H1 => ∃ a n1 F1 kvs vs, v = .ref a ∧ Gr Z W ⟨F1, H1, n1⟩ ∧ W.H a = none ∧ F1 a = none ∧ H1 a = some (.dK (List.zip (dkeys kvs) vs)) ∧ Reps (gx X) Z F1 vs (kvs.map (·.2)) ∧ Aft (gx X) Z W Q n1 (.dic kvs) :=
    ⟨Z, env, W, rfl, ok, M.wp_mono (fun n1 kvs h1 a vs F1 H1 g1 hn hF ha r1 => ⟨a, n1, F1, kvs, vs, rfl, g1, hn, hF, ha, r1, h1⟩) (wp_then hw)⟩
  refine thn (h.run pins s σ W.H _ I hw') fun v s1 ⟨x, H1, I1, rx, a, n1, F1, kvs, vs, e, g1, hn, hF, ha, r1, q⟩ => ?_
  subst e
  obtain ⟨od, I2⟩ := I1.lock ha True.intro
  refine ⟨.ref a, _, I2, rx, ?_⟩
  have g2 : Gr Z W ⟨upd F1 a (.frz od (.dK (List.zip (dkeys kvs) vs))), upd H1 a (.frz od (.dK (List.zip (dkeys kvs) vs))), n1⟩ := g1.lockD hn hF (ok.gd.noHas hn)
  exact q _ _ _ g2 (.dic upd_same rfl (r1.mono (Ex.new hF)))
end
end Dv
end
section
set_option linter.all false
set_option maxRecDepth 100000
set_option maxHeartbeats 4000000
/-! A7: calls of builtins. -/
namespace Dv
open PySem PySem.Spec PyProof.Rows L2 Evl

def allI : List D → Option (List Int)
  | [] => some []
  | .int i :: r => match allI r with
    | some ns => some (i :: ns)
    | none => none
  | _ => none
theorem allI_eq : ∀ {ds : List D} {ns : List Int}, allI ds = some ns → ds = ns.map D.int
  | [], ns, h => by
    cases h
    rfl
  | d :: r, ns, h => by
    cases d with
    | int i =>
      unfold allI at h
      cases e : allI r with
      | none =>
        rw [e] at h
        cases h
      | some ms =>
        rw [e] at h
        cases h
        rw [allI_eq e]
        rfl
    | _ => cases h
def allB : List D → Option (List Bool)
  | [] => some []
  | .bl i :: r => match allB r with
    | some ns => some (i :: ns)
    | none => none
  | _ => none
theorem allB_eq : ∀ {ds : List D} {ns : List Bool}, allB ds = some ns → ds = ns.map D.bl
  | [], ns, h => by
    cases h
    rfl
  | d :: r, ns, h => by
    cases d with
    | bl i =>
      unfold allB at h
      cases e : allB r with
      | none =>
        rw [e] at h
        cases h
      | some ms =>
        rw [e] at h
        cases h
        rw [allB_eq e]
        rfl
    | _ => cases h
def allT : List D → Option (List (List Int))
  | [] => some []
  | .tup ds :: r => match allI ds, allT r with
    | some ns, some rs => some (ns :: rs)
    | _, _ => none
  | _ => none
theorem allT_eq : ∀ {ds : List D} {ns : List (List Int)}, allT ds = some ns → ds = ns.map fun is => D.tup (is.map D.int)
  | [], ns, h => by
    cases h
    rfl
  | d :: r, ns, h => by
    cases d with
    | tup xs =>
      unfold allT at h
      split at h
      · rename_i e1 e2
        cases h
        rw [allT_eq e2, allI_eq e1]
        rfl
      · cases h
    | _ => cases h
def bAll : List Bool → Bool
  | [] => true
  | b :: r => b && bAll r
theorem bAll_eq : ∀ bs : List Bool, bs.all id = bAll bs
  | [] => rfl
  | b :: r => by
    show (b && r.all id) = (b && bAll r)
    rw [bAll_eq r]
/-- sorted, ints -/
def insI (k : Int) : List Int → List Int
  | [] => [k]
  | i :: r => match decide (k ≤ i) with
    | true => k :: i :: r
    | false => i :: insI k r
def srtI : List Int → List Int
  | [] => []
  | i :: r => insI i (srtI r)
theorem insI_perm (k : Int) : ∀ l : List Int, (insI k l).Perm (k :: l)
  | [] => .refl _
  | i :: r => by
    unfold insI
    cases decide (k ≤ i) with
    | true => exact .refl _
    | false => exact ((insI_perm k r).cons i).trans (.swap _ _ _)
theorem srtI_perm : ∀ l : List Int, (srtI l).Perm l
  | [] => .refl _
  | i :: r => (insI_perm i (srtI r)).trans ((srtI_perm r).cons i)
theorem insI_pw (k : Int) : ∀ {l : List Int}, l.Pairwise (· ≤ ·) → (insI k l).Pairwise (· ≤ ·)
  | [], _ => .cons (fun _ h => nomatch h) .nil
  | i :: r, .cons h t => by
    unfold insI
    cases e : decide (k ≤ i) with
    | true =>
      have e := of_decide_eq_true e
      refine .cons (fun x hx => ?_) (.cons h t)
      rcases List.mem_cons.mp hx with rfl | hx
      · exact e
      · exact Int.le_trans e (h x hx)
    | false =>
      have e := of_decide_eq_false e
      refine .cons (fun x hx => ?_) (insI_pw k t)
      rcases List.mem_cons.mp ((insI_perm k r).mem_iff.mp hx) with rfl | hx
      · omega
      · exact h x hx
theorem srtI_pw : ∀ l : List Int, (srtI l).Pairwise (· ≤ ·)
  | [] => .nil
  | i :: r => insI_pw i (srtI_pw r)
theorem srt_one : ∀ {a b : List Int}, a.Perm b → a.Pairwise (· ≤ ·) → b.Pairwise (· ≤ ·) → a = b
  | [], b, p, _, _ => p.symm.eq_nil.symm
  | x :: a, [], p, _, _ => absurd p.eq_nil (fun z => nomatch z)
  | x :: a, y :: b, p, .cons h t, .cons h' t' => by
    have e : x = y := by
      have h1 : x ∈ y :: b := p.mem_iff.mp List.mem_cons_self
      have h2 : y ∈ x :: a := p.mem_iff.mpr List.mem_cons_self
      rcases List.mem_cons.mp h1 with q | q
      · exact q
      · rcases List.mem_cons.mp h2 with r | r
        · exact r.symm
        · have := h' x q
          have := h y r
          omega
    subst e
    rw [srt_one (p.cons_inv) t t']
theorem srtI_of {a b : List Int} (p : a.Perm b) (h : a.Pairwise (· ≤ ·)) : a = srtI b := srt_one (p.trans (srtI_perm b).symm) h (srtI_pw b)

/-! ### the functions -/
def gLen : List D → M D
  | [.tup ds] => .ret (.int (ds.length : Nat))
  | [.lst ds] => .ret (.int (ds.length : Nat))
  | [.dic kvs] => .ret (.int (kvs.length : Nat))
  | [.mix ks] => gd (Nat.ble ks.length 100000) (.ret (.int (ks.length : Nat)))
  | [.sti ns] => gd (Nat.ble ns.length 100000) (.ret (.int (ns.length : Nat)))
  | _ => .bad
def gAll : List D → M D
  | [.lst ds] => match allB ds with
    | some bs => .ret (.bl (bAll bs))
    | none => .bad
  | _ => .bad
def gTuple : List D → M D
  | [.lst ds] => .ret (.tup ds)
  | [.tup ds] => .ret (.tup ds)
  | _ => .bad
def gList : List D → M (List D)
  | [.lst ds] => .ret ds
  | [.tup ds] => .ret ds
  | [.dic kvs] => .ret (kvs.map fun p => .int p.1)
  | _ => .bad
def gSorted : List D → M D
  | [.lst ds] => match allI ds with
    | some ns => .ret (.lst ((srtI ns).map D.int))
    | none => .bad
  | [.dic kvs] => gd (Nat.blt kvs.length 64) (.ret (.lst ((srtI (kvs.map (·.1))).map D.int)))
  | _ => .bad
def gInt1 : List D → M D
  | [.int i] => .ret (.int i)
  | _ => .bad
def gAbs : List D → M D
  | [.int i] => .ret (.int (if i < 0 then -i else i))
  | _ => .bad
def gMin2 : List D → M D
  | [.int i, .int j] => .ret (.int (if j < i then j else i))
  | _ => .bad
def gStr : List D → M D
  | [.int i] => gd (decide (i.natAbs ≤ 1000000)) (.ret (.str (toString i)))
  | _ => .bad
section
variable {X : Cx}
theorem rep1 {G : Gx} {Z : Zs} {F : Hp} {vs : List V} {d : D} (r : Reps G Z F vs [d]) : ∃ v, vs = [v] ∧ Rep G Z F v d := by
  cases r with
  | cons r t =>
    cases t
    exact ⟨_, rfl, r⟩
theorem rep2 {G : Gx} {Z : Zs} {F : Hp} {vs : List V} {d e : D} (r : Reps G Z F vs [d, e]) : ∃ v w, vs = [v, w] ∧ Rep G Z F v d ∧ Rep G Z F w e := by
  cases r with
  | cons r t =>
    cases t with
    | cons r2 t =>
      cases t
      exact ⟨_, _, rfl, r, r2⟩
theorem call_lenK : CallR X (.builtin "len") (fun xs H Q => ∃ (a : Addr) (kvs : List (Key × V)), xs = [.ref a] ∧ Rd H a (.dK kvs) ∧ Q (.int kvs.length) H) := by
  intro pins s σ H xs us Q I r h
  obtain ⟨a, kvs, rfl, e, q⟩ := h
  rw [Vals.ref1 r]
  exact d_len I e fun t s' I' => ⟨.int kvs.length, H, I', ⟨_, rfl⟩, q⟩
theorem call_lenSt : CallR X (.builtin "len") (fun xs H Q => ∃ (a : Addr) (S : Int → Bool) (n : Nat), xs = [.ref a] ∧ H a = some (SetO X.w a S n) ∧ n ≤ 100000 ∧ Q (.int n) H) := by
  intro pins s σ H xs us Q I r h
  obtain ⟨a, S, n, rfl, e, hn, q⟩ := h
  rw [Vals.ref1 r]
  obtain ⟨o, es, ep, t, ho, hx, hd, g, nd, hm, hb, hf, hs, _⟩ := setO_get I e
  exact call_len_set ho hx hd hf (by rw [hs]; omega) ⟨.int n, H, I.tok _, ⟨_, by rw [hs]⟩, q⟩
theorem call_lenM : CallR X (.builtin "len") (fun xs H Q => ∃ (a : Addr) (o : Obj) (ks : List Bs), xs = [.ref a] ∧ H a = some (.frz o (mixO X.prog X.w a ks)) ∧ ks.length ≤ 100000 ∧ Q (.int ks.length) H) := by
  intro pins s σ H xs us Q I r h
  obtain ⟨a, o, ks, rfl, ha, hl, q⟩ := h
  obtain ⟨u, rfl, ru⟩ := vals1 r
  cases ru
  obtain ⟨hs, hg, hx, es, ep, kvs, hdt, hz, hk, hm⟩ := frzM I ha
  have e : ks.length = kvs.length := by rw [← hk, List.length_map]
  refine call_len_dict hs hm.dictOf (by omega) ?_
  rw [← e]
  exact ⟨.int ks.length, H, I.tok _, ⟨_, rfl⟩, q⟩
theorem cr_lenD : CallR X (.builtin "len") (callD (gx X) gLen) := by
  refine (call_len_seq.or (call_lenK.or (call_lenM.or call_lenSt))).weak fun xs H Q ⟨Z, W, ds, hW, g, r, h⟩ => ?_
  subst hW
  unfold gLen at h
  split at h
  · obtain ⟨v, rfl, r1⟩ := rep1 r
    obtain ⟨a, vs, rfl, hs, rs⟩ := rep_tup r1
    refine .inl ⟨a, vs, rfl, .inr (ex_t g.sub hs), ?_⟩
    rw [rs.length]
    exact h _ W.F W.H (Gr.refl g) (.int _)
  · obtain ⟨v, rfl, r1⟩ := rep1 r
    obtain ⟨a, vs, rfl, hs, rs⟩ := rep_lst r1
    refine .inl ⟨a, vs, rfl, .inl (SqL.of (g.sub _ _ hs)), ?_⟩
    rw [rs.length]
    exact h _ W.F W.H (Gr.refl g) (.int _)
  · obtain ⟨v, rfl, r1⟩ := rep1 r
    obtain ⟨a, o, vs, rfl, hs, rs⟩ := rep_dic r1
    refine .inr (.inl ⟨a, _, rfl, .inr ⟨o, g.sub _ _ hs⟩, ?_⟩)
    rw [List.length_zip, rs.length, List.length_map, show (dkeys _).length = _ from List.length_map _, Nat.min_self]
    exact h _ W.F W.H (Gr.refl g) (.int _)
  · obtain ⟨v, rfl, r1⟩ := rep1 r
    obtain ⟨h1, h⟩ := gd_wp h
    cases r1 with
    | mix hs => exact .inr (.inr (.inl ⟨_, _, _, rfl, g.sub _ _ hs, Nat.le_of_ble_eq_true h1, h _ W.F W.H (Gr.refl g) (.int _)⟩))
  · obtain ⟨v, rfl, r1⟩ := rep1 r
    obtain ⟨a, S, n, rfl, hs, _, rfl⟩ := rep_sti r1
    obtain ⟨h1, h⟩ := gd_wp h
    exact .inr (.inr (.inr ⟨a, S, _, rfl, g.sub _ _ hs, Nat.le_of_ble_eq_true h1, h _ W.F W.H (Gr.refl g) (.int _)⟩))
  · exact h.elim
theorem cr_allD (hc : X.calm = true) : CallR X (.builtin "all") (callD (gx X) gAll) := by
  refine (cr_all hc).weak fun xs H Q ⟨Z, W, ds, hW, g, r, h⟩ => ?_
  subst hW
  unfold gAll at h
  split at h
  · rename_i ds
    obtain ⟨v, rfl, r1⟩ := rep1 r
    obtain ⟨a, vs, rfl, hs, rs⟩ := rep_lst r1
    cases e : allB ds with
    | none =>
      rw [e] at h
      exact h.elim
    | some bs =>
      rw [e] at h
      rw [allB_eq e] at rs
      rw [rs.bls_eq] at hs
      exact ⟨a, bs, rfl, SqL.of (g.sub _ _ hs), by rw [bAll_eq]; exact h _ W.F W.H (Gr.refl g) (.bl _)⟩
  · exact h.elim
theorem cr_tupleD : CallR X (.type "tuple") (callD (gx X) gTuple) := by
  refine call_tuple_of.weak fun xs H Q ⟨Z, W, ds, hW, g, r, h⟩ => ?_
  subst hW
  unfold gTuple at h
  split at h
  · obtain ⟨v, rfl, r1⟩ := rep1 r
    obtain ⟨a, vs, rfl, hs, rs⟩ := rep_lst r1
    exact ⟨a, vs, rfl, .inl ⟨SqL.of (g.sub _ _ hs), fun p hp => h (.ref p) _ _ (Gr.alloc g (o := .tup vs) hp) (.tup (SqT.of upd_same) (rs.mono (Gr.alloc (o := .tup vs) g hp).ff))⟩⟩
  · obtain ⟨v, rfl, r1⟩ := rep1 r
    obtain ⟨a, vs, rfl, hs, rs⟩ := rep_tup r1
    exact ⟨a, vs, rfl, .inr ⟨ex_t g.sub hs, h _ W.F W.H (Gr.refl g) r1⟩⟩
  · exact h.elim
theorem lst_new {Z : Zs} {W : Wd} {Q : VK} {vs : List V} {ds : List D} {n : Nat} (g : Gd Z W) (h : Aft (gx X) Z W Q W.n (.lst ds)) (rs : Reps (gx X) Z W.F vs ds) : ∀ p, W.H p = none → Q (.ref p) (upd W.H p (.lst vs)) := fun p hp =>
  h (.ref p) _ _ (Gr.alloc g (o := .lst vs) hp) (.lst upd_same (rs.mono (Gr.alloc (o := .lst vs) g hp).ff))
theorem cr_sortedD (hc : X.calm = true) : CallR X (.builtin "sorted") (callD (gx X) gSorted) := by
  refine (cr_sortedI.or (call_sortedDI hc)).weak fun xs H Q ⟨Z, W, ds, hW, g, r, h⟩ => ?_
  subst hW
  unfold gSorted at h
  split at h
  · rename_i ds
    obtain ⟨v, rfl, r1⟩ := rep1 r
    obtain ⟨a, vs, rfl, hs, rs⟩ := rep_lst r1
    cases e : allI ds with
    | none =>
      rw [e] at h
      exact h.elim
    | some ns =>
      rw [e] at h
      rw [allI_eq e] at rs
      rw [rs.ints_eq] at hs
      refine .inl ⟨a, ns, rfl, SqL.of (g.sub _ _ hs), fun ns' p p1 p2 hp => ?_⟩
      rw [srtI_of p1 p2]
      exact lst_new (n := 0) g h (Reps.ints _) p hp
  · rename_i kvs
    obtain ⟨h1, h⟩ := gd_wp h
    obtain ⟨v, rfl, r1⟩ := rep1 r
    obtain ⟨a, o, vs, rfl, hs, rs⟩ := rep_dic r1
    refine .inr ⟨a, _, kvs.map (·.1), rfl, .inr ⟨o, g.sub _ _ hs⟩, ?_, by rw [List.length_map]; exact Nat.blt_eq.mp h1, fun ns' p p1 p2 hp => ?_⟩
    · rw [List.map_fst_zip (by rw [rs.length, List.length_map, show (dkeys kvs).length = _ from List.length_map _]; exact Nat.le_refl _)]
      unfold dkeys
      rw [List.map_map]
      rfl
    · rw [srtI_of p1 p2]
      exact lst_new (n := 0) g h (Reps.ints _) p hp
  · exact h.elim
theorem cr_int1D : CallR X (.type "int") (callD (gx X) gInt1) := by
  refine call_int1.weak fun xs H Q ⟨Z, W, ds, hW, g, r, h⟩ => ?_
  subst hW
  unfold gInt1 at h
  split at h
  · obtain ⟨v, rfl, r1⟩ := rep1 r
    cases r1
    exact .inl ⟨_, rfl, h _ W.F W.H (Gr.refl g) (.int _)⟩
  · exact h.elim
theorem cr_absD : CallR X (.builtin "abs") (callD (gx X) gAbs) := by
  refine call_abs.weak fun xs H Q ⟨Z, W, ds, hW, g, r, h⟩ => ?_
  subst hW
  unfold gAbs at h
  split at h
  · obtain ⟨v, rfl, r1⟩ := rep1 r
    cases r1
    exact ⟨_, rfl, h _ W.F W.H (Gr.refl g) (.int _)⟩
  · exact h.elim
theorem cr_min2D (hc : X.calm = true) : CallR X (.builtin "min") (callD (gx X) gMin2) := by
  refine (call_min2 hc).weak fun xs H Q ⟨Z, W, ds, hW, g, r, h⟩ => ?_
  subst hW
  unfold gMin2 at h
  split at h
  · obtain ⟨v, w, rfl, r1, r2⟩ := rep2 r
    cases r1
    cases r2
    exact ⟨_, _, rfl, h _ W.F W.H (Gr.refl g) (.int _)⟩
  · exact h.elim
theorem cr_strD : CallR X (.type "str") (callD (gx X) gStr) := by
  refine call_str_int.weak fun xs H Q ⟨Z, W, ds, hW, g, r, h⟩ => ?_
  subst hW
  unfold gStr at h
  split at h
  · obtain ⟨h1, h⟩ := gd_wp h
    obtain ⟨v, rfl, r1⟩ := rep1 r
    cases r1
    have h1 := of_decide_eq_true h1
    refine ⟨_, rfl, ?_, h _ W.F W.H (Gr.refl g) (.str _)⟩
    have key : ∀ m : Nat, m ≤ 1000000 → m.log2 < 1920 := fun m hm => by
      by_cases q : m = 0
      · rw [q]
        decide
      · have : m.log2 < 20 := (Nat.log2_lt q).mpr (by omega)
        omega
    exact key _ h1
  · exact h.elim

/-! ### list(..), a new one -/
variable {a e c : Expr} {es : List Expr} {pos p p2 q : Pos} {fa : EnvD → M D} {fs : EnvD → M (List D)} {x : Str}
def nList (fs : EnvD → M (List D)) : EnvD → M (List D) := fun env => do
  let ds ← fs env
  gList ds
theorem dn_list (hc : X.calm = true) (hg : Gl X "list") (hm : X.mg "list" = none) (ha : PA X [e] (tDA (gx X) fs)) (he : starEach [e] X.env = (false, eval e X.env) :: starEach [] X.env := by rfl)
    (hpl : (backTo pos (starEach [] X.env)).any (·.1) = false := by rfl) : PE X (.Call (.Name "list" p) [e] [] pos) (tDn (gx X) (nList fs)) := by
  refine (pe_callTy (call_list_of.or (call_listD hc)) hg hm PyProof.Rows.boot_list ha (he := he) (hpl := hpl)).weak fun σ H Q ⟨Z, env, W, hW, ok, h⟩ => ?_
  subst hW
  refine ⟨Z, env, W, rfl, ok, M.wp_mono (fun n1 ds h1 vs F1 H1 g1 r1 => ?_) (wp_then h)⟩
  unfold gList at h1
  split at h1
  · obtain ⟨v, rfl, r2⟩ := rep1 r1
    obtain ⟨a, vs, rfl, hs, rs⟩ := rep_lst r2
    exact .inl ⟨a, vs, rfl, .inl (SqL.of (g1.gd.sub _ _ hs)), fun l hl => h1 l vs F1 _ (g1.trans (Gr.allocH g1.gd hl)) (g1.back hl) (g1.gd.noF hl) upd_same rs⟩
  · obtain ⟨v, rfl, r2⟩ := rep1 r1
    obtain ⟨a, vs, rfl, hs, rs⟩ := rep_tup r2
    exact .inl ⟨a, vs, rfl, .inr (ex_t g1.gd.sub hs), fun l hl => h1 l vs F1 _ (g1.trans (Gr.allocH g1.gd hl)) (g1.back hl) (g1.gd.noF hl) upd_same rs⟩
  · rename_i kvs
    obtain ⟨v, rfl, r2⟩ := rep1 r1
    obtain ⟨a, o, vs, rfl, hs, rs⟩ := rep_dic r2
    refine .inr ⟨a, _, rfl, .inr ⟨o, g1.gd.sub _ _ hs⟩, fun l hl => ?_⟩
    have el : (List.zip (dkeys kvs) vs).map (fun kv => kV kv.1) = kvs.map fun p => V.int p.1 := by
      have e1 : (List.zip (dkeys kvs) vs).map (·.1) = dkeys kvs := List.map_fst_zip (by rw [rs.length, List.length_map, show (dkeys kvs).length = _ from List.length_map _]; exact Nat.le_refl _)
      have e2 := congrArg (List.map kV) e1
      rw [List.map_map] at e2
      refine Eq.trans e2 ?_
      unfold dkeys
      rw [List.map_map]
      rfl
    rw [el]
    refine h1 l _ F1 _ (g1.trans (Gr.allocH g1.gd hl)) (g1.back hl) (g1.gd.noF hl) upd_same ?_
    have := Reps.ints (G := gx X) (Z := Z) (F := F1) (kvs.map (·.1))
    rw [List.map_map, List.map_map] at this
    exact this
  · exact h1.elim
/-- list(range(n)), tuple(range(n)) -/
def rngD (n : Int) : List D := (List.range n.toNat).map fun i => .int (i : Nat)
def nRng (fa : EnvD → M D) : EnvD → M (List D) := fun env => do
  let x ← fa env
  match x with
  | .int n => chk n.natAbs (.ret (rngD n))
  | _ => .bad
def eRngT (fa : EnvD → M D) : EnvD → M D := fun env => do
  let ds ← nRng fa env
  .ret (.tup ds)
theorem rgV_reps {G : Gx} {Z : Zs} {F : Hp} (n : Int) : Reps G Z F (rgV 0 n) (rngD n) := by
  have := Reps.ints (G := G) (Z := Z) (F := F) ((List.range n.toNat).map fun i : Nat => (i : Int))
  rw [List.map_map, List.map_map] at this
  have e1 : rgV 0 n = (List.range n.toNat).map (V.int ∘ fun i : Nat => (i : Int)) := by
    unfold rgV
    rw [Int.sub_zero]
    exact List.map_congr_left fun i _ => by
      show V.int (0 + (i : Int)) = V.int (i : Int)
      rw [Int.zero_add]
  rw [e1]
  exact this
theorem dn_listRg (hc : X.calm = true) (hg : Gl X "list") (hm : X.mg "list" = none) (hg2 : Gl X "range") (hm2 : X.mg "range" = none) (ha : PE X a (tD (gx X) fa)) (na : starEach [a] X.env = (false, eval a X.env) :: starEach [] X.env := by rfl)
    (na2 : starEach [.Call (.Name "range" p2) [a] [] q] X.env = (false, eval (.Call (.Name "range" p2) [a] [] q) X.env) :: starEach [] X.env := by rfl) : PE X (.Call (.Name "list" p) [.Call (.Name "range" p2) [a] [] q] [] pos) (tDn (gx X) (nRng fa)) := by
  refine (pe_listRg hc hg hm (prg_1 hg2 hm2 ha na) na2).weak fun σ H Q ⟨Z, env, W, hW, ok, h⟩ => ?_
  subst hW
  refine ⟨Z, env, W, rfl, ok, M.wp_mono (fun n1 d h1 v F1 H1 g1 r1 => ?_) (wp_then h)⟩
  split at h1
  · obtain ⟨h2, h1⟩ := chk_wp h1
    cases r1
    exact ⟨_, rfl, ⟨by omega, by omega, by omega, by omega, by omega⟩, fun l hl => h1 l _ F1 _ (g1.trans (Gr.allocH g1.gd hl)) (g1.back hl) (g1.gd.noF hl) upd_same (rgV_reps _)⟩
  · exact h1.elim
theorem de_tupRg (hc : X.calm = true) (hg : Gl X "tuple") (hm : X.mg "tuple" = none) (hg2 : Gl X "range") (hm2 : X.mg "range" = none) (ha : PE X a (tD (gx X) fa)) (na : starEach [a] X.env = (false, eval a X.env) :: starEach [] X.env := by rfl)
    (na2 : starEach [.Call (.Name "range" p2) [a] [] q] X.env = (false, eval (.Call (.Name "range" p2) [a] [] q) X.env) :: starEach [] X.env := by rfl) : PE X (.Call (.Name "tuple" p) [.Call (.Name "range" p2) [a] [] q] [] pos) (tD (gx X) (eRngT fa)) := by
  refine (pe_tupRg hc hg hm (prg_1 hg2 hm2 ha na) na2).weak fun σ H Q ⟨Z, env, W, hW, ok, h⟩ => ?_
  subst hW
  refine ⟨Z, env, W, rfl, ok, M.wp_mono (fun n1 d h1 v F1 H1 g1 r1 => ?_) (wp_then (wp_then h))⟩
  split at h1
  · obtain ⟨h2, h1⟩ := chk_wp h1
    cases r1
    refine ⟨_, rfl, ⟨by omega, by omega, by omega, by omega, by omega⟩, fun p hp => ?_⟩
    exact h1 (.ref p) _ _ (g1.trans (Gr.alloc g1.gd (o := .tup (rgV 0 _)) hp)) (.tup (SqT.of upd_same) (rgV_reps _))
  · exact h1.elim

/-! ### isinstance -/
def tyD : D → Option String
  | .non => some "NoneType"
  | .bl _ => some "bool"
  | .int _ => some "int"
  | .str _ => some "str"
  | .tup _ => some "tuple"
  | .lst _ => some "list"
  | .dic _ => some "dict"
  | _ => none
def isiB (T a : String) : Bool := match kitB a T with
  | some b => b
  | none => false
theorem tyD_x {Z : Zs} {F H : Hp} {v : V} {d : D} {t : String} (e : Ex F H) (r : Rep (gx X) Z F v d) (h : tyD d = some t) : TyX X.K H v (.type t) := by
  cases r with
  | non =>
    cases h
    exact .base .non
  | bl b =>
    cases h
    exact .base (.bl b)
  | int i =>
    cases h
    exact .base (.int i)
  | str x =>
    cases h
    exact .base (.str x)
  | @tup a vs ds s _ =>
    cases h
    rcases ex_t e s with (s | ⟨o, s⟩) | s
    · exact .base (.tup s)
    · exact .fTuple s
    · obtain ⟨o, u, n, h1, h2, h3, _⟩ := s
      first | exact .kTuple h1 h2 | exact .kTuple h1 h3
  | @lst a vs ds s _ =>
    cases h
    exact .base (.lst (e _ _ s))
  | @dic a o ks vs kvs s _ _ =>
    cases h
    exact .fDict (e _ _ s)
  | _ => cases h
end
end Dv
end
section
set_option linter.all false
set_option maxRecDepth 100000
set_option maxHeartbeats 4000000
/-! A8: isinstance; len(set(..)); list.index; the rest of the operators. -/
namespace Dv
open PySem PySem.Spec PyProof.Rows L2 Evl

def KitD (X : Cx) (H : Hp) (x : V) (t : String) : Prop := ∀ (pins : List (Addr × Obj)) (σ : L2.St) (s : Shared) (u : Value), Inv X pins σ H s → RelV x u → ∃ P : Heap → Prop, PySem.W.KitX X.K u (.type t) P ∧ P s.heap ∧ u ≠ .builtin "__main__.__loader__#opaque"
/-- the type's name -/
def tyN : D → Option String
  | .mix _ => some "dict"
  | d => tyD d
section
variable {X : Cx}
theorem kit_D {Z : Zs} {W : Wd} {v : V} {d : D} {t : String} (g : Gd Z W) (r : Rep (gx X) Z W.F v d) (h : tyN d = some t) : KitD X W.H v t := by
  intro pins σ s u I rv
  cases d with
  | mix ks =>
    cases h
    cases r with
    | @mix a _ _ e =>
      cases (show u = Value.ref a from rv)
      have z := (I.hok a _ (g.sub _ _ e)).2.1
      obtain ⟨_, kvs, _, o, _, _, ho, hx, _⟩ := z
      exact ⟨_, PySem.W.kitx_dict, ⟨o, ho, hx.1⟩, fun z => nomatch z⟩
  | _ => exact kit_of I rv (tyD_x g.sub r h)
def rIsiD (X : Cx) : List V → Hp → VK → Prop := fun xs H Q => ∃ (x : V) (T t : String) (b : Bool), xs = [x, .ty T] ∧ KitD X H x t ∧ kitB t T = some b ∧ Q (.bl b) H
theorem call_isiD : CallR X (.builtin "isinstance") (rIsiD X) := by
  intro pins s σ H xs us Q I r h
  obtain ⟨x, T, t, b, rfl, k, e, q⟩ := h
  obtain ⟨u1, u2, rfl, r1, r2⟩ := vals2 r
  cases (show u2 = Value.type T from r2)
  obtain ⟨P, Z, p, hx⟩ := k pins σ s u1 I r1
  exact PySem.W.kia_one Z I.kIn p (kit_ty e) hx fun tk => ⟨.bl b, H, I.tok tk, rfl, q⟩
def rIsiD2 (X : Cx) : List V → Hp → VK → Prop := fun xs H Q => ∃ (x : V) (tp : Addr) (T1 T2 t : String) (b1 b2 : Bool), xs = [x, .ref tp] ∧ H tp = some (.tup [.ty T1, .ty T2]) ∧ KitD X H x t ∧ kitB t T1 = some b1 ∧ kitB t T2 = some b2 ∧ Q (.bl (b1 || b2)) H
theorem call_isiD2 : CallR X (.builtin "isinstance") (rIsiD2 X) := by
  intro pins s σ H xs us Q I r h
  obtain ⟨x, tp, T1, T2, t, b1, b2, rfl, hT, k, e1, e2, q⟩ := h
  obtain ⟨u1, u2, rfl, r1, r2⟩ := vals2 r
  cases (show u2 = Value.ref tp from r2)
  obtain ⟨P, Z, p, hx⟩ := k pins σ s u1 I r1
  obtain ⟨_, its, rv, o, h1, h2, n, h3⟩ := (show ObjOk X.prog X.w H s.heap tp (.tup [.ty T1, .ty T2]) from I.hok tp _ hT)
  have e3 := ClsV.all (us := [Value.type T1, Value.type T2]) (.cons (.ty T1) (.cons (.ty T2) .nil)) rv
  subst e3
  obtain ⟨oc, od, dt, sl⟩ := o
  simp only at h2 h3
  subst h2 h3
  have e : PySem.W.kitAny X.K (.type t) [.type T1, .type T2] = some (b1 || b2) := by
    refine kitAny_cons (kit_ty e1) (fun hb => ?_) (fun hb => by rw [hb]; rfl)
    rw [hb, Bool.false_or]
    exact kitAny_cons (kit_ty e2) (fun hb => by rw [hb]; exact kitAny_nil) fun hb => hb
  exact PySem.W.kia_tup Z I.kIn p h1 e hx fun tk => ⟨.bl (b1 || b2), H, I.tok tk, rfl, q⟩
end
/-- is it an instance? -/
def isiN (T : String) : D → Option Bool := fun d => match tyN d with
  | some t => kitB t T
  | none => none
def isInt : D → Option Bool
  | .int _ | .bl _ => some true
  | .sti _ | .st => none
  | _ => some false
def isBl : D → Option Bool
  | .bl _ => some true
  | .sti _ | .st => none
  | _ => some false
def isTup : D → Option Bool
  | .tup _ => some true
  | .sti _ | .st => none
  | _ => some false
def isLst : D → Option Bool
  | .lst _ => some true
  | .sti _ | .st => none
  | _ => some false
def isDic : D → Option Bool
  | .dic _ | .mix _ => some true
  | .sti _ | .st => none
  | _ => some false
/-- the two agree -/
def Isi (T : String) (f : D → Option Bool) : Prop := ∀ d b, f d = some b → ∃ t, tyN d = some t ∧ kitB t T = some b
theorem isi_int : Isi "int" isInt := fun d b h => by
  cases d <;> cases h <;> exact ⟨_, rfl, by decide +kernel⟩
theorem isi_bl : Isi "bool" isBl := fun d b h => by
  cases d <;> cases h <;> exact ⟨_, rfl, by decide +kernel⟩
theorem isi_tup : Isi "tuple" isTup := fun d b h => by
  cases d <;> cases h <;> exact ⟨_, rfl, by decide +kernel⟩
theorem isi_lst : Isi "list" isLst := fun d b h => by
  cases d <;> cases h <;> exact ⟨_, rfl, by decide +kernel⟩
theorem isi_dic : Isi "dict" isDic := fun d b h => by
  cases d <;> cases h <;> exact ⟨_, rfl, by decide +kernel⟩
def gIsi (f : D → Option Bool) : D → M D := fun d => match f d with
  | some b => .ret (.bl b)
  | none => .bad
def gIsi2 (f g : D → Option Bool) : D → M D := fun d => match f d, g d with
  | some b, some c => .ret (.bl (b || c))
  | _, _ => .bad
section
variable {X : Cx} {e c c2 : Expr} {pos p tpos : Pos} {fa : EnvD → M D} {T T2 : String} {f f2 : D → Option Bool}
theorem de_isi (F : Isi T f) (hg : Gl X "isinstance") (hm : X.mg "isinstance" = none) (he : PE X e (tD (gx X) fa)) (hc : PE X c (tC (.ty T)))
    (h1 : starEach [e, c] X.env = (false, eval e X.env) :: starEach [c] X.env := by rfl) (h2 : starEach [c] X.env = (false, eval c X.env) :: starEach [] X.env := by rfl) (hpl : (backTo pos (starEach [c] X.env)).any (·.1) = false := by rfl) :
    PE X (.Call (.Name "isinstance" p) [e, c] [] pos) (tD (gx X) (eUn (gIsi f) fa)) := by
  refine (pe_callB call_isiD hg hm boot_isinstance (pa_cons he (pa_cons hc pa_nil h2) h1) (he := h1) (hpl := hpl)).weak fun σ H Q ⟨Z, env, W, hW, ok, h⟩ => ?_
  subst hW
  refine ⟨Z, env, W, rfl, ok, M.wp_mono (fun n1 d h1 v F1 H1 g1 r1 => ?_) (wp_then h)⟩
  unfold gIsi at h1
  cases e1 : f d with
  | none =>
    rw [e1] at h1
    exact h1.elim
  | some b =>
    rw [e1] at h1
    obtain ⟨t, t1, t2⟩ := F d b e1
    exact ⟨v, T, t, b, rfl, kit_D (W := ⟨F1, H1, n1⟩) g1.gd r1 t1, t2, h1 _ F1 H1 g1 (.bl b)⟩
theorem de_isi2 {k : Nat} (F : Isi T f) (F2 : Isi T2 f2) (hg : Gl X "isinstance") (hm : X.mg "isinstance" = none) (he : PE X e (tD (gx X) fa)) (hc : PE X c (tC (.ty T))) (hc2 : PE X c2 (tC (.ty T2)))
    (h1 : starEach [e, .Tuple [c, c2] k tpos] X.env = (false, eval e X.env) :: starEach [.Tuple [c, c2] k tpos] X.env := by rfl) (h2 : starEach [.Tuple [c, c2] k tpos] X.env = (false, eval (.Tuple [c, c2] k tpos) X.env) :: starEach [] X.env := by rfl)
    (h3 : starEach [c, c2] X.env = (false, eval c X.env) :: starEach [c2] X.env := by rfl) (h4 : starEach [c2] X.env = (false, eval c2 X.env) :: starEach [] X.env := by rfl)
    (hpl : (backTo pos (starEach [.Tuple [c, c2] k tpos] X.env)).any (·.1) = false := by rfl) :
    PE X (.Call (.Name "isinstance" p) [e, .Tuple [c, c2] k tpos] [] pos) (tD (gx X) (eUn (gIsi2 f f2) fa)) := by
  refine (pe_callB call_isiD2 hg hm boot_isinstance (pa_cons he (pa_cons (pe_tup (pa_cons hc (pa_cons hc2 pa_nil h4) h3)) pa_nil h2) h1) (he := h1) (hpl := hpl)).weak fun σ H Q ⟨Z, env, W, hW, ok, h⟩ => ?_
  subst hW
  refine ⟨Z, env, W, rfl, ok, M.wp_mono (fun n1 d h1 v F1 H1 g1 r1 => ?_) (wp_then h)⟩
  refine ⟨by show 2 ≤ sizeLine; decide, fun tp htp => ?_⟩
  unfold gIsi2 at h1
  split at h1
  · rename_i b b2 e1 e2
    obtain ⟨t, t1, t2⟩ := F d b e1
    obtain ⟨t', t1', t2'⟩ := F2 d b2 e2
    rw [t1] at t1'
    cases t1'
    have ga := Gr.allocH (W := ⟨F1, H1, n1⟩) (o := .tup [.ty T, .ty T2]) g1.gd htp
    exact ⟨v, tp, T, T2, t, b, b2, rfl, upd_same, kit_D (W := ⟨F1, upd H1 tp (.tup [.ty T, .ty T2]), n1⟩) ga.gd r1 t1, t2, t2', h1 _ F1 _ (g1.trans ga) (.bl _)⟩
  · exact h1.elim

/-! ### len(set(..)) -/
def dedI : List Int → List Int → List Int
  | acc, [] => acc
  | acc, n :: r => match hasI acc n with
    | true => dedI acc r
    | false => dedI (acc ++ [n]) r
theorem dedI_fold : ∀ (ns acc : List Int), ns.foldl step_dedup acc = dedI acc ns
  | [], acc => rfl
  | n :: r, acc => by
    have e : acc.any (· == n) = hasI acc n := by
      rw [hasI_eq]
      rw [Bool.eq_iff_iff]
      simp
    show List.foldl step_dedup (if acc.any (· == n) then acc else acc ++ [n]) r = _
    unfold dedI
    rw [e, dedI_fold]
    cases hasI acc n <;> rfl
theorem firstMet_ded (ns : List Int) : firstMet (fun i => ns.getD i 0) ns.length = dedI [] ns := by
  unfold firstMet
  have e : (List.range ns.length).map (fun i => ns.getD i 0) = ns := by
    apply List.ext_getElem?
    intro i
    rw [List.getElem?_map]
    by_cases h : i < ns.length
    · rw [List.getElem?_range h, List.getElem?_eq_getElem h]
      simp [List.getD_eq_getElem?_getD, h]
    · rw [List.getElem?_eq_none (by rw [List.length_range]; omega), List.getElem?_eq_none (by omega)]
      rfl
  rw [e]
  exact dedI_fold ns []
theorem dedI_mem (k : Int) : ∀ (ns acc : List Int), k ∈ dedI acc ns ↔ k ∈ acc ∨ k ∈ ns
  | [], acc => by
    unfold dedI
    simp
  | n :: r, acc => by
    unfold dedI
    cases e : hasI acc n with
    | true =>
      rw [dedI_mem k r acc]
      have e2 : n ∈ acc := by
        rw [hasI_eq] at e
        exact of_decide_eq_true e
      rw [List.mem_cons]
      refine ⟨fun h => h.elim .inl (fun q => .inr (.inr q)), fun h => h.elim .inl fun q => q.elim (fun z => .inl (z ▸ e2)) .inr⟩
    | false =>
      show k ∈ dedI (acc ++ [n]) r ↔ _
      rw [dedI_mem k r (acc ++ [n]), List.mem_append, List.mem_singleton, List.mem_cons, or_assoc]
theorem dedI_nodup : ∀ (ns acc : List Int), acc.Nodup → (dedI acc ns).Nodup
  | [], acc, h => h
  | n :: r, acc, h => by
    unfold dedI
    cases e : hasI acc n with
    | true => exact dedI_nodup r acc h
    | false =>
      rw [hasI_eq] at e
      have e := of_decide_eq_false e
      refine dedI_nodup r _ (List.nodup_append.mpr ⟨h, List.nodup_cons.mpr ⟨List.not_mem_nil, List.nodup_nil⟩, fun x hx y hy => ?_⟩)
      rw [List.mem_singleton] at hy
      subst hy
      exact fun z => e (z ▸ hx)
def eqIs : List Int → List Int → Bool
  | [], [] => true
  | i :: r, j :: t => iEq i j && eqIs r t
  | _, _ => false
theorem eqIs_iff : ∀ {a b : List Int}, eqIs a b = true ↔ a = b
  | [], [] => by simp [eqIs]
  | [], _ :: _ => by simp [eqIs]
  | _ :: _, [] => by simp [eqIs]
  | i :: r, j :: t => by
    show (iEq i j && eqIs r t) = true ↔ _
    rw [Bool.and_eq_true, iEq_iff, eqIs_iff, List.cons.injEq]
def hasL : List (List Int) → List Int → Bool
  | [], _ => false
  | i :: r, k => eqIs i k || hasL r k
theorem hasL_iff {k : List Int} : ∀ {ns : List (List Int)}, hasL ns k = true ↔ k ∈ ns
  | [] => by simp [hasL]
  | i :: r => by
    show (eqIs i k || hasL r k) = true ↔ _
    rw [Bool.or_eq_true, eqIs_iff, hasL_iff, List.mem_cons]
    exact ⟨fun h => h.elim (fun z => .inl z.symm) .inr, fun h => h.elim (fun z => .inl z.symm) .inr⟩
def dedL : List (List Int) → List (List Int) → List (List Int)
  | acc, [] => acc
  | acc, n :: r => match hasL acc n with
    | true => dedL acc r
    | false => dedL (acc ++ [n]) r
theorem dedL_mem (k : List Int) : ∀ (ns acc : List (List Int)), k ∈ dedL acc ns ↔ k ∈ acc ∨ k ∈ ns
  | [], acc => by
    unfold dedL
    simp
  | n :: r, acc => by
    unfold dedL
    cases e : hasL acc n with
    | true =>
      rw [dedL_mem k r acc]
      have e2 : n ∈ acc := hasL_iff.mp e
      rw [List.mem_cons]
      refine ⟨fun h => h.elim .inl (fun q => .inr (.inr q)), fun h => h.elim .inl fun q => q.elim (fun z => .inl (z ▸ e2)) .inr⟩
    | false =>
      show k ∈ dedL (acc ++ [n]) r ↔ _
      rw [dedL_mem k r (acc ++ [n]), List.mem_append, List.mem_singleton, List.mem_cons, or_assoc]
theorem dedL_nodup : ∀ (ns acc : List (List Int)), acc.Nodup → (dedL acc ns).Nodup
  | [], acc, h => h
  | n :: r, acc, h => by
    unfold dedL
    cases e : hasL acc n with
    | true => exact dedL_nodup r acc h
    | false =>
      have e : n ∉ acc := fun z => by
        rw [hasL_iff.mpr z] at e
        cases e
      refine dedL_nodup r _ (List.nodup_append.mpr ⟨h, List.nodup_cons.mpr ⟨List.not_mem_nil, List.nodup_nil⟩, fun x hx y hy => ?_⟩)
      rw [List.mem_singleton] at hy
      subst hy
      exact fun z => e (z ▸ hx)
theorem same_len {α : Type} [DecidableEq α] {a b : List α} (ha : a.Nodup) (hb : b.Nodup) (h : ∀ x, x ∈ a ↔ x ∈ b) : a.length = b.length :=
  Nat.le_antisymm (ha.length_le_of_subset fun x hx => (h x).mp hx) (hb.length_le_of_subset fun x hx => (h x).mpr hx)
def gLenSet : D → M D
  | .tup ds => match allI ds with
    | some ns => gd (Nat.ble ns.length 900) (.ret (.int ((dedI [] ns).length : Nat)))
    | none => .bad
  | .lst ds => match allI ds with
    | some ns => gd (Nat.ble ns.length 900) (.ret (.int ((dedI [] ns).length : Nat)))
    | none => match allT ds with
      | some ks => gd (Nat.blt ks.length 64) (.ret (.int ((dedL [] ks).length : Nat)))
      | none => .bad
  | _ => .bad
end
end Dv
end
section
set_option linter.all false
set_option maxRecDepth 100000
set_option maxHeartbeats 4000000
/-! A9: len(set(..)), list.index. -/
namespace Dv
open PySem PySem.Spec PyProof.Rows L2 Evl
section
variable {X : Cx} {a e o : Expr} {es : List Expr} {pos p p2 q : Pos} {fa fo : EnvD → M D} {fs : EnvD → M (List D)}
theorem tup_refs {G : Gx} {Z : Zs} {F H : Hp} (e : Ex F H) : ∀ {vs : List V} {ks : List (List Int)}, Reps G Z F vs (ks.map fun is => D.tup (is.map D.int)) → ∃ ps : List (Addr × List Int), vs = ps.map (fun p => V.ref p.1) ∧ ps.map (·.2) = ks ∧ ∀ p ∈ ps, SqT G.K H p.1 (p.2.map V.int)
  | _, [], .nil => ⟨[], rfl, rfl, fun _ h => nomatch h⟩
  | _, k :: ks, .cons r t => by
    obtain ⟨a, us, rfl, hs, rs⟩ := rep_tup r
    rw [rs.ints_eq] at hs
    obtain ⟨ps, h1, h2, h3⟩ := tup_refs e t
    refine ⟨(a, k) :: ps, by rw [h1]; rfl, by rw [List.map_cons, h2], fun p hp => ?_⟩
    rcases List.mem_cons.mp hp with rfl | hp
    · exact ex_t e hs
    · exact h3 p hp
def rLenSet (X : Cx) (x : V) (H : Hp) (Q : VK) : Prop :=
  (∃ (l : Addr) (ns : List Int), x = .ref l ∧ (SqL X.K H l (ns.map V.int) ∨ SqT X.K H l (ns.map V.int)) ∧ ns.length ≤ 900 ∧ Q (.int ((dedI [] ns).length : Nat)) H) ∨
  ∃ (l : Addr) (ks : List (Addr × List Int)), x = .ref l ∧ SqL X.K H l (ks.map fun p => V.ref p.1) ∧ (∀ p ∈ ks, SqT X.K H p.1 (p.2.map V.int)) ∧ ks.length < 64 ∧ Q (.int ((dedL [] (ks.map (·.2))).length : Nat)) H
theorem len_set {pins : List (Addr × Obj)} {σ : L2.St} {H : Hp} {s : Shared} {x : V} {v : Value} {Q : VK} (hc : X.calm = true) (hu : X.A.units + 64 < cLine) (I : Inv X pins σ H s) (r : RelV x v) (h : rLenSet X x H Q) :
    wpAny (model X.prog X.w) X.A (call (.type "set") [v]) (fun u s1 => wpAny (model X.prog X.w) X.A (call (.builtin "len") [u]) (EP X pins σ Q) X.xe s1) X.xe s := by
  rcases h with ⟨l, ns, rfl, hq | hq, hl, q⟩ | ⟨l, ks, rfl, hq, hk, hl, q⟩
  · cases r
    obtain ⟨its, rv, pl, hz⟩ := I.list hq
    have hlen : its.toArray.size = ns.length := by rw [List.size_toArray, ← rv.length, List.length_map]
    refine call_set_list (I.ok.hd hc) pl.isList (by simpa using RZ.intsAre_vals rv) (by rw [hlen]; unfold scanBound; omega) fun h' tk hS hk => ?_
    rw [hlen, firstMet_ded] at hS
    obtain ⟨o, es, ep, t, ho, hex, hd, _, _, _, hf, hn⟩ := hS
    have I2 : Inv X pins σ H { s with heap := h', toks := tk } := I.kept fun b o e => hk b o (Heap.lt_size e) e
    have hb : (dedI [] ns).length ≤ ns.length := (dedI_nodup ns [] List.nodup_nil).length_le_of_subset fun x hx => ((dedI_mem x ns []).mp hx).elim (fun z => nomatch z) id
    exact call_len_set ho hex hd hf (by rw [hn]; omega) ⟨.int _, H, I2.tok _, ⟨_, by rw [hn]⟩, q⟩
  · cases r
    obtain ⟨its, rv, pl, hz⟩ := I.tuple hq
    refine call_set_tupI ns (I.ok.hd hc) pl (by simpa using RZ.intsAre_vals rv) (by unfold scanBound; omega) fun h' tk c hS hcl hk => ?_
    obtain ⟨o, es, ep, t, ho, hex, hd, g, nd, hm, hb, hf, hn, _⟩ := hS
    have I2 : Inv X pins σ H { s with heap := h', toks := tk } := I.kept hk
    have e1 : es.size = (dedI [] ns).length := by
      rw [← same_len nd (dedI_nodup ns [] List.nodup_nil) fun x => ?_, List.length_map, Array.length_toList]
      rw [dedI_mem, ← hm x]
      simp
    exact call_len_set ho hex hd hf (by rw [hn]; omega) ⟨.int _, H, I2.tok _, ⟨_, by rw [e1]⟩, q⟩
  · cases r
    obtain ⟨its, rv, pl, hz⟩ := I.list hq
    refine call_set_tups (P := X.prog) (w := X.w) ks (I.ok.hd hc) pl.isList (by simpa using refs_of_vals rv) (fun p hp => I.isT (hk p hp)) hl (by omega) fun h' tk L es ep t R g k => ?_
    have I2 : Inv X pins σ H { s with heap := h', toks := tk } := I.kept k
    obtain ⟨o, ho, hex, hd⟩ := R.ob
    have e1 : es.size = (dedL [] (ks.map (·.2))).length := by
      have e0 : es.size = (L.map (·.2)).length := by rw [R.size (s := { s with heap := h', toks := tk }), List.length_map]
      rw [e0]
      refine same_len R.nd (dedL_nodup _ [] List.nodup_nil) fun x => ?_
      rw [dedL_mem]
      refine ⟨fun h => .inr ?_, fun h => h.elim (fun z => nomatch z) fun h => ?_⟩
      · obtain ⟨p, hp, e⟩ := List.mem_map.mp h
        exact List.mem_map.mpr ⟨p, List.take_length (l := ks) ▸ g.sub p hp, e⟩
      · obtain ⟨p, hp, e⟩ := List.mem_map.mp h
        rw [← e]
        exact g.all p (by rw [List.take_length]; exact hp)
    exact call_len_set ho hex hd (R.fits (s := { s with heap := h', toks := tk })) (by rw [R.size (s := { s with heap := h', toks := tk })]; have := R.few; omega) ⟨.int _, H, I2.tok _, ⟨_, by rw [e1]⟩, q⟩
def eLenSet (fa : EnvD → M D) : EnvD → M D := eUn gLenSet fa
theorem de_lenSet (hc : X.calm = true) (hu : X.A.units + 64 < cLine) (hg : Gl X "len") (hm : X.mg "len" = none) (hg2 : Gl X "set") (hm2 : X.mg "set" = none) (ha : PE X a (tD (gx X) fa)) (na : starEach [a] X.env = (false, eval a X.env) :: starEach [] X.env := by rfl) :
    PE X (.Call (.Name "len" p) [.Call (.Name "set" p2) [a] [] q] [] pos) (tD (gx X) (eLenSet fa)) := by
  refine ⟨fun pins s σ H Q I h => ?_⟩
  refine Call_ (ld_blt I hg hm boot_len ?_)
  refine PyProof.Rows.callWith_builtin1 (PyProof.Rows.args_cons ?_ rfl) rfl rfl
  refine Call_ (ld_blt I hg2 hm2 boot_set ?_)
  obtain ⟨Z, env, W, hW, ok, h⟩ := h
  subst hW
  have h' : tD (gx X) fa σ W.H fun v H1 => rLenSet X v H1 Q := by
    refine ⟨Z, env, W, rfl, ok, M.wp_mono (fun n1 d h1 v F1 H1 g1 r1 => ?_) (wp_then h)⟩
    unfold gLenSet at h1
    split at h1
    · rename_i ds
      obtain ⟨l, vs, rfl, hs, rs⟩ := rep_tup r1
      cases e : allI ds with
      | none =>
        rw [e] at h1
        exact h1.elim
      | some ns =>
        rw [e] at h1
        obtain ⟨hl, h1⟩ := gd_wp h1
        rw [allI_eq e] at rs
        rw [rs.ints_eq] at hs
        exact .inl ⟨l, ns, rfl, .inr (ex_t g1.gd.sub hs), Nat.le_of_ble_eq_true hl, h1 _ F1 H1 g1 (.int _)⟩
    · rename_i ds
      obtain ⟨l, vs, rfl, hs, rs⟩ := rep_lst r1
      cases e : allI ds with
      | some ns =>
        rw [e] at h1
        obtain ⟨hl, h1⟩ := gd_wp h1
        rw [allI_eq e] at rs
        rw [rs.ints_eq] at hs
        exact .inl ⟨l, ns, rfl, .inl (SqL.of (g1.gd.sub _ _ hs)), Nat.le_of_ble_eq_true hl, h1 _ F1 H1 g1 (.int _)⟩
      | none =>
        rw [e] at h1
        cases e2 : allT ds with
        | none =>
          rw [e2] at h1
          exact h1.elim
        | some ks =>
          rw [e2] at h1
          obtain ⟨hl, h1⟩ := gd_wp h1
          rw [allT_eq e2] at rs
          obtain ⟨ps, h2, h3, h4⟩ := tup_refs g1.gd.sub rs
          subst h2 h3
          rw [List.length_map] at hl
          exact .inr ⟨l, ps, rfl, SqL.of (g1.gd.sub _ _ hs), h4, Nat.blt_eq.mp hl, h1 _ F1 H1 g1 (.int _)⟩
    · exact h1.elim
  refine PyProof.Rows.callWith_type1 (PyProof.Rows.args_cons (thn (ha.run pins s σ W.H _ I h') fun v s1 ⟨x, H1, I1, r1, q1⟩ => PyProof.Rows.args_nil ?_) na) na rfl
  exact thn (len_set hc hu I1 r1 q1) fun u s2 hq => PyProof.Rows.args_nil hq

/-! ### list.index -/
def findEq (d : D) : Nat → List D → Option Nat
  | _, [] => none
  | i, z :: r => match eqD z d with
    | true => some i
    | false => findEq d (i + 1) r
theorem findEq_some (d : D) : ∀ (zs : List D) (i j : Nat), findEq d i zs = some j → ∃ k z, j = i + k ∧ zs[k]? = some z ∧ eqD z d = true ∧ ∀ m z', m < k → zs[m]? = some z' → eqD z' d = false
  | [], _, _, h => nomatch h
  | z :: r, i, j, h => by
    unfold findEq at h
    cases e : eqD z d with
    | true =>
      rw [e] at h
      cases h
      exact ⟨0, z, rfl, rfl, e, fun m z' hm => absurd hm (Nat.not_lt_zero m)⟩
    | false =>
      rw [e] at h
      obtain ⟨k, y, h1, h2, h3, h4⟩ := findEq_some d r (i + 1) j h
      refine ⟨k + 1, y, by omega, by simpa using h2, h3, fun m z' hm hz => ?_⟩
      cases m with
      | zero =>
        simp at hz
        rw [← hz]
        exact e
      | succ m => exact h4 m z' (by omega) (by simpa using hz)
def gIndex : D → D → M D
  | .lst zs, d => gd (cmD (.lst zs) && cmD d) (match findEq d 0 zs with
    | some j => .ret (.int (j : Nat))
    | none => .bad)
  | _, _ => .bad
theorem toPs_get (zs : List D) (j : Nat) : (toPs zs)[j]? = (zs[j]?).map toP := by
  rw [toPs_map, List.getElem?_map]
theorem okDs_get : ∀ {zs : List D} {j : Nat} {z : D}, okDs zs = true → zs[j]? = some z → okD z = true
  | [], _, _, _, h => by simp at h
  | y :: r, 0, z, h, e => by
    simp at e
    subst e
    exact (Bool.and_eq_true_iff.mp h).1
  | y :: r, j + 1, z, h, e => okDs_get (Bool.and_eq_true_iff.mp h).2 (by simpa using e)
def eIndex (fo fa : EnvD → M D) : EnvD → M D := fun env => do
  let x ← fo env
  match x with
  | .lst zs => do
    let d ← fa env
    gIndex (.lst zs) d
  | _ => .bad
theorem de_index {apos : Pos} (hu : X.A.units + 65 < cLine) (ho : PE X o (tD (gx X) fo)) (ha : PE X e (tD (gx X) fa))
    (hbase : attributeBase o "index" X.env (eval o X.env) = eval o X.env := by rfl)
    (hfew : ((backTo pos (starEach [e] X.env)).all (fun x => !x.1) && (backToKw pos (keywordEach [] X.env)).all (fun x => x.1.isSome)
      && decide ([e].length + ([] : List Keyword).length + (if ([] : List Keyword).isEmpty then 0 else 1) < 30)) = true := by rfl)
    (hline : (apos.endLine == pos.line) = true := by rfl) (hs : starEach [e] X.env = (false, eval e X.env) :: starEach [] X.env := by rfl) (hplain : (backTo pos (starEach [] X.env)).any (·.1) = false := by rfl) :
    PE X (.Call (.Attribute o "index" apos) [e] [] pos) (tD (gx X) (eIndex fo fa)) := by
  refine (pe_bm PySem.F.plainAttrs_list PySem.F.slot_list_index PySem.F.type_list_index (mt_indexD hu) ho (pa_cons ha pa_nil hs) hbase hfew hline hs hplain).weak fun σ H Q ⟨Z, env, W, hW, ok, h⟩ => ?_
  subst hW
  refine ⟨Z, env, W, rfl, ok, M.wp_mono (fun n1 d h1 v F1 H1 g1 r1 => ?_) (wp_then h)⟩
  split at h1
  · rename_i zs
    obtain ⟨a, vs, rfl, hs, rs⟩ := rep_lst r1
    refine ⟨.inl ⟨rfl, vs, SqL.of (g1.gd.sub _ _ hs)⟩, ?_⟩
    refine ⟨Z, env, ⟨F1, H1, n1⟩, rfl, ok.step g1, M.wp_mono (fun n2 d2 h2 v2 F2 H2 g2 r2 => ?_) (wp_then h1)⟩
    obtain ⟨c1, h2⟩ := gd_wp h2
    obtain ⟨c1, c2⟩ := Bool.and_eq_true_iff.mp c1
    have k1 : okDs zs = true := (Bool.and_eq_true_iff.mp c1).1
    have k2 : okD d2 = true := (Bool.and_eq_true_iff.mp c2).1
    cases e : findEq d2 0 zs with
    | none =>
      rw [e] at h2
      exact h2.elim
    | some j =>
      rw [e] at h2
      obtain ⟨k, z, h3, h4, h5, h6⟩ := findEq_some d2 zs 0 j e
      rw [Nat.zero_add] at h3
      subst h3
      have sh := shaped_toP c1
      have dl := (r1.mono g2.ff).dp g2.gd.sub (show okD (.lst zs) = true from k1)
      simp only [toP] at sh dl
      refine ⟨a, v2, toP d2, toPs zs, j, toP z, rfl, rfl, dl, r2.dp g2.gd.sub k2, sh, shaped_toP c2, by rw [toPs_get, h4]; rfl, by rw [eqv_toP z d2 (okDs_get k1 h4) k2]; exact h5, fun m z' hm hz => ?_, h2 _ F2 H2 (g1.trans g2) (.int _)⟩
      rw [toPs_get] at hz
      cases e7 : zs[m]? with
      | none =>
        rw [e7] at hz
        cases hz
      | some y =>
        rw [e7] at hz
        cases hz
        rw [eqv_toP y d2 (okDs_get k1 e7) k2]
        exact h6 m y hm e7
  · exact h1.elim
end
end Dv
end
section
set_option linter.all false
set_option maxRecDepth 100000
set_option maxHeartbeats 4000000
/-! A10: dicts: comprehensions, dict(..), d[k] = v, d.pop(k). -/
namespace Dv
open PySem PySem.Spec PyProof.Rows L2 Evl

def setD : List (Int × D) → Int → D → List (Int × D)
  | [], _, _ => []
  | (i, e) :: r, k, d => match iEq i k with
    | true => (i, d) :: setD r k d
    | false => (i, e) :: setD r k d
def putD (kvs : List (Int × D)) (k : Int) (d : D) : List (Int × D) := match hasD kvs k with
  | true => setD kvs k d
  | false => kvs ++ [(k, d)]
def dropD : List (Int × D) → Int → List (Int × D)
  | [], _ => []
  | (i, e) :: r, k => match iEq i k with
    | true => dropD r k
    | false => (i, e) :: dropD r k
section
variable {G : Gx} {Z : Zs} {F : Hp}
theorem any_has : ∀ {kvs : List (Int × D)} {vs : List V} {k : Int}, vs.length = kvs.length → ((List.zip (dkeys kvs) vs).any fun kv => decide (kv.1 = Sum.inl k)) = hasD kvs k
  | [], _, _, _ => rfl
  | (i, d) :: r, [], _, h => by simp at h
  | (i, d) :: r, v :: vs, k, h => by
    show (decide ((Sum.inl i : Key) = Sum.inl k) || (List.zip (dkeys r) vs).any (fun kv => decide (kv.1 = Sum.inl k))) = (iEq i k || hasD r k)
    rw [any_has (by simpa using h)]
    congr 1
    cases e : iEq i k with
    | true => exact decide_eq_true (congrArg _ (iEq_iff.mp e))
    | false => exact decide_eq_false fun z => iEq_no.mp e (Sum.inl.inj z)
theorem set_reps {k : Int} {w : V} {d : D} (rw' : Rep G Z F w d) : ∀ {kvs : List (Int × D)} {vs : List V}, Reps G Z F vs (kvs.map (·.2)) → ∃ us, (List.zip (dkeys kvs) vs).map (fun kv => if kv.1 = Sum.inl k then (kv.1, w) else kv) = List.zip (dkeys (setD kvs k d)) us ∧ Reps G Z F us ((setD kvs k d).map (·.2))
  | [], _, .nil => ⟨[], rfl, .nil⟩
  | (i, e) :: r, _, .cons (v := v) (vs := vs) rv rt => by
    obtain ⟨us, h1, h2⟩ := set_reps rw' rt
    unfold setD
    cases q : iEq i k with
    | true =>
      refine ⟨w :: us, ?_, .cons rw' h2⟩
      show (if (Sum.inl i : Key) = Sum.inl k then ((Sum.inl i : Key), w) else (Sum.inl i, v)) :: _ = (Sum.inl i, w) :: List.zip (dkeys (setD r k d)) us
      rw [if_pos (congrArg _ (iEq_iff.mp q)), ← h1]
      rfl
    | false =>
      refine ⟨v :: us, ?_, .cons rv h2⟩
      show (if (Sum.inl i : Key) = Sum.inl k then ((Sum.inl i : Key), w) else (Sum.inl i, v)) :: _ = (Sum.inl i, v) :: List.zip (dkeys (setD r k d)) us
      rw [if_neg (fun z => iEq_no.mp q (Sum.inl.inj z)), ← h1]
      rfl
theorem put_reps {k : Int} {w : V} {d : D} (rw' : Rep G Z F w d) {kvs : List (Int × D)} {vs : List V} (r : Reps G Z F vs (kvs.map (·.2))) : ∃ us, putK (List.zip (dkeys kvs) vs) (Sum.inl k) w = List.zip (dkeys (putD kvs k d)) us ∧ Reps G Z F us ((putD kvs k d).map (·.2)) := by
  have hl : vs.length = kvs.length := by rw [r.length, List.length_map]
  unfold putK putD
  rw [any_has hl]
  cases e : hasD kvs k with
  | true =>
    rw [if_pos rfl]
    exact set_reps rw' r
  | false =>
    rw [if_neg Bool.false_ne_true]
    refine ⟨vs ++ [w], ?_, ?_⟩
    · unfold dkeys
      rw [List.map_append, List.zip_append (by rw [List.length_map, hl])]
      rfl
    · rw [List.map_append]
      exact r.append (.cons rw' .nil)
theorem drop_reps {k : Int} : ∀ {kvs : List (Int × D)} {vs : List V}, Reps G Z F vs (kvs.map (·.2)) → ∃ us, dropK (List.zip (dkeys kvs) vs) (Sum.inl k : Key) = List.zip (dkeys (dropD kvs k)) us ∧ Reps G Z F us ((dropD kvs k).map (·.2))
  | [], _, .nil => ⟨[], rfl, .nil⟩
  | (i, e) :: r, _, .cons (v := v) (vs := vs) rv rt => by
    obtain ⟨us, h1, h2⟩ := drop_reps (k := k) rt
    unfold dropK at h1 ⊢
    unfold dropD
    cases q : iEq i k with
    | true =>
      refine ⟨us, ?_, h2⟩
      show List.filter _ ((Sum.inl i, v) :: List.zip (dkeys r) vs) = _
      rw [List.filter_cons_of_neg (by simp [iEq_iff.mp q]), h1]
    | false =>
      refine ⟨v :: us, ?_, .cons rv h2⟩
      show List.filter _ ((Sum.inl i, v) :: List.zip (dkeys r) vs) = (Sum.inl i, v) :: List.zip (dkeys (dropD r k)) us
      rw [List.filter_cons_of_pos (by simp [iEq_no.mp q]), h1]
end
theorem setD_len : ∀ (kvs : List (Int × D)) (k : Int) (d : D), (setD kvs k d).length = kvs.length
  | [], _, _ => rfl
  | (i, e) :: r, k, d => by
    unfold setD
    cases iEq i k <;> exact congrArg (· + 1) (setD_len r k d)
theorem putD_len (kvs : List (Int × D)) (k : Int) (d : D) : (putD kvs k d).length ≤ kvs.length + 1 := by
  unfold putD
  cases hasD kvs k with
  | true =>
    show (setD kvs k d).length ≤ _
    rw [setD_len]
    omega
  | false =>
    show (kvs ++ [(k, d)]).length ≤ _
    rw [List.length_append]
    exact Nat.le_refl _
def asI : D → M Int
  | .int i => .ret i
  | _ => .bad
theorem asI_wp {d : D} {k : Nat} {Q : Nat → Int → Prop} (h : (asI d).wp k Q) : ∃ b, d = .int b ∧ Q k b := by
  cases d with
  | int b => exact ⟨b, rfl, h⟩
  | _ => exact h.elim

/-! ### {k: v for ..} -/
def goDc (vs : List Nat) (tg : TgF) (ft : EnvD → M Bool) (fk fe : EnvD → M D) (env : EnvD) : List D → List (Int × D) → M (List (Int × D))
  | [], acc => .ret acc
  | d :: r, acc => match tg d (wipeD env vs) with
    | none => .bad
    | some env1 => do
      let b ← ft env1
      match b with
      | true => do
        let x ← fk env1
        let k ← asI x
        let y ← fe env1
        goDc vs tg ft fk fe env r (putD acc k y)
      | false => goDc vs tg ft fk fe env r acc
def nDc (vs : List Nat) (fi : EnvD → M (List D)) (tg : TgF) (ft : EnvD → M Bool) (fk fe : EnvD → M D) : EnvD → M (List (Int × D)) := fun env => do
  let ds ← fi env
  chk ds.length (goDc vs tg ft fk fe env ds [])
section
variable {X : Cx}
theorem dc_r {G : Gx} {vs is : List Nat} {fi : EnvD → M (List D)} {g : TG} {tg : TgF} {ft : EnvD → M Bool} {fk fe : EnvD → M D} {σ : L2.St} {H : Hp} {Q : VK} (tr : TgR G g is tg) (hv : ∀ i ∈ is, i ∈ vs) (h : tDd G (nDc vs fi tg ft fk fe) σ H Q) :
    tDc (iD G fi) g (tDT G ft) (tD G fk) (tD G fe) vs σ H Q := by
  obtain ⟨Z, env, W, hW, ok, h⟩ := h
  subst hW
  refine ⟨Z, env, W, rfl, ok, M.wp_mono (fun n1 ds h1 J F1 H1 g1 it => ?_) (wp_then h)⟩
  obtain ⟨hlen, h1⟩ := chk_wp h1
  intro Da hD
  have nz : ¬ Z.has Da := g1.gd.noHas hD
  let End : Nat → List (Int × D) → Prop := fun n2 kvs => ∀ a ws F'' H'', Gr Z W ⟨F'', H'', n2⟩ → W.H a = none → F'' a = none → H'' a = some (.dK (List.zip (kvs.map fun p => (Sum.inl p.1 : Key)) ws)) → Reps G Z F'' ws (kvs.map (·.2)) → Q (.ref a) H''
  refine ⟨fun i m H' => m = ds.length - i ∧ i ≤ ds.length ∧ ∃ F' n' accV accD, Gr Z ⟨F1, H1, n1⟩ ⟨F', H', n'⟩ ∧ F' Da = none ∧ H' Da = some (.dK (List.zip (dkeys accD) accV)) ∧ Reps G Z F' accV (accD.map (·.2)) ∧ accD.length ≤ i ∧
    (goDc vs tg ft fk fe env (ds.drop i) accD).wp n' End,
    ⟨_, rfl, Nat.zero_le _, F1, n1, [], [], Gr.allocH g1.gd hD, g1.gd.noF hD, upd_same, .nil, Nat.le_refl _, h1⟩, ?_⟩
  rintro i m H' ⟨rfl, hi, F', n', accV, accD, g', hF', hH', ra, hal, hw⟩
  have gW := g1.trans g'
  obtain ⟨it1, it2⟩ := it i ⟨F', H', n'⟩ g'.ff g'.gd
  by_cases hlt : i < ds.length
  · have hd : ds[i]? = some ds[i] := List.getElem?_eq_getElem hlt
    obtain ⟨go, yl⟩ := it1 _ hd
    rw [List.drop_eq_getElem_cons hlt] at hw
    unfold goDc at hw
    cases ht : tg ds[i] (wipeD env vs) with
    | none =>
      rw [ht] at hw
      exact hw.elim
    | some env1 =>
      rw [ht] at hw
      refine .inr ⟨go, fun H'' => ∃ F'' n'' accV' accD', Gr Z ⟨F1, H1, n1⟩ ⟨F'', H'', n''⟩ ∧ F'' Da = none ∧ H'' Da = some (.dK (List.zip (dkeys accD') accV')) ∧ Reps G Z F'' accV' (accD'.map (·.2)) ∧ accD'.length ≤ i + 1 ∧
        (goDc vs tg ft fk fe env (ds.drop (i + 1)) accD').wp n'' End, fun H'' q => ⟨ds.length - (i + 1), by omega, rfl, hlt, q⟩, fun x H2 y => ?_⟩
      obtain ⟨F2, g2, rx⟩ := yl x H2 y
      have g12 := g'.trans g2
      have hF2 := g2.unk hH' hF'
      have hH2 := g2.hh _ _ hH' nz
      have okw : Ok G Z (wipeD env vs) (L2.wipe σ vs) ⟨F2, H2, n'⟩ := ⟨g2.gd, (ok.env.wipe vs).mono (gW.trans g2).ff⟩
      refine tr Z _ env1 _ ⟨F2, H2, n'⟩ x _ okw rx ht _ fun σ1 ok1 hwp => ⟨by rw [hwp vs hv, wipe_wipe], ?_⟩
      refine ⟨Z, env1, ⟨F2, H2, n'⟩, rfl, ok1, M.wp_mono (fun n3 b h3 F3 H3 g3 => ?_) (wp_then hw)⟩
      have hF3 := g3.unk hH2 hF2
      have hH3 := g3.hh _ _ hH2 nz
      have g13 := g12.trans g3
      cases b with
      | false => exact ⟨F3, n3, accV, accD, g13, hF3, hH3, (ra.mono g2.ff).mono g3.ff, by omega, h3⟩
      | true =>
        show tD G fk σ1 H3 _
        refine ⟨Z, env1, ⟨F3, H3, n3⟩, rfl, ok1.step g3, M.wp_mono (fun n4 y4 h4 v4 F4 H4 g4 r4 => ?_) (wp_then h3)⟩
        obtain ⟨k, rfl, h4⟩ := asI_wp (wp_then h4)
        have hF4 := g4.unk hH3 hF3
        have hH4 := g4.hh _ _ hH3 nz
        refine ⟨Z, env1, ⟨F4, H4, n4⟩, rfl, (ok1.step g3).step g4, M.wp_mono (fun n5 y5 h5 v5 F5 H5 g5 r5 => ?_) (wp_then h4)⟩
        have hF5 := g5.unk hH4 hF4
        have hH5 := g5.hh _ _ hH4 nz
        have ra5 := (((ra.mono g2.ff).mono g3.ff).mono g4.ff).mono g5.ff
        obtain ⟨us, e1, e2⟩ := put_reps (k := k) r5 ra5
        have hz : (List.zip (dkeys accD) accV).length ≤ accD.length := by
          rw [List.length_zip, show (dkeys accD).length = _ from List.length_map _]
          omega
        refine ⟨_, Sum.inl k, by cases r4; rfl, hH5, Nat.lt_of_lt_of_le (show (List.zip (dkeys accD) accV).length < 100001 by omega) (by decide), F5, n5, us, putD accD k y5, (((g13.trans g4).trans g5).poke hD hF5 nz), hF5, by rw [← e1]; exact upd_same, e2, ?_, h5⟩
        exact Nat.le_trans (putD_len accD k y5) (by omega)
  · have e : i = ds.length := by omega
    subst e
    rw [List.drop_length] at hw
    exact .inl ⟨it2 rfl, hw Da accV F' H' gW (g1.back hD) hF' hH' ra⟩
variable {kx vx tge iter : Expr} {ifs : List Expr} {scope : Scope} {own : List (Str × Nat)} {pos : Pos} {fi : EnvD → M (List D)} {tg : TgF} {is : List Nat} {ft : EnvD → M Bool} {fk fe : EnvD → M D} {g : TG}
theorem dd_dc (hc : X.calm = true) (hN : X.N.Nodup) (hi : PI X tge iter (iD (gx X) fi)) (ok : BlkOk X.N X.env.scope scope own)
    (hg : ∀ (s : Shared) (H : Hp) (C : Addr) (cl : List (Str × Addr)) (fp : List Addr), PG (X.blk s H scope (compEnvC scope cl C X.env) fp) tge g) (tr : TgR (gx X) g is tg) (hv : ∀ i ∈ is, i ∈ own.map (·.2))
    (ht : ∀ (s : Shared) (H : Hp) (C : Addr) (cl : List (Str × Addr)) (fp : List Addr), PTs (X.blk s H scope (compEnvC scope cl C X.env) fp) ifs (tDT (gx X) ft))
    (hk : ∀ (s : Shared) (H : Hp) (C : Addr) (cl : List (Str × Addr)) (fp : List Addr), PE (X.blk s H scope (compEnvC scope cl C X.env) fp) kx (tD (gx X) fk))
    (he : ∀ (s : Shared) (H : Hp) (C : Addr) (cl : List (Str × Addr)) (fp : List Addr), PE (X.blk s H scope (compEnvC scope cl C X.env) fp) vx (tD (gx X) fe)) (hs : ∀ x, foldedSetIterable iter X.env x = pure x := by intro _; rfl) :
    PE X (.DictComp kx vx [⟨tge, iter, ifs, 0⟩] scope pos) (tDd (gx X) (nDc (own.map (·.2)) fi tg ft fk fe)) :=
  (pe_dc hc hN hi ok hg ht hk he hs).weak fun σ H Q h => dc_r tr hv h
end
end Dv
end
section
set_option linter.all false
set_option maxRecDepth 100000
set_option maxHeartbeats 4000000
/-! B1: set comprehensions with one for or two, whatever the set holds (Ac: what stands at the set's place, how an item is added). -/
namespace Dv
open PySem PySem.Spec PyProof.Rows L2 Evl

def freshSet (w : World) : Obj := { cls := .type "set", dict := none, data := .set #[] 0 (.fresh 0 0 (!w.params.followText "set-order")) }
/-- an accumulator: the new set, what adding does -/
structure Ac (P : Program) (w : World) (K : PySem.W.Frag) (hu : Around → Prop) (α : Type) where
  O : Addr → α → HO
  zero : α
  ads : V → Hp → α → (α → Prop) → Prop
  new : ∀ (H : Hp) (h : Heap), ObjOk P w H (h.push (freshSet w)) h.objs.size (O h.objs.size zero)
  add : ∀ (Y : Cx), Y.prog = P → Y.w = w → Y.K = K → hu Y.A → ∀ (pins : List (Addr × Obj)) (σ : L2.St) (H : Hp) (s : Shared) (E : Value → Shared → Prop) (D : Addr) (c : α) (y : V) (u : Value) (N : α → Prop) (Q : Value → Shared → Prop),
    Inv Y pins σ H s → H D = some (O D c) → RelV y u → ads y H c N → (∀ c' s', N c' → Inv Y pins σ (upd H D (O D c')) s' → Q .none s') → wpAny (model P w) Y.A (call (.builtin "set.add") [.ref D, u]) Q E s

section
variable {X : Cx} {α : Type} {hu : Around → Prop}
/-- {elt for tg in iter if ..} -/
def tSc1 (B : Ac X.prog X.w X.K hu α) (wi : TI) (g : TG) (tt : TT) (te : TE) (vs : List Nat) : TE := fun σ H Q => wi σ H fun J H1 => ∀ D, H1 D = none → ∃ W : Nat → Nat → Hp → Prop, (∃ m, W 0 m (upd H1 D (B.O D B.zero))) ∧ ∀ i m H, W i m H →
  (J.stop i H ∧ Q (.ref D) H) ∨ (J.go i H ∧ ∃ Nx : Hp → Prop, (∀ H', Nx H' → ∃ m', m' < m ∧ W (i + 1) m' H') ∧ ∀ x H', J.yld i H x H' → g x (wipe σ vs) H' fun σ2 H2 => wipe σ2 vs = wipe σ vs ∧ tt σ2 H2 fun b H3 =>
    if b = true then te σ2 H3 fun y H4 => ∃ c, H4 D = some (B.O D c) ∧ B.ads y H4 c fun c' => Nx (upd H4 D (B.O D c')) else Nx H3)
/-- {elt for tg in iter if .. for tg1 in iter1 if ..} -/
def tSc2 (B : Ac X.prog X.w X.K hu α) (wi : TI) (g : TG) (tt : TT) (wi1 : TI) (g1 : TG) (tt1 : TT) (te : TE) (vs vs1 : List Nat) : TE := fun σ H Q => wi σ H fun J H1 => ∀ D, H1 D = none → ∃ W : Nat → Nat → Hp → Prop, (∃ m, W 0 m (upd H1 D (B.O D B.zero))) ∧ ∀ i m H, W i m H →
  (J.stop i H ∧ Q (.ref D) H) ∨ (J.go i H ∧ ∃ Nx : Hp → Prop, (∀ H', Nx H' → ∃ m', m' < m ∧ W (i + 1) m' H') ∧ ∀ x H', J.yld i H x H' → g x (wipe σ vs) H' fun σ2 H2 => wipe σ2 vs = wipe σ vs ∧ tt σ2 H2 fun b H3 =>
    if b = true then wi1 σ2 H3 fun J1 H4 => ∃ W1 : Nat → Nat → Hp → Prop, (∃ m, W1 0 m H4) ∧ ∀ j k H, W1 j k H →
      (J1.stop j H ∧ Nx H) ∨ (J1.go j H ∧ ∃ Nx1 : Hp → Prop, (∀ H', Nx1 H' → ∃ k', k' < k ∧ W1 (j + 1) k' H') ∧ ∀ x H', J1.yld j H x H' → g1 x (wipe σ2 vs1) H' fun σ3 H5 => wipe σ3 vs1 = wipe σ2 vs1 ∧ tt1 σ3 H5 fun b H6 =>
        if b = true then te σ3 H6 fun y H7 => ∃ c, H7 D = some (B.O D c) ∧ B.ads y H7 c fun c' => Nx1 (upd H7 D (B.O D c')) else Nx1 H6)
    else Nx H3)

/-- what the block's loop starts from, and how one leaves it -/
structure Blk (X : Cx) (pins : List (Addr × Obj)) (σ : L2.St) (scope : Scope) (own : List (Str × Nat)) (s3 : Shared) (H3 : Hp) (ce : Env) (fp : List Addr) (tn : Nat → Heap → Prop) (s4 : Shared) : Prop where
  inv : Inv (X.blk s3 H3 scope ce fp) [] (wipe σ (own.map (·.2))) H3 s4
  tn0 : tn 0 s4.heap
  nfp : ∀ b ∈ fp, H3 b = none
  fpk : ∀ (σ' : L2.St) (H' : Hp) (s' : Shared), Inv (X.blk s3 H3 scope ce fp) [] σ' H' s' → (∀ b ∈ fp, H' b = none) → ∀ b ∈ fp, FpOk (X.blk s3 H3 scope ce fp) [] H' b
  back : ∀ (σ' : L2.St) (H' : Hp) (s' : Shared), Inv (X.blk s3 H3 scope ce fp) [] σ' H' s' → Inv X pins σ H' s' ∧ ∃ m, s'.heap.Ns s3.heap.objs.size m ∧ FpOk X pins H' s3.heap.objs.size
/-- the block: the source is walked, the set is laid, the scope entered -/
theorem set_block {pins : List (Addr × Obj)} {s : Shared} {σ : L2.St} {H : Hp} {e tg iter : Expr} {scope : Scope} {own : List (Str × Nat)} {pos' : Pos} {wi : TI} {use : Option (Value → Sem Unit)} {Qf : Value → Shared → Prop} {R : It → Hp → Addr → Prop} {gs : List Comprehension} {ifs : List Expr}
    (B : Ac X.prog X.w X.K hu α) (hcl : clausesOf e = ⟨tg, iter, ifs, 0⟩ :: gs) (hN : X.N.Nodup) (I : Inv X pins σ H s) (hi : PI X tg iter wi) (ok : BlkOk X.N X.env.scope scope own) (hs : ∀ x, foldedSetIterable iter X.env x = pure x)
    (h : wi σ H fun J H1 => ∀ D, H1 D = none → R J H1 D)
    (loop : ∀ (s3 : Shared) (H1 : Hp) (D : Addr) (ce : Env) (it : Addr) (fp : List Addr) (tn : Nat → Heap → Prop) (J : It) (cl : List (Str × Addr)) (C : Addr) (s4 : Shared), ce = compEnvC scope cl C X.env → R J H1 D → Turn X.prog X.w X.K tg J fp it tn →
      Blk X pins σ scope own s3 (upd H1 D (B.O D B.zero)) ce fp tn s4 → codeAny (model X.prog X.w) X.A (.compStart e 0 (.ref it) (.ref D) ce) (compPost (model X.prog X.w) X.A X.xe use Qf (.ref D) s3.heap.objs.size) s4) :
    wpAny (model X.prog X.w) X.A (comprehension e scope X.env pos' (newSet (.type "set")) false (eval iter X.env) use) Qf X.xe s := by
  have cells : ∀ y ∈ scope.names, y.2 = .free → ∃ c, X.env.cells.lookup y.1 = some c := fun y hy q => (ok.free y hy q).elim (fun k => I.ok.has _ (.inl k)) fun k => I.ok.has _ (.inr k)
  refine wpAny_comprehension_free (use := use) hcl hs (closure_ok cells) ok.kind (fun y hy q => by rw [ok.uniq y hy, q]) (thn (hi.run pins s σ H _ I h) fun _ _ hx => thn hx fun _ s2 ⟨it, fp, tn, J, H2, q, I2, T, st2, f2, r⟩ => ?_)
  subst q
  refine PpSet.newSet_ok (newEnv_comp ?_)
  have new : H2 s2.heap.objs.size = none := I2.hok.fresh (Nat.le_refl _)
  have keep3 : ∀ b o, s2.heap.get? b = some o → (s2.heap.push (freshSet X.w)).get? b = some o := fun b o q => Heap.get?_push_of_some _ q
  have I3 : Inv X pins σ (upd H2 s2.heap.objs.size (B.O s2.heap.objs.size B.zero)) { s2 with heap := s2.heap.push (freshSet X.w) } := I2.laid (t' := s2.toks) keep3 (Nat.le_refl _) (B.new _ _)
  have f3 : ∀ b ∈ fp, FpOk X pins (upd H2 s2.heap.objs.size (B.O s2.heap.objs.size B.zero)) b ∧ b < (s2.heap.push (freshSet X.w)).objs.size := fun b hb => by
    obtain ⟨o, q, _⟩ := T.obj _ _ st2 b hb
    have lt := Heap.lt_size q
    exact ⟨⟨by rw [upd_ne (Nat.ne_of_lt lt)]; exact (f2 b hb).1, (f2 b hb).2⟩, by rw [Heap.size_push]; exact Nat.lt_succ_of_lt lt⟩
  have I4 := block_start I3 ok hN f3
  refine loop { s2 with heap := s2.heap.push (freshSet X.w) } H2 s2.heap.objs.size _ it fp tn J _ _ _ rfl (r _ new) T ⟨I4, ?_, fun b hb => (f3 b hb).1.1, ?_, ?_⟩
  · exact T.keep _ _ _ st2 fun b _ o q => pushCells_keeps _ _ _ _ (Heap.get?_push_of_some _ (keep3 b o q))
  · exact fun σ' H' s' I' hn b hb => ⟨hn b hb, (I'.ok.exf b hb).1, I'.ok.exfs b hb, .inl hb, fun x c q => (I'.ok.exf b hb).2 x c q, fun p hp => absurd (show p ∈ ([] : List (Addr × Obj)) ++ [] from hp) (by simp)⟩
  · intro σ' H' s' I'
    obtain ⟨m, hn, _⟩ := I'.loc
    have free : H' (s2.heap.push (freshSet X.w)).objs.size = none := I'.free
    exact ⟨I3.call' (ch := fp) I'.os I'.base I'.hok I'.bare fun b hb => ⟨(f3 b hb).1.2.2.2.1, (f3 b hb).1.2.1, (f3 b hb).1.2.2.2.2.1, (f3 b hb).1.2.2.2.2.2⟩, m, hn, I3.fpOk (Nat.le_refl _) free⟩
/-- the walk's objects stand behind a turn as they stood -/
theorem pins_back {Y : Cx} {pn : List (Addr × Obj)} {fp : List Addr} {h7 : Heap} {σ8 : L2.St} {H' : Hp} {s' : Shared} (I' : Inv Y (pn ++ pinsAt fp h7) σ8 H' s') {b : Addr} (hb : b ∈ fp) {o : Obj} (q : h7.get? b = some o) : s'.heap.get? b = some o ∧ H' b = none :=
  let z := I'.pin (b, o) (List.mem_append_right _ (List.mem_append_right _ (mem_pinsAt hb q)))
  ⟨z.1, z.2.1⟩
theorem sc1_core {pins : List (Addr × Obj)} {s : Shared} {σ : L2.St} {H : Hp} {Q : VK} {elt tg iter : Expr} {ifs : List Expr} {scope : Scope} {own : List (Str × Nat)} {pos pos' : Pos} {wi : TI} {g : TG} {tt : TT} {te : TE} {use : Option (Value → Sem Unit)} {Qf : Value → Shared → Prop}
    (B : Ac X.prog X.w X.K hu α) (hA : hu X.A) (hc : X.calm = true) (hN : X.N.Nodup) (I : Inv X pins σ H s) (hi : PI X tg iter wi) (ok : BlkOk X.N X.env.scope scope own)
    (hg : ∀ (s : Shared) (H : Hp) (C : Addr) (cl : List (Str × Addr)) (fp : List Addr), PG (X.blk s H scope (compEnvC scope cl C X.env) fp) tg g) (ht : ∀ (s : Shared) (H : Hp) (C : Addr) (cl : List (Str × Addr)) (fp : List Addr), PTs (X.blk s H scope (compEnvC scope cl C X.env) fp) ifs tt)
    (he : ∀ (s : Shared) (H : Hp) (C : Addr) (cl : List (Str × Addr)) (fp : List Addr), PE (X.blk s H scope (compEnvC scope cl C X.env) fp) elt te) (hs : ∀ x, foldedSetIterable iter X.env x = pure x)
    (h : tSc1 B wi g tt te (own.map (·.2)) σ H Q)
    (out : ∀ D C s' m H', Inv X pins σ H' s' → Q (.ref D) H' → s'.heap.Ns C m → FpOk X pins H' C → compPost (model X.prog X.w) X.A X.xe use Qf (.ref D) C (.ok .next) s') :
    wpAny (model X.prog X.w) X.A (comprehension (.SetComp elt [⟨tg, iter, ifs, 0⟩] scope pos) scope X.env pos' (newSet (.type "set")) false (eval iter X.env) use) Qf X.xe s := by
  refine set_block B (gs := []) (ifs := ifs) rfl hN I hi ok hs h fun s3 H1 D ce it fp tn J cl C s4 hce w T b => ?_
  have pg := fun s H => hg s H C cl fp
  have pt := fun s H => ht s H C cl fp
  have pe := fun s H => he s H C cl fp
  rw [← hce] at pg pt pe
  obtain ⟨W, ⟨m0, w0⟩, turn⟩ := w
  generalize upd H1 D (B.O D B.zero) = H3 at b w0
  have lp : codeAny (model X.prog X.w) X.A (.compLoop (.SetComp elt [⟨tg, iter, ifs, 0⟩] scope pos) 0 (.ref it) (.ref D) ce) (compPost (model X.prog X.w) X.A X.xe use Qf (.ref D) s3.heap.objs.size) s4 := by
    refine PpSet.compLoopS_any (fun n s' => ∃ i H', Inv (X.blk s3 H3 scope ce fp) [] (wipe σ (own.map (·.2))) H' s' ∧ tn i s'.heap ∧ (∀ b ∈ fp, H' b = none) ∧ W i n H') ?_ m0 ⟨0, H3, b.inv, b.tn0, b.nfp, w0⟩
    rintro n s5 ⟨i, H5, I5, st5, n5, w5⟩
    rcases turn i n H5 w5 with ⟨stop, q⟩ | ⟨go, Nx, hNx, step⟩
    · refine thnF (T.done (X.blk s3 H3 scope ce fp) rfl rfl rfl hc i [] s5 _ H5 (fun _ _ => False) I5 (b.fpk _ _ _ I5 n5) st5 stop) fun _ s6 ⟨hr, I6⟩ => ?_
      subst hr
      obtain ⟨I7, m, hn, f⟩ := b.back _ _ _ I6
      exact out D _ s6 m H5 I7 q hn f
    · refine thnF (T.item (X.blk s3 H3 scope ce fp) rfl rfl rfl hc i [] s5 _ H5 (fun _ _ => False) I5 (b.fpk _ _ _ I5 n5) st5 go) fun _ s6 ⟨u, hr, h6⟩ => ?_
      subst hr
      refine thnF h6 fun _ s7 ⟨x, H7, I7, r7, y7, st7, n7⟩ => ?_
      refine thnF ((pg s3 H3).run _ s7 _ H7 x u _ (I7.pinned (b.fpk _ _ _ I7 n7) (T.obj _ _ st7)) r7 (step x H7 y7)) fun _ s8 ⟨σ8, H8, I8, hw8, q8⟩ => ?_
      have next : ∀ {s' : Shared} {H' : Hp}, Inv (X.blk s3 H3 scope ce fp) ([] ++ pinsAt fp s7.heap) σ8 H' s' → Nx H' → ∃ m, m < n ∧ ∃ i H', Inv (X.blk s3 H3 scope ce fp) [] (wipe σ (own.map (·.2))) H' s' ∧ tn i s'.heap ∧ (∀ b ∈ fp, H' b = none) ∧ W i m H' := fun {s' H'} I' nx => by
        obtain ⟨m', hm, w'⟩ := hNx H' nx
        refine ⟨m', hm, i + 1, H', (I'.unpinned (pins := [])).weak (by rw [← hw8, wipe_length]) (fun j v q => ?_), T.keep _ _ _ st7 fun b hb o q => (pins_back I' hb q).1, fun b hb => ?_, w'⟩
        · rw [← hw8] at q
          exact (wipe_some q).1
        · obtain ⟨o, q, _⟩ := T.obj _ _ st7 b hb
          exact (pins_back I' hb q).2
      refine thnF ((pt s3 H3).run _ s8 σ8 H8 _ I8 q8) fun k s9 ⟨H9, I9, q9⟩ => ?_
      cases k with
      | false =>
        simp only [Bool.false_eq_true, if_false] at q9 ⊢
        exact next I9 q9
      | true =>
        simp only [if_true] at q9 ⊢
        refine thnF ((pe s3 H3).run _ s9 σ8 H9 _ I9 q9) fun z s10 ⟨yv, H10, I10, r10, c, hD, ad⟩ => ?_
        exact B.add (X.blk s3 H3 scope ce fp) rfl rfl rfl hA _ _ _ _ _ D c yv z _ _ I10 hD r10 ad fun c' s11 nx I11 => next I11 nx
  exact PpSet.codeAny_compStart_set lp (T.self X.A 0 _ _ _ b.tn0 lp)
theorem pe_sc1 {elt tg iter : Expr} {ifs : List Expr} {scope : Scope} {own : List (Str × Nat)} {pos : Pos} {wi : TI} {g : TG} {tt : TT} {te : TE} (B : Ac X.prog X.w X.K hu α) (hA : hu X.A) (hc : X.calm = true) (hN : X.N.Nodup) (hi : PI X tg iter wi) (ok : BlkOk X.N X.env.scope scope own)
    (hg : ∀ (s : Shared) (H : Hp) (C : Addr) (cl : List (Str × Addr)) (fp : List Addr), PG (X.blk s H scope (compEnvC scope cl C X.env) fp) tg g) (ht : ∀ (s : Shared) (H : Hp) (C : Addr) (cl : List (Str × Addr)) (fp : List Addr), PTs (X.blk s H scope (compEnvC scope cl C X.env) fp) ifs tt)
    (he : ∀ (s : Shared) (H : Hp) (C : Addr) (cl : List (Str × Addr)) (fp : List Addr), PE (X.blk s H scope (compEnvC scope cl C X.env) fp) elt te) (hs : ∀ x, foldedSetIterable iter X.env x = pure x := by intro _; rfl) :
    PE X (.SetComp elt [⟨tg, iter, ifs, 0⟩] scope pos) (tSc1 B wi g tt te (own.map (·.2))) := by
  refine ⟨fun pins s σ H Q I h => ?_⟩
  rw [PpSet.eval_SetComp]
  refine sc1_core B hA hc hN I hi ok hg ht he hs h fun D C s' m H' I' q hn ⟨f0, f1, f2, f3, f4, f5⟩ => ⟨m, hn, fun h'' sb => ?_⟩
  exact ⟨.ref D, H', I'.turned (t' := s'.toks) (fun b o hb e => (sb.2 b hb).trans e) f0 f1 f3 f4 f5, rfl, q⟩
/-- the use of a block's value: a store into a local -/
theorem use_set {pins : List (Addr × Obj)} {σ : L2.St} {D : Ends} {i : Nat} {y : Str} {py : Pos} {L C : Addr} {s' : Shared} {m} {H' : Hp} (hN : X.N.Nodup) (hy : X.N[i]? = some y) (hyl : X.env.scope.names.lookup y = some .local)
    (I' : Inv X pins σ H' s') (q : gName i (.ref L) σ H' D.nx) (hn : s'.heap.Ns C m) (f : FpOk X pins H' C) : compPost (model X.prog X.w) X.A X.xe (some (assign (.Name y py) X.env)) (fun _ s' => SP X pins D .next s') (.ref L) C (.ok .next) s' := by
  refine wpAny_assign_Name (store_ok2 (v := V.ref L) I' hN hy (.inl hyl) rfl (fun s2 I2 ⟨a, sb, ha⟩ => ?_) (.inr hyl))
  obtain ⟨f0, f1, f2, f3, f4, f5⟩ := f
  have hC : C ≠ a := ha.elim (fun z => by rw [z]; exact f1) fun z e => f4 y a z e.symm
  exact ⟨m, hn.sameBut sb hC, fun h3 sb3 => ⟨_, H', I2.turned (t' := s2.toks) (fun b o hb e => (sb3.2 b hb).trans e) f0 f1 f3 f4 f5, q⟩⟩
theorem ps_setSc1 {i : Nat} {y : Str} {py : Pos} {elt tg iter : Expr} {ifs : List Expr} {scope : Scope} {own : List (Str × Nat)} {pos spos : Pos} {wi : TI} {g : TG} {tt : TT} {te : TE} (B : Ac X.prog X.w X.K hu α) (hA : hu X.A) (hc : X.calm = true) (hN : X.N.Nodup) (hy : X.N[i]? = some y) (hyl : X.env.scope.names.lookup y = some .local)
    (hsw : swapsWith (.SetComp elt [⟨tg, iter, ifs, 0⟩] scope pos) (some (.Name y py)) spos.line X.env = pure true) (hi : PI X tg iter wi) (ok : BlkOk X.N X.env.scope scope own)
    (hg : ∀ (s : Shared) (H : Hp) (C : Addr) (cl : List (Str × Addr)) (fp : List Addr), PG (X.blk s H scope (compEnvC scope cl C X.env) fp) tg g) (ht : ∀ (s : Shared) (H : Hp) (C : Addr) (cl : List (Str × Addr)) (fp : List Addr), PTs (X.blk s H scope (compEnvC scope cl C X.env) fp) ifs tt)
    (he : ∀ (s : Shared) (H : Hp) (C : Addr) (cl : List (Str × Addr)) (fp : List Addr), PE (X.blk s H scope (compEnvC scope cl C X.env) fp) elt te) (hs : ∀ x, foldedSetIterable iter X.env x = pure x := by intro _; rfl) :
    PS X (.Assign [.Name y py] (.SetComp elt [⟨tg, iter, ifs, 0⟩] scope pos) spos) (tAsg (tSc1 B wi g tt te (own.map (·.2))) (gName i)) := by
  refine ⟨fun pins s σ H D I h => ?_⟩
  rw [exec_Assign_Name_used _ _ _ _ hsw]
  refine wpAny_bind (wpAny_standAt (wpAny_bind ?_))
  have h : tSc1 B wi g tt te (own.map (·.2)) σ H (fun x H1 => gName i x σ H1 D.nx) := h
  refine wpAny_bind (thn (sc1_core (Qf := fun _ s' => SP X pins D .next s') (use := some (assign (.Name y py) X.env)) B hA hc hN I hi ok hg ht he hs h fun L C s' m H' I' q hn f => use_set hN hy hyl I' q hn f) fun _ s' hq => wpAny_pure (wpAny_pure hq))
theorem ps_setDc {i : Nat} {y : Str} {py : Pos} {kx vx tg iter : Expr} {ifs : List Expr} {scope : Scope} {own : List (Str × Nat)} {pos spos : Pos} {wi : TI} {g : TG} {tt : TT} {tk tv : TE} (hc : X.calm = true) (hN : X.N.Nodup) (hy : X.N[i]? = some y) (hyl : X.env.scope.names.lookup y = some .local)
    (hsw : swapsWith (.DictComp kx vx [⟨tg, iter, ifs, 0⟩] scope pos) (some (.Name y py)) spos.line X.env = pure true) (hi : PI X tg iter wi) (ok : BlkOk X.N X.env.scope scope own)
    (hg : ∀ (s : Shared) (H : Hp) (C : Addr) (cl : List (Str × Addr)) (fp : List Addr), PG (X.blk s H scope (compEnvC scope cl C X.env) fp) tg g) (ht : ∀ (s : Shared) (H : Hp) (C : Addr) (cl : List (Str × Addr)) (fp : List Addr), PTs (X.blk s H scope (compEnvC scope cl C X.env) fp) ifs tt)
    (hk : ∀ (s : Shared) (H : Hp) (C : Addr) (cl : List (Str × Addr)) (fp : List Addr), PE (X.blk s H scope (compEnvC scope cl C X.env) fp) kx tk)
    (he : ∀ (s : Shared) (H : Hp) (C : Addr) (cl : List (Str × Addr)) (fp : List Addr), PE (X.blk s H scope (compEnvC scope cl C X.env) fp) vx tv) (hs : ∀ x, foldedSetIterable iter X.env x = pure x := by intro _; rfl) :
    PS X (.Assign [.Name y py] (.DictComp kx vx [⟨tg, iter, ifs, 0⟩] scope pos) spos) (tAsg (L2.tDc wi g tt tk tv (own.map (·.2))) (gName i)) := by
  refine ⟨fun pins s σ H D I h => ?_⟩
  rw [exec_Assign_Name_used _ _ _ _ hsw]
  refine wpAny_bind (wpAny_standAt (wpAny_bind ?_))
  have h : L2.tDc wi g tt tk tv (own.map (·.2)) σ H (fun x H1 => gName i x σ H1 D.nx) := h
  refine wpAny_bind (thn (L2.dc_core (Qf := fun _ s' => SP X pins D .next s') (use := some (assign (.Name y py) X.env)) hc hN I hi ok hg ht hk he hs h fun L C s' m H' I' q hn f => use_set hN hy hyl I' q hn f) fun _ s' hq => wpAny_pure (wpAny_pure hq))
end
end Dv
end
section
set_option linter.all false
set_option maxRecDepth 100000
set_option maxHeartbeats 4000000
/-! B2: set comprehensions with two fors; the accumulators of ints and of tuples of ints. -/
namespace Dv
open PySem PySem.Spec PyProof.Rows L2 Evl
section
variable (elt t0 i0 t1 i1 : Expr) (ifs0 ifs1 : List Expr) (scope : Scope) (pos : Pos) (it acc : Value) (env : Env)
theorem turnS_out : compTurn (.SetComp elt [⟨t0, i0, ifs0, 0⟩, ⟨t1, i1, ifs1, 0⟩] scope pos) 0 it acc env = (do
      standAt i0.pos
      match ← pyNext it with
      | none => pure (.done .next)
      | some u =>
        letOwnedTupleGo t0 it u
        assign t0 env u
        let mut good := true
        for c in ifs0 do
          if good then good ← isTrue c env (eval c env)
        if good then
          let z ← eval i1 env
          standAt i1.pos
          let z ← foldedSetIterable i1 env z
          let _ ← runOwn (.compStart (.SetComp elt [⟨t0, i0, ifs0, 0⟩, ⟨t1, i1, ifs1, 0⟩] scope pos) 1 (← holding [z] (pyIter z)) acc env) env
        again (.compLoop (.SetComp elt [⟨t0, i0, ifs0, 0⟩, ⟨t1, i1, ifs1, 0⟩] scope pos) 0 it acc env)) := by rfl
theorem turnS_in : compTurn (.SetComp elt [⟨t0, i0, ifs0, 0⟩, ⟨t1, i1, ifs1, 0⟩] scope pos) 1 it acc env = (do
      standAt i1.pos
      match ← pyNext it with
      | none => pure (.done .next)
      | some u =>
        letOwnedTupleGo t1 it u
        assign t1 env u
        let mut good := true
        for c in ifs1 do
          if good then good ← isTrue c env (eval c env)
        if good then
          (do let z ← eval elt env; standAt elt.pos; let _ ← call (.builtin "set.add") [acc, z])
        again (.compLoop (.SetComp elt [⟨t0, i0, ifs0, 0⟩, ⟨t1, i1, ifs1, 0⟩] scope pos) 1 it acc env)) := by rfl
end
section
variable {prog : Program} {w : World} {A : Around} {R : Result → Shared → Prop} {s : Shared} {elt t0 i0 t1 i1 : Expr} {ifs0 ifs1 : List Expr} {scope : Scope} {pos : Pos} {it acc : Value} {env : Env}
theorem loopS_out (hs : ∀ x, foldedSetIterable i1 env x = pure x) (I : Nat → Shared → Prop)
    (turn : ∀ n s, I n s → wpAny (model prog w) A (pyNext it) (fun r s₁ => match r with
      | none => R (.ok .next) s₁
      | some v => wpAny (model prog w) A (letOwnedTupleGo t0 it v) (fun _ s₁' => wpAny (model prog w) A (assign t0 env v) (fun _ s₂ =>
          wpAny (model prog w) A (forIn ifs0 true fun c r => if r = true then do let ok ← isTrue c env (eval c env); pure (ForInStep.yield ok) else pure (ForInStep.yield r)) (fun ok s₃ =>
            if ok = true then wpAny (model prog w) A (eval i1 env) (fun x s₄ => wpAny (model prog w) A (pyIter x) (fun it1 s₅ =>
              codeAny (model prog w) A (.compStart (.SetComp elt [⟨t0, i0, ifs0, 0⟩, ⟨t1, i1, ifs1, 0⟩] scope pos) 1 it1 acc env) (fun r s' => match r with
                | .ok _ => ∃ m, m < n ∧ I m s'
                | .error _ => False) s₅) (notedBy (model prog w) A env fun e s' => R (.error e) s') s₄) (notedBy (model prog w) A env fun e s' => R (.error e) s') s₃
            else ∃ m, m < n ∧ I m s₃) (notedBy (model prog w) A env fun e s' => R (.error e) s') s₂) (notedBy (model prog w) A env fun e s' => R (.error e) s') s₁') (notedBy (model prog w) A env fun e s' => R (.error e) s') s₁) (notedBy (model prog w) A env fun e s' => R (.error e) s') s)
    (n : Nat) (h : I n s) : codeAny (model prog w) A (.compLoop (.SetComp elt [⟨t0, i0, ifs0, 0⟩, ⟨t1, i1, ifs1, 0⟩] scope pos) 0 it acc env) R s := by
  refine codeAny_loop rfl I (fun n s hI => ?_) n h
  show wpAny _ A ((compTurn (.SetComp elt [⟨t0, i0, ifs0, 0⟩, ⟨t1, i1, ifs1, 0⟩] scope pos) 0 it acc env).onRaise (fun z => do noteFrame z env; theTreesLotGoes z)) _ _ s
  refine wpAny_noted ?_
  rw [turnS_out]
  refine wpAny_bind (wpAny_standAt (wpAny_bind (thn (turn n s hI) fun r s₁ h₁ => ?_)))
  cases r with
  | none => exact wpAny_pure h₁
  | some v =>
    refine wpAny_bind (thn h₁ fun _ s₁' h₁' => wpAny_bind (thn h₁' fun _ s₂ h₂ => wpAny_bind (thn h₂ fun ok s₃ h₃ => ?_)))
    cases ok with
    | false => exact wpAny_pure ⟨rfl, h₃⟩
    | true =>
      refine wpAny_bind (thn h₃ fun x s₄ h₄ => wpAny_bind (wpAny_standAt (wpAny_bind (wpAny_of_eq (hs x) (wpAny_bind (wpAny_holding (thn h₄ fun it1 s₅ h₅ => ?_)))))))
      refine wpAny_bind (wpAny_runOwn ?_)
      rw [Around.mark_none]
      refine codeAny_mono h₅ fun r s' hr => ?_
      cases r with
      | error e => exact hr.elim
      | ok f => first | exact wpAny_pure ⟨rfl, hr⟩ | exact wpAny_bind (wpAny_pure (wpAny_pure ⟨rfl, hr⟩))
theorem loopS_in (I : Nat → Shared → Prop)
    (turn : ∀ n s, I n s → wpAny (model prog w) A (pyNext it) (fun r s₁ => match r with
      | none => R (.ok .next) s₁
      | some v => wpAny (model prog w) A (letOwnedTupleGo t1 it v) (fun _ s₁' => wpAny (model prog w) A (assign t1 env v) (fun _ s₂ =>
          wpAny (model prog w) A (forIn ifs1 true fun c r => if r = true then do let ok ← isTrue c env (eval c env); pure (ForInStep.yield ok) else pure (ForInStep.yield r)) (fun ok s₃ =>
            if ok = true then wpAny (model prog w) A (eval elt env) (fun x s₄ =>
              wpAny (model prog w) A (call (.builtin "set.add") [acc, x]) (fun _ s₅ => ∃ m, m < n ∧ I m s₅) (notedBy (model prog w) A env fun e s' => R (.error e) s') s₄) (notedBy (model prog w) A env fun e s' => R (.error e) s') s₃
            else ∃ m, m < n ∧ I m s₃) (notedBy (model prog w) A env fun e s' => R (.error e) s') s₂) (notedBy (model prog w) A env fun e s' => R (.error e) s') s₁') (notedBy (model prog w) A env fun e s' => R (.error e) s') s₁) (notedBy (model prog w) A env fun e s' => R (.error e) s') s)
    (n : Nat) (h : I n s) : codeAny (model prog w) A (.compLoop (.SetComp elt [⟨t0, i0, ifs0, 0⟩, ⟨t1, i1, ifs1, 0⟩] scope pos) 1 it acc env) R s := by
  refine codeAny_loop rfl I (fun n s hI => ?_) n h
  show wpAny _ A ((compTurn (.SetComp elt [⟨t0, i0, ifs0, 0⟩, ⟨t1, i1, ifs1, 0⟩] scope pos) 1 it acc env).onRaise (fun z => do noteFrame z env; theTreesLotGoes z)) _ _ s
  refine wpAny_noted ?_
  rw [turnS_in]
  refine wpAny_bind (wpAny_standAt (wpAny_bind (thn (turn n s hI) fun r s₁ h₁ => ?_)))
  cases r with
  | none => exact wpAny_pure h₁
  | some v =>
    refine wpAny_bind (thn h₁ fun _ s₁' h₁' => wpAny_bind (thn h₁' fun _ s₂ h₂ => wpAny_bind (thn h₂ fun ok s₃ h₃ => ?_)))
    cases ok with
    | false => exact wpAny_pure ⟨rfl, h₃⟩
    | true => exact wpAny_bind (wpAny_bind (thn h₃ fun x s₄ h₄ => wpAny_bind (wpAny_standAt (wpAny_bind (thn h₄ fun _ s₅ h₅ => wpAny_pure (wpAny_pure ⟨rfl, h₅⟩))))))
theorem startS1 (h0 : codeAny (model prog w) A (.compLoop (.SetComp elt [⟨t0, i0, ifs0, 0⟩, ⟨t1, i1, ifs1, 0⟩] scope pos) 1 it acc env) R s)
    (h : wpAny (model prog w) A (pyIter it) (fun it' s' => codeAny (model prog w) A (.compLoop (.SetComp elt [⟨t0, i0, ifs0, 0⟩, ⟨t1, i1, ifs1, 0⟩] scope pos) 1 it' acc env) R s')
      (notedBy (model prog w) A env fun x s' => R (.error x) s') s) : codeAny (model prog w) A (.compStart (.SetComp elt [⟨t0, i0, ifs0, 0⟩, ⟨t1, i1, ifs1, 0⟩] scope pos) 1 it acc env) R s := by
  refine codeAny_of_tree ?_
  show wpAny _ _ ((compStart (.SetComp elt [⟨t0, i0, ifs0, 0⟩, ⟨t1, i1, ifs1, 0⟩] scope pos) 1 it acc env).onRaise (fun z => do noteFrame z env; standAt theWindowsPlace)) _ _ s
  refine wpAny_notedAt ?_
  unfold compStart
  show wpAny _ _ (ask >>= _) _ _ s
  refine wpAny_bind (wpAny_askSetting (wpAny_ite ?_))
  split
  · first | exact wpAny_bind (wpAny_pure (wpAny_pure ⟨rfl, h0⟩)) | exact wpAny_pure ⟨rfl, h0⟩
  · first
      | exact wpAny_bind (wpAny_rule (wpAny_bind (wpAny_standAt (wpAny_bind (thn h fun it' s' h' => wpAny_pure ⟨rfl, h'⟩)))))
      | (refine wpAny_bind (wpAny_rule ?_); show wpAny _ _ (standAt i1.pos >>= _) _ _ s; exact wpAny_bind (wpAny_standAt (wpAny_bind (thn h fun it' s' h' => wpAny_pure ⟨rfl, h'⟩))))
end

section
variable {X : Cx} {α : Type} {hu : Around → Prop}
theorem sc2_core {pins : List (Addr × Obj)} {s : Shared} {σ : L2.St} {H : Hp} {Q : VK} {elt tg iter tg1 iter1 : Expr} {ifs ifs1 : List Expr} {scope : Scope} {own : List (Str × Nat)} {vs1 : List Nat} {pos pos' : Pos} {wi wi1 : TI} {g g1 : TG} {tt tt1 : TT} {te : TE} {use : Option (Value → Sem Unit)} {Qf : Value → Shared → Prop}
    (B : Ac X.prog X.w X.K hu α) (hA : hu X.A) (hc : X.calm = true) (hN : X.N.Nodup) (I : Inv X pins σ H s) (hi : PI X tg iter wi) (ok : BlkOk X.N X.env.scope scope own) (hv : ∀ i ∈ vs1, i ∈ own.map (·.2))
    (hg : ∀ (s : Shared) (H : Hp) (C : Addr) (cl : List (Str × Addr)) (fp : List Addr), PG (X.blk s H scope (compEnvC scope cl C X.env) fp) tg g) (ht : ∀ (s : Shared) (H : Hp) (C : Addr) (cl : List (Str × Addr)) (fp : List Addr), PTs (X.blk s H scope (compEnvC scope cl C X.env) fp) ifs tt)
    (hi1 : ∀ (s : Shared) (H : Hp) (C : Addr) (cl : List (Str × Addr)) (fp : List Addr), PI (X.blk s H scope (compEnvC scope cl C X.env) fp) tg1 iter1 wi1)
    (hg1 : ∀ (s : Shared) (H : Hp) (C : Addr) (cl : List (Str × Addr)) (fp : List Addr), PG (X.blk s H scope (compEnvC scope cl C X.env) fp) tg1 g1) (ht1 : ∀ (s : Shared) (H : Hp) (C : Addr) (cl : List (Str × Addr)) (fp : List Addr), PTs (X.blk s H scope (compEnvC scope cl C X.env) fp) ifs1 tt1)
    (he : ∀ (s : Shared) (H : Hp) (C : Addr) (cl : List (Str × Addr)) (fp : List Addr), PE (X.blk s H scope (compEnvC scope cl C X.env) fp) elt te) (hs : ∀ x, foldedSetIterable iter X.env x = pure x) (hs1 : ∀ env x, foldedSetIterable iter1 env x = pure x)
    (h : tSc2 B wi g tt wi1 g1 tt1 te (own.map (·.2)) vs1 σ H Q)
    (out : ∀ D C s' m H', Inv X pins σ H' s' → Q (.ref D) H' → s'.heap.Ns C m → FpOk X pins H' C → compPost (model X.prog X.w) X.A X.xe use Qf (.ref D) C (.ok .next) s') :
    wpAny (model X.prog X.w) X.A (comprehension (.SetComp elt [⟨tg, iter, ifs, 0⟩, ⟨tg1, iter1, ifs1, 0⟩] scope pos) scope X.env pos' (newSet (.type "set")) false (eval iter X.env) use) Qf X.xe s := by
  refine set_block B (gs := [⟨tg1, iter1, ifs1, 0⟩]) (ifs := ifs) rfl hN I hi ok hs h fun s3 H1 D ce it fp tn J cl C s4 hce w T b => ?_
  have pg := fun s H => hg s H C cl fp
  have pt := fun s H => ht s H C cl fp
  have pe := fun s H => he s H C cl fp
  have pi1 := fun s H => hi1 s H C cl fp
  have pg1 := fun s H => hg1 s H C cl fp
  have pt1 := fun s H => ht1 s H C cl fp
  rw [← hce] at pg pt pe pi1 pg1 pt1
  obtain ⟨W, ⟨m0, w0⟩, turn⟩ := w
  generalize upd H1 D (B.O D B.zero) = H3 at b w0
  have lp : codeAny (model X.prog X.w) X.A (.compLoop (.SetComp elt [⟨tg, iter, ifs, 0⟩, ⟨tg1, iter1, ifs1, 0⟩] scope pos) 0 (.ref it) (.ref D) ce) (compPost (model X.prog X.w) X.A X.xe use Qf (.ref D) s3.heap.objs.size) s4 := by
    refine loopS_out (hs1 ce) (fun n s' => ∃ i H', Inv (X.blk s3 H3 scope ce fp) [] (wipe σ (own.map (·.2))) H' s' ∧ tn i s'.heap ∧ (∀ b ∈ fp, H' b = none) ∧ W i n H') ?_ m0 ⟨0, H3, b.inv, b.tn0, b.nfp, w0⟩
    rintro n s5 ⟨i, H5, I5, st5, n5, w5⟩
    rcases turn i n H5 w5 with ⟨stop, q⟩ | ⟨go, Nx, hNx, step⟩
    · refine thnF (T.done (X.blk s3 H3 scope ce fp) rfl rfl rfl hc i [] s5 _ H5 (fun _ _ => False) I5 (b.fpk _ _ _ I5 n5) st5 stop) fun _ s6 ⟨hr, I6⟩ => ?_
      subst hr
      obtain ⟨I7, m, hn, f⟩ := b.back _ _ _ I6
      exact out D _ s6 m H5 I7 q hn f
    · refine thnF (T.item (X.blk s3 H3 scope ce fp) rfl rfl rfl hc i [] s5 _ H5 (fun _ _ => False) I5 (b.fpk _ _ _ I5 n5) st5 go) fun _ s6 ⟨u, hr, h6⟩ => ?_
      subst hr
      refine thnF h6 fun _ s7 ⟨x, H7, I7, r7, y7, st7, n7⟩ => ?_
      refine thnF ((pg s3 H3).run _ s7 _ H7 x u _ (I7.pinned (b.fpk _ _ _ I7 n7) (T.obj _ _ st7)) r7 (step x H7 y7)) fun _ s8 ⟨σ8, H8, I8, hw8, q8⟩ => ?_
      have next : ∀ {σ9 : L2.St} {s' : Shared} {H' : Hp}, Inv (X.blk s3 H3 scope ce fp) ([] ++ pinsAt fp s7.heap) σ9 H' s' → (wipe σ (own.map (·.2))).length = σ9.length → (∀ (j : Nat) v, (wipe σ (own.map (·.2)))[j]? = some (some v) → σ9[j]? = some (some v)) → Nx H' →
          ∃ m, m < n ∧ ∃ i H', Inv (X.blk s3 H3 scope ce fp) [] (wipe σ (own.map (·.2))) H' s' ∧ tn i s'.heap ∧ (∀ b ∈ fp, H' b = none) ∧ W i m H' := fun {σ9 s' H'} I' hl hk nx => by
        obtain ⟨m', hm, w'⟩ := hNx H' nx
        refine ⟨m', hm, i + 1, H', (I'.unpinned (pins := [])).weak hl hk, T.keep _ _ _ st7 fun b hb o q => (pins_back I' hb q).1, fun b hb => ?_, w'⟩
        obtain ⟨o, q, _⟩ := T.obj _ _ st7 b hb
        exact (pins_back I' hb q).2
      have len8 : (wipe σ (own.map (·.2))).length = σ8.length := by rw [← hw8, wipe_length]
      have get8 : ∀ (j : Nat) v, (wipe σ (own.map (·.2)))[j]? = some (some v) → σ8[j]? = some (some v) := fun j v q => by
        rw [← hw8] at q
        exact (wipe_some q).1
      refine thnF ((pt s3 H3).run _ s8 σ8 H8 _ I8 q8) fun k s9 ⟨H9, I9, q9⟩ => ?_
      cases k with
      | false =>
        simp only [Bool.false_eq_true, if_false] at q9 ⊢
        exact next I9 len8 get8 q9
      | true =>
        simp only [if_true] at q9 ⊢
        have get9 : ∀ (j : Nat) v, (wipe σ (own.map (·.2)))[j]? = some (some v) → (wipe σ8 vs1)[j]? = some (some v) := fun j v q => by
          rw [← hw8] at q
          obtain ⟨e1, e2⟩ := wipe_some q
          rw [wipe_out fun z => e2 (hv j z)]
          exact e1
        refine thnF ((pi1 s3 H3).run _ s9 σ8 H9 _ I9 q9) fun _ s10 hx => thnF hx fun _ s11 ⟨it1, fp1, tn1, J1, H11, e1, I11, T1, st11, f11, W1, ⟨m1, w1⟩, turn1⟩ => ?_
        subst e1
        have fpk1 : ∀ {H' : Hp}, (∀ b ∈ fp1, H' b = none) → ∀ b ∈ fp1, FpOk (X.blk s3 H3 scope ce fp) ([] ++ pinsAt fp s7.heap) H' b := fun hn b hb => ⟨hn b hb, (f11 b hb).2⟩
        have lp1 : codeAny (model X.prog X.w) X.A (.compLoop (.SetComp elt [⟨tg, iter, ifs, 0⟩, ⟨tg1, iter1, ifs1, 0⟩] scope pos) 1 (.ref it1) (.ref D) ce)
            (fun r s' => match r with
              | .ok _ => ∃ m, m < n ∧ ∃ i H', Inv (X.blk s3 H3 scope ce fp) [] (wipe σ (own.map (·.2))) H' s' ∧ tn i s'.heap ∧ (∀ b ∈ fp, H' b = none) ∧ W i m H'
              | .error _ => False) s11 := by
          refine loopS_in (fun k s' => ∃ j H', Inv (X.blk s3 H3 scope ce fp) ([] ++ pinsAt fp s7.heap) (wipe σ8 vs1) H' s' ∧ tn1 j s'.heap ∧ (∀ b ∈ fp1, H' b = none) ∧ W1 j k H') ?_ m1 ⟨0, H11, I11.weak (wipe_length _ _) (fun j v q => (wipe_some q).1), st11, fun b hb => (f11 b hb).1, w1⟩
          rintro k s12 ⟨j, H12, I12, st12, n12, w12⟩
          rcases turn1 j k H12 w12 with ⟨stop1, nx1⟩ | ⟨go1, Nx1, hNx1, step1⟩
          · refine thnF (T1.done (X.blk s3 H3 scope ce fp) rfl rfl rfl hc j _ s12 (wipe σ8 vs1) H12 (fun _ _ => False) I12 (fpk1 n12) st12 stop1) fun _ s13 ⟨hr, I13⟩ => ?_
            subst hr
            exact next I13 (len8.trans (wipe_length σ8 vs1).symm) get9 nx1
          · refine thnF (T1.item (X.blk s3 H3 scope ce fp) rfl rfl rfl hc j _ s12 (wipe σ8 vs1) H12 (fun _ _ => False) I12 (fpk1 n12) st12 go1) fun _ s13 ⟨u1, hr, h13⟩ => ?_
            subst hr
            refine thnF h13 fun _ s14 ⟨x1, H14, I14, r14, y14, st14, n14⟩ => ?_
            refine thnF ((pg1 s3 H3).run _ s14 (wipe σ8 vs1) H14 x1 u1 _ (I14.pinned (fpk1 n14) (T1.obj _ _ st14)) r14 (step1 x1 H14 y14)) fun _ s15 ⟨σ15, H15, I15, hw15, q15⟩ => ?_
            have next1 : ∀ {s' : Shared} {H' : Hp}, Inv (X.blk s3 H3 scope ce fp) (([] ++ pinsAt fp s7.heap) ++ pinsAt fp1 s14.heap) σ15 H' s' → Nx1 H' → ∃ m, m < k ∧ ∃ j H', Inv (X.blk s3 H3 scope ce fp) ([] ++ pinsAt fp s7.heap) (wipe σ8 vs1) H' s' ∧ tn1 j s'.heap ∧ (∀ b ∈ fp1, H' b = none) ∧ W1 j m H' := fun {s' H'} I' nx => by
              obtain ⟨m', hm, w'⟩ := hNx1 H' nx
              refine ⟨m', hm, j + 1, H', I'.unpinned.weak (by rw [← hw15, wipe_length]) (fun j v q => by rw [← hw15] at q; exact (wipe_some q).1), T1.keep _ _ _ st14 fun b hb o q => (pins_back I' hb q).1, fun b hb => ?_, w'⟩
              obtain ⟨o, q, _⟩ := T1.obj _ _ st14 b hb
              exact (pins_back I' hb q).2
            refine thnF ((pt1 s3 H3).run _ s15 σ15 H15 _ I15 q15) fun k1 s16 ⟨H16, I16, q16⟩ => ?_
            cases k1 with
            | false =>
              simp only [Bool.false_eq_true, if_false] at q16 ⊢
              exact next1 I16 q16
            | true =>
              simp only [if_true] at q16 ⊢
              refine thnF ((pe s3 H3).run _ s16 σ15 H16 _ I16 q16) fun z s17 ⟨yv, H17, I17, r17, c, hD, ad⟩ => ?_
              exact B.add (X.blk s3 H3 scope ce fp) rfl rfl rfl hA _ _ _ _ _ D c yv z _ _ I17 hD r17 ad fun c' s18 nx I18 => next1 I18 nx
        exact startS1 lp1 (T1.self X.A 0 _ _ _ st11 lp1)
  exact PpSet.codeAny_compStart_set lp (T.self X.A 0 _ _ _ b.tn0 lp)
theorem pe_sc2 {elt tg iter tg1 iter1 : Expr} {ifs ifs1 : List Expr} {scope : Scope} {own : List (Str × Nat)} {vs1 : List Nat} {pos : Pos} {wi wi1 : TI} {g g1 : TG} {tt tt1 : TT} {te : TE} (B : Ac X.prog X.w X.K hu α) (hA : hu X.A) (hc : X.calm = true) (hN : X.N.Nodup) (hi : PI X tg iter wi) (ok : BlkOk X.N X.env.scope scope own) (hv : ∀ i ∈ vs1, i ∈ own.map (·.2))
    (hg : ∀ (s : Shared) (H : Hp) (C : Addr) (cl : List (Str × Addr)) (fp : List Addr), PG (X.blk s H scope (compEnvC scope cl C X.env) fp) tg g) (ht : ∀ (s : Shared) (H : Hp) (C : Addr) (cl : List (Str × Addr)) (fp : List Addr), PTs (X.blk s H scope (compEnvC scope cl C X.env) fp) ifs tt)
    (hi1 : ∀ (s : Shared) (H : Hp) (C : Addr) (cl : List (Str × Addr)) (fp : List Addr), PI (X.blk s H scope (compEnvC scope cl C X.env) fp) tg1 iter1 wi1)
    (hg1 : ∀ (s : Shared) (H : Hp) (C : Addr) (cl : List (Str × Addr)) (fp : List Addr), PG (X.blk s H scope (compEnvC scope cl C X.env) fp) tg1 g1) (ht1 : ∀ (s : Shared) (H : Hp) (C : Addr) (cl : List (Str × Addr)) (fp : List Addr), PTs (X.blk s H scope (compEnvC scope cl C X.env) fp) ifs1 tt1)
    (he : ∀ (s : Shared) (H : Hp) (C : Addr) (cl : List (Str × Addr)) (fp : List Addr), PE (X.blk s H scope (compEnvC scope cl C X.env) fp) elt te) (hs : ∀ x, foldedSetIterable iter X.env x = pure x := by intro _; rfl) (hs1 : ∀ env x, foldedSetIterable iter1 env x = pure x := by intro _ _; rfl) :
    PE X (.SetComp elt [⟨tg, iter, ifs, 0⟩, ⟨tg1, iter1, ifs1, 0⟩] scope pos) (tSc2 B wi g tt wi1 g1 tt1 te (own.map (·.2)) vs1) := by
  refine ⟨fun pins s σ H Q I h => ?_⟩
  rw [PpSet.eval_SetComp]
  refine sc2_core B hA hc hN I hi ok hv hg ht hi1 hg1 ht1 he hs hs1 h fun D C s' m H' I' q hn ⟨f0, f1, f2, f3, f4, f5⟩ => ⟨m, hn, fun h'' sb => ?_⟩
  exact ⟨.ref D, H', I'.turned (t' := s'.toks) (fun b o hb e => (sb.2 b hb).trans e) f0 f1 f3 f4 f5, rfl, q⟩
end

/-! ### what a set holds -/
def acI (P : Program) (w : World) (K : PySem.W.Frag) : Ac P w K (fun _ => True) ((Int → Bool) × Nat) where
  O := fun a c => SetO w a c.1 c.2
  zero := (fun _ => false, 0)
  ads := fun y H c N => ∃ k, y = .int k ∧ c.2 + 1 < scanBound ∧ N (fun j => c.1 j || decide (j = k), if c.1 k = true then c.2 else c.2 + 1)
  new := fun H h => setO_new (setR_fresh w)
  add := fun Y h1 h2 h3 hu pins σ H s E D c y u N Q I hD r ⟨k, hy, room, n⟩ hQ => by
    subst h1 h2 h3 hy
    obtain ⟨S, m⟩ := c
    obtain ⟨tk, rfl⟩ := (show ∃ t, u = Value.int k t from r)
    refine setR_add (setO_get I hD) room fun h' sb new => ?_
    have he : ∃ u, h'.get? D = some u := by
      have ⟨o, _, _, _, ho, _⟩ := new
      exact ⟨o, ho⟩
    exact hQ _ _ n (I.write (e := D) (t' := s.toks + 1) (by rw [hD]; trivial) (.inl rfl) (fun b u hb hu => (sb.2 b hb).trans hu) he (setO_new new))
end Dv
end
section
set_option linter.all false
set_option maxRecDepth 100000
set_option maxHeartbeats 4000000
/-! B3: the accumulator of tuples of ints; len of such a set. -/
namespace Dv
open PySem PySem.Spec PyProof.Rows L2 Evl
theorem setT_add {P : Program} {w : World} {A : Around} {E : Value → Shared → Prop} {s : Shared} {a x : Addr} {k : List Int} {L : List (Addr × List Int)} {es : Array (Int × Value)} {ep : Nat} {t : SetTable} {Q : Value → Shared → Prop}
    (R : SetTR P w s.heap a L es ep t) (hx : IsT P w s.heap k x) (hu : A.units + 3 < cLine) (few : L.length + 1 < 64)
    (hQ : ∀ h' tk L' es' ep' t', Heap.SameBut a s.heap h' → SetTR P w h' a L' es' ep' t' → (k ∈ L.map (·.2) → L' = L) → (k ∉ L.map (·.2) → L'.Perm ((x, k) :: L)) → Q .none { s with heap := h', toks := tk }) :
    wpAny (model P w) A (call (.builtin "set.add") [.ref a, .ref x]) Q E s := by
  obtain ⟨o, ho, hex, hd⟩ := R.ob
  refine wpAny_call_entry F.slot_set_add ⟨o, ho, hex.1⟩ F.entry_set_add ?_ (F.args_set_add_2 _ _)
  unfold Builtin.«set.add» Builtin.Frozenset.oneOther
  simp only [List.isEmpty_nil, bind_assoc]
  unfold Builtin.Frozenset.addrOf setAdd
  refine wpAny_bind (wpAny_pure ?_)
  try dsimp only
  refine wpAny_bind (wpAny_pure ?_)
  try dsimp only
  refine wpAny_bind (wpAny_holding ?_)
  have hu1 : A.in1.units < cLine := by show A.units + 1 < cLine; omega
  refine wpAny_bind (wpAny_pyHash_tuple (by omega) hx ?_)
  refine add_at (s := { s with toks := s.toks + (k.length + 1) }) (R.keep (fun o q => q) R.tup) hx (by omega) few fun b h' L' es' ep' t' sb r c1 c2 => ?_
  show wpAny _ _ (ret Value.none) _ _ _
  exact wpAny_pure ⟨_, rfl, hQ h' _ L' es' ep' t' sb r c1 c2⟩
def acP (P : Program) (w : World) (K : PySem.W.Frag) : Ac P w K (fun A => A.units + 64 < cLine) (List (Addr × List Int)) where
  O := fun a c => SetTO P w a c
  zero := []
  ads := fun y H L N => ∃ a k, y = .ref a ∧ SqT K H a (k.map V.int) ∧ (∀ p ∈ L, SqT K H p.1 (p.2.map V.int)) ∧ L.length + 1 < 64 ∧ ∀ L', (k ∈ L.map (·.2) → L' = L) → (k ∉ L.map (·.2) → L'.Perm ((a, k) :: L)) → N L'
  new := fun H h => setTO_new (setTR_fresh (Heap.get?_push_size _ rfl)).t0
  add := fun Y h1 h2 h3 hu pins σ H s E D L y u N Q I hD r ⟨a, k, hy, hk, hL, few, n⟩ hQ => by
    subst h1 h2 h3 hy
    cases (show u = Value.ref a from r)
    have R0 : SetT0 Y.prog Y.w s.heap D L := (I.hok D _ hD).1
    obtain ⟨es, ep, t, R⟩ := R0.full fun p hp => I.isT (hL p hp)
    refine setT_add R (I.isT hk) (by omega) few fun h' tk L' es' ep' t' sb r c1 c2 => ?_
    have he : ∃ u, h'.get? D = some u := by
      obtain ⟨o, ho, _⟩ := r.ob
      exact ⟨o, ho⟩
    exact hQ L' _ (n L' c1 c2) (I.write (e := D) (t' := tk) (by rw [hD]; trivial) (.inl rfl) (fun b u hb hu => (sb.2 b hb).trans hu) he (setTO_new r.t0))
section
variable {X : Cx}
def rLenT (X : Cx) : List V → Hp → VK → Prop := fun xs H Q => ∃ (a : Addr) (L : List (Addr × List Int)), xs = [.ref a] ∧ H a = some (SetTO X.prog X.w a L) ∧ (∀ p ∈ L, SqT X.K H p.1 (p.2.map V.int)) ∧ Q (.int (L.length : Nat)) H
theorem call_lenT : CallR X (.builtin "len") (rLenT X) := by
  intro pins s σ H xs us Q I r h
  obtain ⟨a, L, rfl, e, hL, q⟩ := h
  rw [Vals.ref1 r]
  have R0 : SetT0 X.prog X.w s.heap a L := (I.hok a _ e).1
  obtain ⟨es, ep, t, R⟩ := R0.full fun p hp => I.isT (hL p hp)
  obtain ⟨o, ho, hex, hd⟩ := R.ob
  exact call_len_set ho hex hd R.fits (by rw [R.size]; have := R.few; omega) ⟨.int _, H, I.tok _, ⟨_, by rw [R.size]⟩, q⟩
end
end Dv
end
section
set_option linter.all false
set_option maxRecDepth 100000
set_option maxHeartbeats 4000000
/-! A11: names bound to comprehensions; set comprehensions; list comprehensions with two fors. -/
namespace Dv
open PySem PySem.Spec PyProof.Rows L2 Evl

theorem n_r {G : Gx} {f : EnvD → M (List D)} {σ : L2.St} {H : Hp} {Q : VK} (q : tD G (eN f) σ H Q) : tDn G f σ H Q := by
  obtain ⟨Z, env, W, hW, ok, h⟩ := q
  subst hW
  refine ⟨Z, env, W, rfl, ok, M.wp_mono (fun n1 ds h1 a vs F1 H1 g1 hn hF ha r1 => ?_) (wp_then h)⟩
  exact h1 (.ref a) (upd F1 a (.lst vs)) H1 (g1.learn hn ha (ok.gd.noHas hn) hF) (.lst upd_same (r1.mono (Ex.new hF)))
section
variable {X : Cx} {st : Stmt} {f : EnvD → M (List (Int × D))}
/-- a name is bound to a new dict, which is known from then on -/
theorem ds_lockD {i : Nat} (h : PS X st (tAsg (tDd (gx X) f) (gName i))) : PS X st (tS (gx X) (sSet i (eD f))) := by
  refine ⟨fun pins s σ H Dn I hw => ?_⟩
  have hq : tAsg (tD (gx X) (eD f)) (gName i) Dn σ H := set_r hw
  obtain ⟨Z, env, W, hW, ok, hq⟩ := hq
  clear hw
  subst hW
  let nx' : L2.St → Hp → Prop := fun σ' H1 => ∃ a n1 F1 kvs vs, σ' = σ.set i (some (.ref a)) ∧ Gr Z W ⟨F1, H1, n1⟩ ∧ W.H a = none ∧ F1 a = none ∧ H1 a = some (.dK (List.zip (dkeys kvs) vs)) ∧ Reps (gx X) Z F1 vs (kvs.map (·.2)) ∧ Aft (gx X) Z W (fun x H1 => Dn.nx (σ.set i (some x)) H1) n1 (.dic kvs)
  have hw' : tAsg (tDd (gx X) f) (gName i) { Dn with nx := nx' } σ W.H :=
    ⟨Z, env, W, rfl, ok, M.wp_mono (fun n1 kvs h1 a vs F1 H1 g1 hn hF ha r1 => ⟨a, n1, F1, kvs, vs, rfl, g1, hn, hF, ha, r1, h1⟩) (wp_then hq)⟩
  refine thn (h.run pins s σ W.H _ I hw') fun fl s1 q => ?_
  cases fl with
  | next =>
    obtain ⟨σ', H1, I1, a, n1, F1, kvs, vs, e, g1, hn, hF, ha, r1, q⟩ := q
    subst e
    obtain ⟨od, I2⟩ := I1.lock ha True.intro
    refine ⟨_, _, I2, ?_⟩
    have g2 : Gr Z W ⟨upd F1 a (.frz od (.dK (List.zip (dkeys kvs) vs))), upd H1 a (.frz od (.dK (List.zip (dkeys kvs) vs))), n1⟩ := g1.lockD hn hF (ok.gd.noHas hn)
    exact q _ _ _ g2 (.dic upd_same rfl (r1.mono (Ex.new hF)))
  | brk => exact q
  | cont => exact q
  | ret v => exact q
/-- a dict that a slot owns is known from now on -/
def fzD (i : Nat) (se : SEnv) : SEnv := match se[i]? with
  | some (.od kvs) => se.set i (.v (.dic kvs))
  | _ => se
def sFzD (i : Nat) (g : SEnv → M Ctl) : SEnv → M Ctl := fun se => g (fzD i se)
theorem ds_fzD (i : Nat) {g : SEnv → M Ctl} (h : PS X st (tS (gx X) g)) : PS X st (tS (gx X) (sFzD i g)) := by
  refine ⟨fun pins s σ H Dn I q => ?_⟩
  obtain ⟨Z, W0, se, W, hW, S, q⟩ := q
  subst hW
  unfold sFzD fzD at q
  split at q
  · rename_i kvs hi
    obtain ⟨p, h1, h2, h3, vs, h4, h5⟩ := S.own i _ hi rfl
    obtain ⟨od, I2⟩ := I.lock h4 True.intro
    refine h.run pins s σ _ Dn I2 ⟨Z, W0, se.set i (.v (.dic kvs)), ⟨upd W.F p (.frz od (.dK (List.zip (dkeys kvs) vs))), upd W.H p (.frz od (.dK (List.zip (dkeys kvs) vs))), W.n⟩, rfl, ?_, M.wp_mono (fun _ c h => h.mono (Ex.new h2)) q⟩
    have hl : i < se.length := (List.getElem?_eq_some_iff.mp hi).1
    have nz := S.nz h3
    have gB := S.base.lockD (o := .frz od (.dK (List.zip (dkeys kvs) vs))) h3 h2 nz
    have e : Ex W.F (upd W.F p (.frz od (.dK (List.zip (dkeys kvs) vs)))) := Ex.new h2
    refine ⟨S.g0, gB, by rw [List.length_set]; exact S.len, fun j d hj => ?_, fun j t hj o => ?_, fun j k s t r ne hs ht os ot a b => ?_⟩
    · by_cases q : i = j
      · subst q
        rw [List.getElem?_set_self hl] at hj
        cases hj
        exact ⟨.ref p, h1, .dic upd_same rfl (h5.mono e)⟩
      · rw [List.getElem?_set_ne q] at hj
        obtain ⟨v, a1, a2⟩ := S.val j d hj
        exact ⟨v, a1, a2.mono e⟩
    · by_cases q : i = j
      · subst q
        rw [List.getElem?_set_self hl] at hj
        cases hj
        cases o
      · rw [List.getElem?_set_ne q] at hj
        obtain ⟨r, a1, a2, a3, a4⟩ := S.own j t hj o
        have hne : r ≠ p := fun z => by
          subst z
          exact S.dis i j _ t r q hi hj rfl o h1 a1
        refine ⟨r, a1, ?_, a3, a4.mono e fun u q => ?_⟩
        · show upd W.F p _ r = none
          rw [upd_ne hne]
          exact a2
        · show upd W.H p _ r = some u
          rw [upd_ne hne]
          exact q
    · have old : ∀ {m : Nat} {u : Slot}, (se.set i (.v (.dic kvs)))[m]? = some u → isOwn u = true → se[m]? = some u := fun {m u} q ow => by
        by_cases hm : i = m
        · subst hm
          rw [List.getElem?_set_self hl] at q
          cases q
          cases ow
        · rw [List.getElem?_set_ne hm] at q
          exact q
      exact S.dis j k s t r ne (old hs os) (old ht ot) os ot a b
  · exact h.run pins s σ W.H Dn I ⟨Z, W0, se, W, rfl, S, q⟩
end

/-! ### names bound to comprehensions -/
section
variable {X : Cx} {i : Nat} {y : Str} {py : Pos} {elt kx vx tge iter : Expr} {ifs : List Expr} {scope : Scope} {own : List (Str × Nat)} {pos spos : Pos} {fi : EnvD → M (List D)} {tg : TgF} {is : List Nat} {ft : EnvD → M Bool} {fk fe : EnvD → M D} {g : TG}
theorem ds_lcN (i : Nat) (hc : X.calm = true) (hN : X.N.Nodup) (hy : X.N[i]? = some y) (hyl : X.env.scope.names.lookup y = some .local)
    (hsw : swapsWith (.ListComp elt [⟨tge, iter, ifs, 0⟩] scope pos) (some (.Name y py)) spos.line X.env = pure true) (hi : PI X tge iter (iD (gx X) fi)) (ok : BlkOk X.N X.env.scope scope own)
    (hg : ∀ (s : Shared) (H : Hp) (C : Addr) (cl : List (Str × Addr)) (fp : List Addr), PG (X.blk s H scope (compEnvC scope cl C X.env) fp) tge g) (tr : TgR (gx X) g is tg) (hv : ∀ i ∈ is, i ∈ own.map (·.2))
    (ht : ∀ (s : Shared) (H : Hp) (C : Addr) (cl : List (Str × Addr)) (fp : List Addr), PTs (X.blk s H scope (compEnvC scope cl C X.env) fp) ifs (tDT (gx X) ft))
    (he : ∀ (s : Shared) (H : Hp) (C : Addr) (cl : List (Str × Addr)) (fp : List Addr), PE (X.blk s H scope (compEnvC scope cl C X.env) fp) elt (tD (gx X) fe)) (hs : ∀ x, foldedSetIterable iter X.env x = pure x := by intro _; rfl) :
    PS X (.Assign [.Name y py] (.ListComp elt [⟨tge, iter, ifs, 0⟩] scope pos) spos) (tS (gx X) (sNew i (nLc (own.map (·.2)) fi tg ft fe))) :=
  (ps_setLc hc hN hy hyl hsw hi ok hg ht he hs).weak fun Dn σ H q => (lc_r tr hv (new_r q) : tLc _ _ _ _ _ σ H _)
theorem ds_lcV (i : Nat) (hc : X.calm = true) (hN : X.N.Nodup) (hy : X.N[i]? = some y) (hyl : X.env.scope.names.lookup y = some .local)
    (hsw : swapsWith (.ListComp elt [⟨tge, iter, ifs, 0⟩] scope pos) (some (.Name y py)) spos.line X.env = pure true) (hi : PI X tge iter (iD (gx X) fi)) (ok : BlkOk X.N X.env.scope scope own)
    (hg : ∀ (s : Shared) (H : Hp) (C : Addr) (cl : List (Str × Addr)) (fp : List Addr), PG (X.blk s H scope (compEnvC scope cl C X.env) fp) tge g) (tr : TgR (gx X) g is tg) (hv : ∀ i ∈ is, i ∈ own.map (·.2))
    (ht : ∀ (s : Shared) (H : Hp) (C : Addr) (cl : List (Str × Addr)) (fp : List Addr), PTs (X.blk s H scope (compEnvC scope cl C X.env) fp) ifs (tDT (gx X) ft))
    (he : ∀ (s : Shared) (H : Hp) (C : Addr) (cl : List (Str × Addr)) (fp : List Addr), PE (X.blk s H scope (compEnvC scope cl C X.env) fp) elt (tD (gx X) fe)) (hs : ∀ x, foldedSetIterable iter X.env x = pure x := by intro _; rfl) :
    PS X (.Assign [.Name y py] (.ListComp elt [⟨tge, iter, ifs, 0⟩] scope pos) spos) (tS (gx X) (sSet i (eN (nLc (own.map (·.2)) fi tg ft fe)))) :=
  (ps_setLc hc hN hy hyl hsw hi ok hg ht he hs).weak fun Dn σ H q => (lc_r tr hv (n_r (set_r q)) : tLc _ _ _ _ _ σ H _)
theorem ds_dcV (i : Nat) (hc : X.calm = true) (hN : X.N.Nodup) (hy : X.N[i]? = some y) (hyl : X.env.scope.names.lookup y = some .local)
    (hsw : swapsWith (.DictComp kx vx [⟨tge, iter, ifs, 0⟩] scope pos) (some (.Name y py)) spos.line X.env = pure true) (hi : PI X tge iter (iD (gx X) fi)) (ok : BlkOk X.N X.env.scope scope own)
    (hg : ∀ (s : Shared) (H : Hp) (C : Addr) (cl : List (Str × Addr)) (fp : List Addr), PG (X.blk s H scope (compEnvC scope cl C X.env) fp) tge g) (tr : TgR (gx X) g is tg) (hv : ∀ i ∈ is, i ∈ own.map (·.2))
    (ht : ∀ (s : Shared) (H : Hp) (C : Addr) (cl : List (Str × Addr)) (fp : List Addr), PTs (X.blk s H scope (compEnvC scope cl C X.env) fp) ifs (tDT (gx X) ft))
    (hk : ∀ (s : Shared) (H : Hp) (C : Addr) (cl : List (Str × Addr)) (fp : List Addr), PE (X.blk s H scope (compEnvC scope cl C X.env) fp) kx (tD (gx X) fk))
    (he : ∀ (s : Shared) (H : Hp) (C : Addr) (cl : List (Str × Addr)) (fp : List Addr), PE (X.blk s H scope (compEnvC scope cl C X.env) fp) vx (tD (gx X) fe)) (hs : ∀ x, foldedSetIterable iter X.env x = pure x := by intro _; rfl) :
    PS X (.Assign [.Name y py] (.DictComp kx vx [⟨tge, iter, ifs, 0⟩] scope pos) spos) (tS (gx X) (sSet i (eD (nDc (own.map (·.2)) fi tg ft fk fe)))) :=
  ds_lockD ((ps_setDc hc hN hy hyl hsw hi ok hg ht hk he hs).weak fun Dn σ H q => (dc_r tr hv q : tDc _ _ _ _ _ _ σ H _))

/-! ### {e for ..}, ints -/
def addI (ns : List Int) (k : Int) : List Int := match hasI ns k with
  | true => ns
  | false => ns ++ [k]
def goSc (vs : List Nat) (tg : TgF) (ft : EnvD → M Bool) (fe : EnvD → M D) (env : EnvD) : List D → List Int → M (List Int)
  | [], acc => .ret acc
  | d :: r, acc => match tg d (wipeD env vs) with
    | none => .bad
    | some env1 => do
      let b ← ft env1
      match b with
      | true => do
        let y ← fe env1
        let k ← asI y
        goSc vs tg ft fe env r (addI acc k)
      | false => goSc vs tg ft fe env r acc
def eSc (vs : List Nat) (fi : EnvD → M (List D)) (tg : TgF) (ft : EnvD → M Bool) (fe : EnvD → M D) : EnvD → M D := fun env => do
  let ds ← fi env
  let ns ← gd (Nat.ble ds.length 4000) (goSc vs tg ft fe env ds [])
  .ret (.sti ns)
theorem addI_len (ns : List Int) (k : Int) : (addI ns k).length ≤ ns.length + 1 := by
  unfold addI
  cases hasI ns k with
  | true => exact Nat.le_succ _
  | false => simp
theorem sc_r {G : Gx} {vs is : List Nat} {fi : EnvD → M (List D)} {g : TG} {tg : TgF} {ft : EnvD → M Bool} {fe : EnvD → M D} {σ : L2.St} {H : Hp} {Q : VK} {X : Cx} (hG : G = gx X) (tr : TgR G g is tg) (hv : ∀ i ∈ is, i ∈ vs) (h : tD G (eSc vs fi tg ft fe) σ H Q) :
    tSc1 (X := X) (acI X.prog X.w X.K) (iD G fi) g (tDT G ft) (tD G fe) vs σ H Q := by
  obtain ⟨Z, env, W, hW, ok, h⟩ := h
  subst hW
  refine ⟨Z, env, W, rfl, ok, M.wp_mono (fun n1 ds h1 J F1 H1 g1 it => ?_) (wp_then h)⟩
  have h1 := wp_then h1
  obtain ⟨hlen, h1⟩ := gd_wp h1
  have hlen := Nat.le_of_ble_eq_true hlen
  intro Da hD
  have nz : ¬ Z.has Da := g1.gd.noHas hD
  have Oeq : ∀ (S : Int → Bool) n, (acI X.prog X.w X.K).O Da (S, n) = SetO G.w Da S n := fun S n => by subst hG; rfl
  have Oz : (acI X.prog X.w X.K).O Da (acI X.prog X.w X.K).zero = SetO G.w Da (fun _ => false) 0 := Oeq _ _
  let End : Nat → List Int → Prop := fun n2 ns => (M.ret (D.sti ns)).wp n2 (Aft G Z W Q)
  refine ⟨fun i m H' => m = ds.length - i ∧ i ≤ ds.length ∧ ∃ F' n' S accD, Gr Z ⟨F1, H1, n1⟩ ⟨F', H', n'⟩ ∧ F' Da = none ∧ H' Da = some (SetO G.w Da S accD.length) ∧ (∀ k, S k = decide (k ∈ accD)) ∧ accD.length ≤ i ∧
    (goSc vs tg ft fe env (ds.drop i) accD).wp n' End,
    ⟨_, rfl, Nat.zero_le _, F1, n1, _, [], Gr.allocH g1.gd hD, g1.gd.noF hD, by rw [Oz]; exact upd_same, fun k => rfl, Nat.le_refl _, h1⟩, ?_⟩
  rintro i m H' ⟨rfl, hi, F', n', S, accD, g', hF', hH', hS, hal, hw⟩
  have gW := g1.trans g'
  obtain ⟨it1, it2⟩ := it i ⟨F', H', n'⟩ g'.ff g'.gd
  by_cases hlt : i < ds.length
  · have hd : ds[i]? = some ds[i] := List.getElem?_eq_getElem hlt
    obtain ⟨go, yl⟩ := it1 _ hd
    rw [List.drop_eq_getElem_cons hlt] at hw
    unfold goSc at hw
    cases ht : tg ds[i] (wipeD env vs) with
    | none =>
      rw [ht] at hw
      exact hw.elim
    | some env1 =>
      rw [ht] at hw
      refine .inr ⟨go, fun H'' => ∃ F'' n'' S' accD', Gr Z ⟨F1, H1, n1⟩ ⟨F'', H'', n''⟩ ∧ F'' Da = none ∧ H'' Da = some (SetO G.w Da S' accD'.length) ∧ (∀ k, S' k = decide (k ∈ accD')) ∧ accD'.length ≤ i + 1 ∧
        (goSc vs tg ft fe env (ds.drop (i + 1)) accD').wp n'' End, fun H'' q => ⟨ds.length - (i + 1), by omega, rfl, hlt, q⟩, fun x H2 y => ?_⟩
      obtain ⟨F2, g2, rx⟩ := yl x H2 y
      have g12 := g'.trans g2
      have hF2 := g2.unk hH' hF'
      have hH2 := g2.hh _ _ hH' nz
      have okw : Ok G Z (wipeD env vs) (L2.wipe σ vs) ⟨F2, H2, n'⟩ := ⟨g2.gd, (ok.env.wipe vs).mono (gW.trans g2).ff⟩
      refine tr Z _ env1 _ ⟨F2, H2, n'⟩ x _ okw rx ht _ fun σ1 ok1 hwp => ⟨by rw [hwp vs hv, wipe_wipe], ?_⟩
      refine ⟨Z, env1, ⟨F2, H2, n'⟩, rfl, ok1, M.wp_mono (fun n3 b h3 F3 H3 g3 => ?_) (wp_then hw)⟩
      have hF3 := g3.unk hH2 hF2
      have hH3 := g3.hh _ _ hH2 nz
      have g13 := g12.trans g3
      cases b with
      | false => exact ⟨F3, n3, S, accD, g13, hF3, hH3, hS, by omega, h3⟩
      | true =>
        show tD G fe σ1 H3 _
        refine ⟨Z, env1, ⟨F3, H3, n3⟩, rfl, ok1.step g3, M.wp_mono (fun n4 y4 h4 v4 F4 H4 g4 r4 => ?_) (wp_then h3)⟩
        obtain ⟨k, rfl, h4⟩ := asI_wp (wp_then h4)
        have hF4 := g4.unk hH3 hF3
        have hH4 := g4.hh _ _ hH3 nz
        refine ⟨(S, accD.length), by rw [Oeq]; exact hH4, k, by cases r4; rfl, Nat.lt_of_le_of_lt (show accD.length + 1 ≤ 4001 by omega) (by unfold scanBound; decide), F4, n4, (fun j => S j || decide (j = k)), addI accD k, (g13.trans g4).poke hD hF4 nz, hF4, ?_, fun j => ?_, Nat.le_trans (addI_len accD k) (by omega), h4⟩
        · rw [Oeq]
          have el : (if S k = true then accD.length else accD.length + 1) = (addI accD k).length := by
            unfold addI
            rw [hasI_eq, ← hS k]
            cases S k <;> simp
          show upd H4 Da _ Da = _
          rw [upd_same, ← el]
        · show (S j || decide (j = k)) = decide (j ∈ addI accD k)
          unfold addI
          rw [hS j, hasI_eq]
          by_cases hk : k ∈ accD
          · rw [decide_eq_true hk]
            show _ = decide (j ∈ accD)
            by_cases hj : j = k
            · subst hj
              simp [hk]
            · simp [hj]
          · rw [decide_eq_false hk]
            show _ = decide (j ∈ accD ++ [k])
            by_cases h1 : j ∈ accD <;> by_cases h2 : j = k <;> simp [h1, h2]
  · have e : i = ds.length := by omega
    subst e
    rw [List.drop_length] at hw
    have hn : W.H Da = none := g1.back hD
    exact .inl ⟨it2 rfl, hw (.ref Da) (upd F' Da (SetO G.w Da S accD.length)) H' (gW.learn hn hH' nz hF') (.sti upd_same hS rfl)⟩
theorem de_sc (hc : X.calm = true) (hN : X.N.Nodup) (hi : PI X tge iter (iD (gx X) fi)) (ok : BlkOk X.N X.env.scope scope own)
    (hg : ∀ (s : Shared) (H : Hp) (C : Addr) (cl : List (Str × Addr)) (fp : List Addr), PG (X.blk s H scope (compEnvC scope cl C X.env) fp) tge g) (tr : TgR (gx X) g is tg) (hv : ∀ i ∈ is, i ∈ own.map (·.2))
    (ht : ∀ (s : Shared) (H : Hp) (C : Addr) (cl : List (Str × Addr)) (fp : List Addr), PTs (X.blk s H scope (compEnvC scope cl C X.env) fp) ifs (tDT (gx X) ft))
    (he : ∀ (s : Shared) (H : Hp) (C : Addr) (cl : List (Str × Addr)) (fp : List Addr), PE (X.blk s H scope (compEnvC scope cl C X.env) fp) elt (tD (gx X) fe)) (hs : ∀ x, foldedSetIterable iter X.env x = pure x := by intro _; rfl) :
    PE X (.SetComp elt [⟨tge, iter, ifs, 0⟩] scope pos) (tD (gx X) (eSc (own.map (·.2)) fi tg ft fe)) :=
  (pe_sc1 (acI X.prog X.w X.K) trivial hc hN hi ok hg ht he hs).weak fun σ H Q h => sc_r rfl tr hv h
theorem ds_scV (i : Nat) (hc : X.calm = true) (hN : X.N.Nodup) (hy : X.N[i]? = some y) (hyl : X.env.scope.names.lookup y = some .local)
    (hsw : swapsWith (.SetComp elt [⟨tge, iter, ifs, 0⟩] scope pos) (some (.Name y py)) spos.line X.env = pure true) (hi : PI X tge iter (iD (gx X) fi)) (ok : BlkOk X.N X.env.scope scope own)
    (hg : ∀ (s : Shared) (H : Hp) (C : Addr) (cl : List (Str × Addr)) (fp : List Addr), PG (X.blk s H scope (compEnvC scope cl C X.env) fp) tge g) (tr : TgR (gx X) g is tg) (hv : ∀ i ∈ is, i ∈ own.map (·.2))
    (ht : ∀ (s : Shared) (H : Hp) (C : Addr) (cl : List (Str × Addr)) (fp : List Addr), PTs (X.blk s H scope (compEnvC scope cl C X.env) fp) ifs (tDT (gx X) ft))
    (he : ∀ (s : Shared) (H : Hp) (C : Addr) (cl : List (Str × Addr)) (fp : List Addr), PE (X.blk s H scope (compEnvC scope cl C X.env) fp) elt (tD (gx X) fe)) (hs : ∀ x, foldedSetIterable iter X.env x = pure x := by intro _; rfl) :
    PS X (.Assign [.Name y py] (.SetComp elt [⟨tge, iter, ifs, 0⟩] scope pos) spos) (tS (gx X) (sSet i (eSc (own.map (·.2)) fi tg ft fe))) :=
  (ps_setSc1 (acI X.prog X.w X.K) trivial hc hN hy hyl hsw hi ok hg ht he hs).weak fun Dn σ H q => (sc_r rfl tr hv (set_r q) : tSc1 _ _ _ _ _ _ σ H _)
end
end Dv
end
section
set_option linter.all false
set_option maxRecDepth 100000
set_option maxHeartbeats 4000000
/-! B4: zip of three tuples. -/
namespace Dv
open PySem PySem.Spec PyProof.Rows L2 Evl
/-- zip of three tuples -/
def It3 (K : PySem.W.Frag) (a b c : Addr) : It :=
  ⟨fun i H => ∃ (xs ys zs : List V) (x y z : V), SqT K H a xs ∧ SqT K H b ys ∧ SqT K H c zs ∧ xs[i]? = some x ∧ ys[i]? = some y ∧ zs[i]? = some z,
    fun i H v H' => ∃ T x y z, v = .ref T ∧ H T = none ∧ H' = upd H T (.tup [x, y, z]) ∧ (∀ xs, SqT K H a xs → xs[i]? = some x) ∧ (∀ ys, SqT K H b ys → ys[i]? = some y) ∧ ∀ zs, SqT K H c zs → zs[i]? = some z,
    fun i H => ∃ xs ys zs : List V, SqT K H a xs ∧ SqT K H b ys ∧ SqT K H c zs ∧ i ≤ xs.length ∧ i ≤ ys.length ∧ i ≤ zs.length ∧ (i = xs.length ∨ i = ys.length ∨ i = zs.length)⟩
theorem turn3 {P : Program} {w : World} {K : PySem.W.Frag} {elts : List Expr} {kk : Nat} {tpos : Pos} {a b c z TI TO i1 i2 i3 : Addr} (S : ZipSep3 z TI TO i1 i2 i3 [i1, a] [i2, b] [i3, c]) (n1 : a ≠ i1) (n2 : b ≠ i2) (n3 : c ≠ i3) :
    Turn P w K (.Tuple elts kk tpos) (It3 K a b c) [z, TI, TO, i1, i2, i3] z (fun i h => IsZip h z TI TO .none ∧ IsTupOf3 h TI (.ref i1) (.ref i2) (.ref i3) ∧ (∃ x y u, IsTupOf3 h TO x y u) ∧ h.IsTupleIter i1 a i ∧ h.IsTupleIter i2 b i ∧ h.IsTupleIter i3 c i) where
  mem := by simp
  obj := fun i h st d hd => by
    obtain ⟨hz, hTI, ⟨x, y, u, hTO⟩, ⟨o1, e1, _, d1⟩, ⟨o2, e2, _, d2⟩, ⟨o3, e3, _, d3⟩⟩ := st
    have e' : d = z ∨ d = TI ∨ d = TO ∨ d = i1 ∨ d = i2 ∨ d = i3 := by simpa using hd
    rcases e' with rfl | rfl | rfl | rfl | rfl | rfl
    · exact ⟨_, hz, fun v q => nomatch q⟩
    · exact ⟨_, hTI, fun v q => nomatch q⟩
    · exact ⟨_, hTO, fun v q => nomatch q⟩
    · exact ⟨o1, e1, fun v q => by rw [d1] at q; cases q⟩
    · exact ⟨o2, e2, fun v q => by rw [d2] at q; cases q⟩
    · exact ⟨o3, e3, fun v q => by rw [d3] at q; cases q⟩
  keep := fun i h h' st k => by
    obtain ⟨hz, hTI, ⟨x, y, u, hTO⟩, h1, h2, h3⟩ := st
    exact ⟨k z (by simp) _ hz, k TI (by simp) _ hTI, ⟨x, y, u, k TO (by simp) _ hTO⟩, h1.at fun o q => k i1 (by simp) o q, h2.at fun o q => k i2 (by simp) o q, h3.at fun o q => k i3 (by simp) o q⟩
  item := by
    intro X hP hw hK hc i pins s σ H E I hf st hg
    subst hP hw hK
    obtain ⟨hz, hTI, ⟨x0, y0, u0, hTO⟩, h1, h2, h3⟩ := st
    obtain ⟨xs, ys, zs, x, y, u, qx, qy, qu, gx, gy, gu⟩ := hg
    obtain ⟨l1, r1, p1, _⟩ := I.tuple qx
    obtain ⟨l2, r2, p2, _⟩ := I.tuple qy
    obtain ⟨l3, r3, p3, _⟩ := I.tuple qu
    have lt1 : i < l1.length := by rw [← r1.length]; exact (List.getElem?_eq_some_iff.mp gx).1
    have lt2 : i < l2.length := by rw [← r2.length]; exact (List.getElem?_eq_some_iff.mp gy).1
    have lt3 : i < l3.length := by rw [← r3.length]; exact (List.getElem?_eq_some_iff.mp gu).1
    have hh : X.A.in1.handled = none := I.ok.hd hc
    have hzl : z < s.heap.objs.size := Heap.lt_size hz
    refine wpAny_pyNext_zipD3_item S (Draws.tuple hh i1 a n1 l1.toArray) (Draws.tuple hh i2 b n2 l2.toArray) (Draws.tuple hh i3 c n3 l3.toArray) hz hTI hTO ⟨h1, p1⟩ ⟨h2, p2⟩ ⟨h3, p3⟩ (by simpa using lt1) (by simpa using lt2) (by simpa using lt3)
      fun x1 x2 x3 h' tk g1 g2 g3 z' TO' t1 t2 t3 hT hsz hk => ?_
    obtain ⟨y1, e1, ry1⟩ := r1.get gx
    obtain ⟨y2, e2, ry2⟩ := r2.get gy
    obtain ⟨y3, e3, ry3⟩ := r3.get gu
    have f1 : x1 = y1 := by
      have : l1[i]? = some x1 := by simpa using g1
      rw [e1] at this
      exact (Option.some.inj this).symm
    have f2 : x2 = y2 := by
      have : l2[i]? = some x2 := by simpa using g2
      rw [e2] at this
      exact (Option.some.inj this).symm
    have f3 : x3 = y3 := by
      have : l3[i]? = some x3 := by simpa using g3
      rw [e3] at this
      exact (Option.some.inj this).symm
    subst f1 f2 f3
    refine ⟨_, rfl, wpAny_letOwnedTupleGo_zip (s := { s with heap := h', toks := tk }) z' fun h'' z'' sb => ?_⟩
    have hT2 : h''.get? s.heap.objs.size = some { cls := .type "tuple", data := .seq #[x1, x2, x3] } := (sb.2 _ (Nat.ne_of_gt hzl)).trans hT
    have new : ObjOk X.prog X.w (upd H s.heap.objs.size (.tup [x, y, u])) h'' s.heap.objs.size (.tup [x, y, u]) :=
      ⟨by show 3 ≤ sizeLine; decide, [x1, x2, x3], .cons ry1 (.cons ry2 (.cons ry3 .nil)), ⟨_, hT2, rfl, _, rfl⟩⟩
    have I1 : Inv X pins σ (upd H s.heap.objs.size (.tup [x, y, u])) { s with heap := h'', toks := tk } :=
      I.turnedNew (t' := tk) (ch := [z, TI, TO, i1, i2, i3]) (fun d o hb q => (sb.2 d (fun q' => hb (by simp [q']))).trans (hk d o (fun q' => hb (by simp [q'])) (fun q' => hb (by simp [q'])) (fun q' => hb (by simp [q'])) (fun q' => hb (by simp [q'])) (fun q' => hb (by simp [q'])) q)) hf (Nat.le_refl _) new
    refine ⟨.ref s.heap.objs.size, _, I1, rfl, ⟨_, x, y, u, rfl, I.hok.fresh (Nat.le_refl _), rfl, fun l hl => by rw [I.tuple_inj hl qx]; exact gx, fun l hl => by rw [I.tuple_inj hl qy]; exact gy, fun l hl => by rw [I.tuple_inj hl qu]; exact gu⟩, ⟨z'', ?_, ⟨x1, x2, x3, ?_⟩, ?_, ?_, ?_⟩, fun d hdm => ?_⟩
    · exact (sb.2 _ S.TIz).trans (hk _ _ S.TIz S.TITO S.TIi1 S.TIi2 S.TIi3 hTI)
    · exact (sb.2 _ S.TOz).trans TO'
    · exact t1.1.at fun o q => (sb.2 _ (Ne.symm S.zi1)).trans q
    · exact t2.1.at fun o q => (sb.2 _ (Ne.symm S.zi2)).trans q
    · exact t3.1.at fun o q => (sb.2 _ (Ne.symm S.zi3)).trans q
    · have hlt : d < s.heap.objs.size := by
        have e' : d = z ∨ d = TI ∨ d = TO ∨ d = i1 ∨ d = i2 ∨ d = i3 := by simpa using hdm
        rcases e' with rfl | rfl | rfl | rfl | rfl | rfl
        · exact hzl
        · exact Heap.lt_size hTI
        · exact Heap.lt_size hTO
        · obtain ⟨_, e, _⟩ := h1; exact Heap.lt_size e
        · obtain ⟨_, e, _⟩ := h2; exact Heap.lt_size e
        · obtain ⟨_, e, _⟩ := h3; exact Heap.lt_size e
      rw [upd_ne (Nat.ne_of_lt hlt)]
      exact (hf d hdm).1
  done := by
    intro X hP hw hK hc i pins s σ H E I hf st hg
    subst hP hw hK
    obtain ⟨hz, hTI, ⟨x0, y0, u0, hTO⟩, h1, h2, h3⟩ := st
    obtain ⟨xs, ys, zs, qx, qy, qu, b1, b2, b3, hend⟩ := hg
    obtain ⟨l1, r1, p1, _⟩ := I.tuple qx
    obtain ⟨l2, r2, p2, _⟩ := I.tuple qy
    obtain ⟨l3, r3, p3, _⟩ := I.tuple qu
    have hh : X.A.in1.handled = none := I.ok.hd hc
    have k1 : l1.toArray.size = xs.length := by rw [List.size_toArray, r1.length]
    have k2 : l2.toArray.size = ys.length := by rw [List.size_toArray, r2.length]
    have k3 : l3.toArray.size = zs.length := by rw [List.size_toArray, r3.length]
    refine wpAny_pyNext_zipD3_end S (Draws.tuple hh i1 a n1 l1.toArray) (Draws.tuple hh i2 b n2 l2.toArray) (Draws.tuple hh i3 c n3 l3.toArray) hz hTI hTO ⟨h1, p1⟩ ⟨h2, p2⟩ ⟨h3, p3⟩ (by rw [k1]; exact b1) (by rw [k2]; exact b2) (by rw [k3]; exact b3) (by rw [k1, k2, k3]; exact hend) fun h' tk hk => ⟨rfl, ?_⟩
    exact I.turnedL (t' := tk) (ch := [z, TI, TO, i1, i2, i3]) (fun d o hb q => hk d o (fun q' => hb (by simp [q'])) (fun q' => hb (by simp [q'])) (fun q' => hb (by simp [q'])) (fun q' => hb (by simp [q'])) (fun q' => hb (by simp [q'])) q) hf
  self := fun A i s Q E st h => wpAny_pyIter_zip st.1 h
def iZip3 (K : PySem.W.Frag) (ta : TA) : TI := fun σ H R => ta σ H fun vs H1 => ∃ a b c xs ys zs, vs = [.ref a, .ref b, .ref c] ∧ SqT K H1 a xs ∧ SqT K H1 b ys ∧ SqT K H1 c zs ∧ R (It3 K a b c) H1
theorem vals3 {x y z : V} {us : List Value} (r : Vals [x, y, z] us) : ∃ u v w, us = [u, v, w] ∧ RelV x u ∧ RelV y v ∧ RelV z w := by
  cases r with
  | cons a r =>
    cases r with
    | cons b r =>
      cases r with
      | cons c r =>
        cases r
        exact ⟨_, _, _, rfl, a, b, c⟩
theorem pi_zip3 {X : Cx} {e e2 e3 : Expr} {ta : TA} {p pos tpos : Pos} {elts : List Expr} {kk : Nat} (hg : Gl X "zip") (hm : X.mg "zip" = none) (ha : PA X [e, e2, e3] ta)
    (hs : starEach [e, e2, e3] X.env = (false, eval e X.env) :: starEach [e2, e3] X.env := by rfl) (hpl : (backTo pos (starEach [e2, e3] X.env)).any (·.1) = false := by rfl) :
    PI X (.Tuple elts kk tpos) (.Call (.Name "zip" p) [e, e2, e3] [] pos) (iZip3 X.K ta) := by
  refine ⟨fun pins s σ H R I h => ?_⟩
  refine Call_ (ld_blt I hg hm PyProof.Rows.boot_zip (PyProof.Rows.callWith_type1 (thn (ha.run pos pins s σ H _ I h) fun us s1 ⟨vs, H1, I1, r1, a, b, c, xs, ys, zs, ex, qx, qy, qz, q⟩ => ?_) hs hpl))
  subst ex
  obtain ⟨u1, u2, u3, eu, ra, rb, rc⟩ := vals3 r1
  subst eu
  cases (show u1 = Value.ref a from ra)
  cases (show u2 = Value.ref b from rb)
  cases (show u3 = Value.ref c from rc)
  obtain ⟨l1, r1, p1, _⟩ := I1.tuple qx
  obtain ⟨l2, r2, p2, _⟩ := I1.tuple qy
  obtain ⟨l3, r3, p3, _⟩ := I1.tuple qz
  have lta : a < s1.heap.objs.size := by obtain ⟨o, ho, _⟩ := id p1; exact Heap.lt_size ho
  have ltb : b < s1.heap.objs.size := by obtain ⟨o, ho, _⟩ := id p2; exact Heap.lt_size ho
  have ltc : c < s1.heap.objs.size := by obtain ⟨o, ho, _⟩ := id p3; exact Heap.lt_size ho
  refine zip_begins3 (begins_tuple a l1.toArray) (begins_tuple b l2.toArray) (begins_tuple c l3.toArray) p1 p2 p3 fun h' hz hTI hTO g1 g2 g3 hsz hk => wpAny_pyIter_zip hz ?_
  have I2 : Inv X pins σ H1 { s1 with heap := h' } := I1.kept (t' := s1.toks) hk
  have S := zip_sep3 (N := s1.heap.objs.size) (fp1 := [a]) (fp2 := [b]) (fp3 := [c]) (fun x hx => by rw [List.mem_singleton] at hx; rw [hx]; exact lta) (fun x hx => by rw [List.mem_singleton] at hx; rw [hx]; exact ltb) (fun x hx => by rw [List.mem_singleton] at hx; rw [hx]; exact ltc)
  refine ⟨s1.heap.objs.size + 5, [s1.heap.objs.size + 5, s1.heap.objs.size + 3, s1.heap.objs.size + 4, s1.heap.objs.size, s1.heap.objs.size + 1, s1.heap.objs.size + 2], _, It3 X.K a b c, H1, rfl, I2,
    turn3 S (Nat.ne_of_lt lta) (Nat.ne_of_lt (Nat.lt_succ_of_lt ltb)) (Nat.ne_of_lt (Nat.lt_succ_of_lt (Nat.lt_succ_of_lt ltc))), ⟨hz, hTI, ⟨_, _, _, hTO⟩, ⟨_, g1, rfl, rfl⟩, ⟨_, g2, rfl, rfl⟩, ⟨_, g3, rfl, rfl⟩⟩, fun d hdm => ?_, q⟩
  have hle : s1.heap.objs.size ≤ d := by
    have e' : d = s1.heap.objs.size + 5 ∨ d = s1.heap.objs.size + 3 ∨ d = s1.heap.objs.size + 4 ∨ d = s1.heap.objs.size ∨ d = s1.heap.objs.size + 1 ∨ d = s1.heap.objs.size + 2 := by simpa using hdm
    rcases e' with rfl | rfl | rfl | rfl | rfl | rfl
    · exact Nat.le_add_right _ _
    · exact Nat.le_add_right _ _
    · exact Nat.le_add_right _ _
    · exact Nat.le_refl _
    · exact Nat.le_add_right _ _
    · exact Nat.le_add_right _ _
  exact I1.fpOk hle (I1.hok.fresh hle)
end Dv
end
section
set_option linter.all false
set_option maxRecDepth 100000
set_option maxHeartbeats 4000000
/-! B5: a tuple times one. -/
namespace Dv
open PySem PySem.Spec PyProof.Rows L2 Evl
theorem tuple_mul1 (l : Addr) (items : Array Value) (n : Nat) (dd : Option Addr) (sl : Array (Option Value)) (u : Tok) :
    Meets (Builtin.«tuple.__mul__» ⟨[.ref l, .int 1 u], []⟩) (fun _ R s => s.heap.get? l = some { cls := .type "tuple", dict := dd, data := .seq items n, slots := sl } ∧ R (.ok (.ret (Value.ref l))) s) :=
  .of_wp fun prog w A R s h => by
    obtain ⟨hp, g, d, tk, os⟩ := s
    obtain ⟨hl, h⟩ := h
    have f1 := AutoSeq1.idx_int
    have c0 : (decide ((1 : Int) < -(2 ^ 63)) || decide ((1 : Int) ≥ 2 ^ 63)) = false := by decide
    have c1 : (items.isEmpty || (1 : Int) == 1) = true := by rw [show ((1 : Int) == 1) = true from rfl, Bool.or_true]
    wp_walk using wpAny_loadPart' hl
    repeat (first
      | (refine wpAny_ite_false (decide_eq_false (by rw [c0]; exact Bool.false_ne_true)) ?_; wp_walk using wpAny_loadPart' hl)
      | (refine wpAny_ite_true (decide_eq_true c1) ?_; wp_walk using wpAny_loadPart' hl))
    exact ⟨_, rfl, h⟩
def rRep1 (K : PySem.W.Frag) : R2 := fun x y H Q => ∃ l xs, x = .ref l ∧ y = .int 1 ∧ SqT K H l xs ∧ Q (.ref l) H
section
variable {X : Cx}
theorem op_rep1 : OpR X (binaryOp .Mult) (rRep1 X.K) := by
  intro pins s σ H x y v u Q I rx ry h
  obtain ⟨l, xs, rfl, rfl, hT, q⟩ := h
  cases rx
  obtain ⟨t, rfl⟩ := ry
  obtain ⟨its, r, ⟨⟨cls, dd, data, sl⟩, ho, hc, n, hd⟩, hs⟩ := I.tuple hT
  simp only at hc hd
  subst hc hd
  exact wpAny_binaryOp_repeat_ref (T := "tuple") (U := "int") (by decide) ⟨_, ho, rfl⟩ (fun s' => typeIs_int s' 1 t) noFill_tuple_mul F.fills_int_mul F.slot_int_rmul repeat_tuple F.slot_int_index.lookup
    (call_meets F.slot_int_rmul (typeIs_int s 1 t) F.entry_int_rmul (F.args_int_rmul_2 _ _) (int_rmul_tuple 1 t l its.toArray n dd sl)
      ⟨ho, rfl, ⟨_, ho, rfl⟩, call_meets F.slot_tuple_mul ⟨_, ho, rfl⟩ F.entry_tuple_mul (F.args_tuple_mul_2 _ _) (tuple_mul1 l its.toArray n dd sl t) ⟨ho, ⟨.ref l, H, I, rfl, q⟩⟩⟩)
end
end Dv
end
section
set_option linter.all false
set_option maxRecDepth 100000
set_option maxHeartbeats 4000000
/-! B6: enumerate of a tuple. -/
namespace Dv
open PySem PySem.Spec PyProof.Rows L2 Evl
theorem enum1_new {v : Value} {o : Obj} {H : Heap → Prop} (B : Begins v o H) :
    Meets (Builtin.«enumerate.__new__» ⟨[.type "enumerate", v], []⟩) (fun _ R s => H s.heap ∧
      R (.ok (.ret (.ref (s.heap.push o).objs.size))) { s with heap := (s.heap.push o).push { cls := .type "enumerate", data := .fields #[.none, .bool false, .ref s.heap.objs.size, rawInt 0, .none, .none] } }) :=
  .of_wp fun prog w A R s h => by
    obtain ⟨hp, g, d, tk, os⟩ := s
    obtain ⟨h1, h⟩ := h
    have hsub := sub_enumerate
    have q1 : ∀ {A' : Around} {E : Value → Shared → Prop} {Q : Value → Shared → Prop}, Q (.ref hp.objs.size) ⟨hp.push o, g, d, tk, os⟩ → wpAny (model prog w) A' (pyIter v) Q E ⟨hp, g, d, tk, os⟩ := fun q => B.iter prog w _ _ ⟨hp, g, d, tk, os⟩ _ h1 q
    wp_walk using q1
    refine wpAny_stack_any fun st => wpAny_pure ?_
    split
    · rename_i c _ _ _ _ _
      cases (c == Value.type "enumerate") <;> (wp_walk using q1; exact ⟨_, rfl, h⟩)
    · wp_walk using q1
      exact ⟨_, rfl, h⟩
section
variable {prog : Program} {w : World} {A : Around} {E : Value → Shared → Prop} {s : Shared}
theorem enum1 {v : Value} {o : Obj} {H : Heap → Prop} {Q : Value → Shared → Prop} (B : Begins v o H) (h1 : H s.heap)
    (h : ∀ h', IsEnum h' (s.heap.objs.size + 1) s.heap.objs.size 0 .none → h'.get? s.heap.objs.size = some o → h'.objs.size = s.heap.objs.size + 2 → (∀ b o, s.heap.get? b = some o → h'.get? b = some o) → Q (.ref (s.heap.objs.size + 1)) { s with heap := h' }) :
    wpAny (model prog w) A (call (.type "enumerate") [v]) Q E s := by
  refine callType_new F.called_enumerate (by decide) (F.typeCall_enumerate_1 _) (F.newCall_enumerate_1 _) (fun obj => F.args_object_init_2 obj _) F.entry_enumerate_new (enum1_new B) ⟨h1, ?_⟩
  have hz : (s.heap.push o).objs.size = s.heap.objs.size + 1 := Heap.size_push ..
  show _ ∧ _
  rw [hz]
  have he : IsEnum ((s.heap.push o).push { cls := .type "enumerate", data := .fields #[.none, .bool false, .ref s.heap.objs.size, rawInt 0, .none, .none] }) (s.heap.objs.size + 1) s.heap.objs.size 0 .none := by
    have := Heap.get?_push_size (s.heap.push o) (o := { cls := .type "enumerate", data := .fields #[.none, .bool false, .ref s.heap.objs.size, rawInt 0, .none, .none] }) rfl
    rw [hz] at this
    exact this
  exact ⟨⟨_, he, rfl⟩, h _ he (Heap.get?_push_of_some _ (Heap.get?_push_size _ B.free)) (by rw [Heap.size_push, hz]) fun b o x => Heap.get?_push_of_some _ (Heap.get?_push_of_some _ x)⟩
end
def IteT (K : PySem.W.Frag) (a : Addr) : It :=
  ⟨fun i H => ∃ (xs : List V) (x : V), SqT K H a xs ∧ xs[i]? = some x, fun i H v H' => ∃ T x, v = .ref T ∧ H T = none ∧ H' = upd H T (.tup [.int (i : Nat), x]) ∧ ∀ xs, SqT K H a xs → xs[i]? = some x, fun i H => ∃ xs : List V, SqT K H a xs ∧ i = xs.length⟩
theorem turn_enumT {P : Program} {w : World} {K : PySem.W.Frag} {elts : List Expr} {kk : Nat} {tpos : Pos} (a e it : Addr) (na : a ≠ it) (nea : e ≠ a) :
    Turn P w K (.Tuple elts kk tpos) (IteT K a) [e, it] e (fun i h => (∃ old, IsEnum h e it ((i : Nat) : Int) old) ∧ h.IsTupleIter it a i ∧ e ≠ it) where
  mem := by simp
  obj := fun i h st b hb => by
    obtain ⟨⟨old, he⟩, ⟨o, ho, hc, hd⟩, _⟩ := st
    have e' : b = e ∨ b = it := by simpa using hb
    rcases e' with rfl | rfl
    · exact ⟨_, he, fun v q => nomatch q⟩
    · exact ⟨o, ho, fun v q => by rw [hd] at q; cases q⟩
  keep := fun i h h' st k => let ⟨⟨old, he⟩, hi, hne⟩ := st; ⟨⟨old, k e (by simp) _ he⟩, hi.at fun o q => k it (by simp) o q, hne⟩
  item := by
    intro X hP hw hK hc i pins s σ H E I hf st hg
    subst hP hw hK
    obtain ⟨⟨old, he⟩, hit, hne⟩ := st
    obtain ⟨xs, x, hq, hx⟩ := hg
    obtain ⟨its, rv, p, _⟩ := I.tuple hq
    obtain ⟨y, hy, ry⟩ := rv.get hx
    have hel : e < s.heap.objs.size := Heap.lt_size he
    have hil : it < s.heap.objs.size := by obtain ⟨_, q, _⟩ := hit; exact Heap.lt_size q
    have hh : X.A.in1.handled = none := I.ok.hd hc
    have lt : i < its.length := (List.getElem?_eq_some_iff.mp hy).1
    have hef : e ∉ [it, a] := by simp [hne, nea]
    refine wpAny_pyNext_enum_itemC (Draws.tuple hh it a na its.toArray) he ⟨hit, p⟩ (by simpa using lt) hne hef fun u h' tk hP ho hit' hT hsz hk => ?_
    have eu : u = y := by
      have : its[i]? = some u := by simpa using hP
      rw [hy] at this
      exact (Option.some.inj this).symm
    subst eu
    refine ⟨_, rfl, wpAny_letOwnedTupleGo_enum (s := { s with heap := h', toks := tk + 1 }) ho fun h'' he' sb => ?_⟩
    have hT2 : h''.get? s.heap.objs.size = some { cls := .type "tuple", data := .seq #[.int (i : Nat) tk, u] } := (sb.2 _ (Nat.ne_of_gt hel)).trans hT
    have new : ObjOk X.prog X.w (upd H s.heap.objs.size (.tup [.int (i : Nat), x])) h'' s.heap.objs.size (.tup [.int (i : Nat), x]) :=
      ⟨by show 2 ≤ sizeLine; decide, [.int (i : Nat) tk, u], .cons ⟨_, rfl⟩ (.cons ry .nil), ⟨_, hT2, rfl, _, rfl⟩⟩
    have I1 : Inv X pins σ (upd H s.heap.objs.size (.tup [.int (i : Nat), x])) { s with heap := h'', toks := tk + 1 } :=
      I.turnedNew (ch := [e, it]) (fun b ob hb q => (sb.2 b (fun z => hb (by simp [z]))).trans (hk b ob (fun z => hb (by simp [z])) (fun z => hb (by simp [z])) q)) hf (Nat.le_refl _) new
    refine ⟨.ref s.heap.objs.size, _, I1, rfl, ⟨_, x, rfl, I.hok.fresh (Nat.le_refl _), rfl, fun ys hy => by rw [I.tuple_inj hy hq]; exact hx⟩, ⟨⟨u, ?_⟩, hit'.1.at fun o q => (sb.2 it (Ne.symm hne)).trans q, hne⟩, fun b hb => ?_⟩
    · have e1 : ((i + 1 : Nat) : Int) = (i : Int) + 1 := by omega
      rw [e1]
      exact he'
    · have e' : b = e ∨ b = it := by simpa using hb
      have hb' : b < s.heap.objs.size := by
        rcases e' with rfl | rfl
        · exact hel
        · exact hil
      rw [upd_ne (Nat.ne_of_lt hb')]
      exact (hf b hb).1
  done := by
    intro X hP hw hK hc i pins s σ H E I hf st hg
    subst hP hw hK
    obtain ⟨⟨old, he⟩, hit, hne⟩ := st
    obtain ⟨xs, hq, hx⟩ := hg
    obtain ⟨its, rv, p, _⟩ := I.tuple hq
    obtain ⟨f0, f1, f2, f3, f4, f5⟩ := hf it (by simp)
    have hh : X.A.in1.handled = none := I.ok.hd hc
    have en : i = its.toArray.size := by rw [List.size_toArray, ← rv.length]; exact hx
    exact wpAny_pyNext_enum_endD (Draws.tuple hh it a na its.toArray) he (by rw [← en]; exact ⟨hit, p⟩) fun h' eb => ⟨rfl, I.turned (t' := s.toks) (fun b o hb q => eb b o hb q) f0 f1 f3 f4 f5⟩
  self := fun A i s Q E st h => let ⟨⟨_, he⟩, _⟩ := st; wpAny_pyIter_enum he h
def iEnumT (K : PySem.W.Frag) (ta : TA) : TI := fun σ H R => ta σ H fun vs H1 => ∃ a xs, vs = [.ref a] ∧ ((SqL K H1 a xs ∧ R (Ite K a) H1) ∨ (SqT K H1 a xs ∧ R (IteT K a) H1))
theorem pi_enumA {X : Cx} {e : Expr} {ta : TA} {p pos tpos : Pos} {elts : List Expr} {kk : Nat} (hg : Gl X "enumerate") (hm : X.mg "enumerate" = none) (ha : PA X [e] ta) (hs : starEach [e] X.env = [(false, eval e X.env)] := by rfl) :
    PI X (.Tuple elts kk tpos) (.Call (.Name "enumerate" p) [e] [] pos) (iEnumT X.K ta) := by
  refine ⟨fun pins s σ H R I h => ?_⟩
  refine Call_ (ld_blt I hg hm boot_enumerate (PyProof.Rows.callWith_type1 (thn (ha.run pos pins s σ H _ I h) fun us s1 ⟨vs, H1, I1, r1, a, xs, ex, q⟩ => ?_) hs rfl))
  subst ex
  rw [Vals.ref1 r1]
  have two : ∀ b, b ∈ [s1.heap.objs.size + 1, s1.heap.objs.size] → s1.heap.objs.size ≤ b := fun b hb => by
    have e' : b = s1.heap.objs.size + 1 ∨ b = s1.heap.objs.size := by simpa using hb
    rcases e' with rfl | rfl
    · exact Nat.le_succ _
    · exact Nat.le_refl _
  rcases q with ⟨hq, q⟩ | ⟨hq, q⟩
  · obtain ⟨its, rv, p', hz⟩ := I1.list hq
    refine call_enumerate_list p'.isList fun h' he hit hsz hk => wpAny_pyIter_enum he ?_
    exact ⟨s1.heap.objs.size + 1, [s1.heap.objs.size + 1, s1.heap.objs.size], _, _, H1, rfl, I1.kept (t' := s1.toks) hk, turn_enum a (s1.heap.objs.size + 1) s1.heap.objs.size, ⟨⟨.none, he⟩, hit, Nat.succ_ne_self _⟩, fun b hb => I1.fpOk (two b hb) (I1.hok.fresh (two b hb)), q⟩
  · obtain ⟨its, rv, p', hz⟩ := I1.tuple hq
    have lta : a < s1.heap.objs.size := by obtain ⟨o, ho, _⟩ := id p'; exact Heap.lt_size ho
    refine enum1 (begins_tuple a its.toArray) p' fun h' he hit hsz hk => wpAny_pyIter_enum he ?_
    exact ⟨s1.heap.objs.size + 1, [s1.heap.objs.size + 1, s1.heap.objs.size], _, _, H1, rfl, I1.kept (t' := s1.toks) hk, turn_enumT a (s1.heap.objs.size + 1) s1.heap.objs.size (Nat.ne_of_lt lta) (Nat.ne_of_gt (Nat.lt_succ_of_lt lta)), ⟨⟨.none, he⟩, ⟨_, hit, rfl, rfl⟩, Nat.succ_ne_self _⟩, fun b hb => I1.fpOk (two b hb) (I1.hok.fresh (two b hb)), q⟩
end Dv
end
section
set_option linter.all false
set_option maxRecDepth 100000
set_option maxHeartbeats 4000000
/-! A12: stars, -1, tuple * int, zip of three, enumerate of tuples, list comprehensions with two fors, targets of blocks. -/
namespace Dv
open PySem PySem.Spec PyProof.Rows L2 Evl
section
variable {X : Cx} {a b e : Expr} {es : List Expr} {pos p p1 : Pos} {fa fb : EnvD → M D} {fs : EnvD → M (List D)}
theorem da_star (he : PE X e (tD (gx X) fa)) (hr : PA X es (tDA (gx X) fs)) (hs : starEach (.Starred e p :: es) X.env = (true, eval e X.env) :: starEach es X.env := by rfl) : PA X (.Starred e p :: es) (tDA (gx X) (aStar fa fs)) :=
  (StX.pa_star he hr hs).weak fun σ H Q ⟨Z, env, W, hW, ok, h⟩ => by
    subst hW
    refine ⟨Z, env, W, rfl, ok, M.wp_mono (fun n1 d1 h1 v1 F1 H1 g1 r1 => ?_) (wp_then h)⟩
    obtain ⟨ds, hd, h1⟩ := asSeq_wp (wp_then h1)
    have fin : ∀ (q : Addr) (vs : List V), v1 = .ref q → (SqT X.K H1 q vs ∨ SqL X.K H1 q vs) → Reps (gx X) Z F1 vs ds → ∃ p xs, v1 = V.ref p ∧ (SqT X.K H1 p xs ∨ SqL X.K H1 p xs) ∧ tDA (gx X) fs σ H1 fun ys H2 => Q (xs ++ ys) H2 := fun q vs e1 hq rs =>
      ⟨q, vs, e1, hq, Z, env, ⟨F1, H1, n1⟩, rfl, ok.step g1, M.wp_mono (fun n2 es2 h2 ws F2 H2 g2 r2 => h2 (vs ++ ws) F2 H2 (g1.trans g2) ((rs.mono g2.ff).append r2)) (wp_then h1)⟩
    rcases hd with rfl | rfl
    · obtain ⟨q, vs, e1, hs, rs⟩ := rep_tup r1
      exact fin q vs e1 (.inl (ex_t g1.gd.sub hs)) rs
    · obtain ⟨q, vs, e1, hs, rs⟩ := rep_lst r1
      exact fin q vs e1 (.inr (SqL.of (g1.gd.sub _ _ hs))) rs
def gNeg : D → M D
  | .int i => .ret (.int (-i))
  | _ => .bad
theorem de_neg (ha : PE X a (tD (gx X) fa)) : PE X (.UnaryOp .USub a pos) (tD (gx X) (eUn gNeg fa)) :=
  (pe_un un_neg ha).weak fun σ H Q ⟨Z, env, W, hW, ok, h⟩ => by
    subst hW
    refine ⟨Z, env, W, rfl, ok, M.wp_mono (fun n1 d1 h1 v1 F1 H1 g1 r1 => ?_) (wp_then h)⟩
    unfold gNeg at h1
    split at h1
    · cases r1
      exact ⟨_, rfl, h1 _ F1 H1 g1 (.int _)⟩
    · exact h1.elim
theorem rep_flat {G : Gx} {Z : Zs} {F : Hp} {vs : List V} {ds : List D} (r : Reps G Z F vs ds) : ∀ n : Nat, Reps G Z F (List.replicate n vs).flatten (List.replicate n ds).flatten
  | 0 => .nil
  | n + 1 => by
    rw [List.replicate_succ, List.replicate_succ, List.flatten_cons, List.flatten_cons]
    exact r.append (rep_flat r n)
theorem op_mulD : OpR X (binaryOp .Mult) (opD (gx X) gMul) := by
  refine (op_mul.or ((op_rep1 (X := X)).or op_repT)).weak fun x y H Q ⟨Z, W, d, e, hW, g, rx, ry, h⟩ => ?_
  subst hW
  unfold gMul at h
  split at h
  · obtain ⟨h1, h⟩ := gd_wp h
    have h1 := of_decide_eq_true h1
    cases rx
    cases ry
    exact .inl ⟨_, _, rfl, rfl, .inl ⟨by omega, by omega⟩, h _ W.F W.H (Gr.refl g) (.int _)⟩
  · rename_i xs j
    obtain ⟨h1, h⟩ := gd_wp h
    simp only [Bool.and_eq_true, decide_eq_true_eq, Bool.not_eq_true', Nat.ble_eq] at h1
    obtain ⟨⟨⟨h1, h2⟩, h3⟩, h4⟩ := h1
    obtain ⟨l, vs, rfl, hs, rs⟩ := rep_tup rx
    cases ry
    by_cases hj : j = 1
    · subst hj
      have e1 : (List.replicate (Int.toNat 1) xs).flatten = xs := by
        show (List.replicate 1 xs).flatten = xs
        simp
      rw [e1] at h
      exact .inr (.inl ⟨l, vs, rfl, rfl, ex_t g.sub hs, h _ W.F W.H (Gr.refl g) rx⟩)
    · refine .inr (.inr ⟨l, j, vs, rfl, rfl, ex_t g.sub hs, fun z => ?_, by omega, h3, by rw [rs.length]; exact h1, fun p hp => ?_⟩)
      · have := rs.length
        rw [z] at this
        cases xs with
        | nil => cases h4
        | cons _ _ => simp at this
      · have ga := Gr.alloc g (o := .tup (List.replicate j.toNat vs).flatten) hp
        exact h (.ref p) _ _ ga (.tup (SqT.of upd_same) ((rep_flat rs j.toNat).mono ga.ff))
  · exact h.elim
end

/-! ### zip of three, enumerate -/
def zip3D : List D → List D → List D → List D
  | x :: xs, y :: ys, z :: zs => .tup [x, y, z] :: zip3D xs ys zs
  | _, _, _ => []
theorem zip3D_get : ∀ {xs ys zs : List D} {i : Nat} {d : D}, (zip3D xs ys zs)[i]? = some d → ∃ x y z, xs[i]? = some x ∧ ys[i]? = some y ∧ zs[i]? = some z ∧ d = .tup [x, y, z]
  | [], _, _, _, _, h => by simp [zip3D] at h
  | _ :: _, [], _, _, _, h => by simp [zip3D] at h
  | _ :: _, _ :: _, [], _, _, h => by simp [zip3D] at h
  | x :: xs, y :: ys, z :: zs, 0, d, h => by
    simp [zip3D] at h
    exact ⟨x, y, z, rfl, rfl, rfl, h.symm⟩
  | x :: xs, y :: ys, z :: zs, i + 1, d, h => by
    obtain ⟨a, b, c, h1, h2, h3, h4⟩ := zip3D_get (xs := xs) (ys := ys) (zs := zs) (i := i) (d := d) (by simpa [zip3D] using h)
    exact ⟨a, b, c, by simpa using h1, by simpa using h2, by simpa using h3, h4⟩
theorem zip3D_len : ∀ (xs ys zs : List D), (zip3D xs ys zs).length = min (min xs.length ys.length) zs.length
  | [], _, _ => by simp [zip3D]
  | _ :: _, [], _ => by simp [zip3D]
  | _ :: _, _ :: _, [] => by simp [zip3D]
  | x :: xs, y :: ys, z :: zs => by
    simp only [zip3D, List.length_cons, zip3D_len xs ys zs]
    omega
theorem it3_ok {G : Gx} {Z : Zs} {F : Hp} {a b c : Addr} {vs ws us : List V} {ds es fs : List D} (h : SqT G.K F a vs) (h' : SqT G.K F b ws) (h'' : SqT G.K F c us) (r : Reps G Z F vs ds) (r' : Reps G Z F ws es) (r'' : Reps G Z F us fs) : ItOk G Z (It3 G.K a b c) F (zip3D ds es fs) := by
  intro i W e g
  have hW : SqT G.K W.H a vs := ex_t (e.trans g.sub) h
  have hW' : SqT G.K W.H b ws := ex_t (e.trans g.sub) h'
  have hW'' : SqT G.K W.H c us := ex_t (e.trans g.sub) h''
  refine ⟨fun d hd => ?_, fun hl => ⟨vs, ws, us, hW, hW', hW'', ?_⟩⟩
  · obtain ⟨x, y, z, hx, hy, hz, rfl⟩ := zip3D_get hd
    obtain ⟨v, h1, h2⟩ := r.get hx
    obtain ⟨u, h3, h4⟩ := r'.get hy
    obtain ⟨t, h5, h6⟩ := r''.get hz
    refine ⟨⟨vs, ws, us, v, u, t, hW, hW', hW'', h1, h3, h5⟩, fun x H2 q => ?_⟩
    obtain ⟨T, x1, y1, z1, rfl, hT, rfl, q1, q2, q3⟩ := q
    have q1 := q1 vs hW
    have q2 := q2 ws hW'
    have q3 := q3 us hW''
    rw [h1] at q1
    rw [h3] at q2
    rw [h5] at q3
    cases q1
    cases q2
    cases q3
    have ga := Gr.alloc g (o := .tup [v, u, t]) hT
    exact ⟨_, ga, .tup (SqT.of upd_same) (.cons ((h2.mono e).mono ga.ff) (.cons ((h4.mono e).mono ga.ff) (.cons ((h6.mono e).mono ga.ff) .nil)))⟩
  · rw [zip3D_len] at hl
    rw [r.length, r'.length, r''.length]
    omega
theorem iteT_ok {G : Gx} {Z : Zs} {F : Hp} {a : Addr} {vs : List V} {ds : List D} (h : SqT G.K F a vs) (r : Reps G Z F vs ds) : ItOk G Z (IteT G.K a) F (enumD ds) := by
  intro i W e g
  have hW : SqT G.K W.H a vs := ex_t (e.trans g.sub) h
  refine ⟨fun d hd => ?_, fun hl => ⟨vs, hW, by rw [r.length, hl, enumD_len]⟩⟩
  obtain ⟨d, hd', rfl⟩ := enumD_get hd
  obtain ⟨v, h1, h2⟩ := r.get hd'
  refine ⟨⟨vs, v, hW, h1⟩, fun x H2 y => ?_⟩
  obtain ⟨T, u, rfl, hT, rfl, y⟩ := y
  have := y vs hW
  rw [h1] at this
  cases this
  have ga := Gr.alloc g (o := .tup [.int (i : Nat), v]) hT
  exact ⟨_, ga, .tup (SqT.of upd_same) (.cons (.int _) (.cons ((h2.mono e).mono ga.ff) .nil))⟩
section
variable {X : Cx} {tg a b c e : Expr} {pos p : Pos} {fs : EnvD → M (List D)}
theorem rep3 {G : Gx} {Z : Zs} {F : Hp} {vs : List V} {d e f : D} (r : Reps G Z F vs [d, e, f]) : ∃ v w u, vs = [v, w, u] ∧ Rep G Z F v d ∧ Rep G Z F w e ∧ Rep G Z F u f := by
  cases r with
  | cons r t =>
    obtain ⟨w, u, rfl, h1, h2⟩ := rep2 t
    exact ⟨_, _, _, rfl, r, h1, h2⟩
def iZip3D (fs : EnvD → M (List D)) : EnvD → M (List D) := fun env => do
  let ds ← fs env
  match ds with
  | [.tup xs, .tup ys, .tup zs] => .ret (zip3D xs ys zs)
  | _ => .bad
theorem di_zip3 {elts : List Expr} {kk : Nat} {tpos : Pos} (hg : Gl X "zip") (hm : X.mg "zip" = none) (ha : PA X [a, b, c] (tDA (gx X) fs)) (hs : starEach [a, b, c] X.env = (false, eval a X.env) :: starEach [b, c] X.env := by rfl) (hpl : (backTo pos (starEach [b, c] X.env)).any (·.1) = false := by rfl) :
    PI X (.Tuple elts kk tpos) (.Call (.Name "zip" p) [a, b, c] [] pos) (iD (gx X) (iZip3D fs)) := by
  refine (pi_zip3 hg hm ha hs hpl).weak fun σ H R ⟨Z, env, W, hW, ok, h⟩ => ?_
  subst hW
  refine ⟨Z, env, W, rfl, ok, M.wp_mono (fun n1 ds h1 vs F1 H1 g1 r1 => ?_) (wp_then h)⟩
  split at h1
  · obtain ⟨v, w, u, rfl, r1, r2, r3⟩ := rep3 r1
    obtain ⟨a, vs, rfl, hl, rs⟩ := rep_tup r1
    obtain ⟨b, ws, rfl, hl', rs'⟩ := rep_tup r2
    obtain ⟨c, us, rfl, hl'', rs''⟩ := rep_tup r3
    exact ⟨a, b, c, vs, ws, us, rfl, ex_t g1.gd.sub hl, ex_t g1.gd.sub hl', ex_t g1.gd.sub hl'', h1 _ F1 H1 g1 (it3_ok hl hl' hl'' rs rs' rs'')⟩
  · exact h1.elim
def iEnumDA (fs : EnvD → M (List D)) : EnvD → M (List D) := fun env => do
  let ds ← fs env
  match ds with
  | [.lst ds] => .ret (enumD ds)
  | [.tup ds] => .ret (enumD ds)
  | _ => .bad
theorem di_enumA {elts : List Expr} {kk : Nat} {tpos : Pos} (hg : Gl X "enumerate") (hm : X.mg "enumerate" = none) (ha : PA X [e] (tDA (gx X) fs)) (hs : starEach [e] X.env = [(false, eval e X.env)] := by rfl) : PI X (.Tuple elts kk tpos) (.Call (.Name "enumerate" p) [e] [] pos) (iD (gx X) (iEnumDA fs)) := by
  refine (pi_enumA hg hm ha hs).weak fun σ H R ⟨Z, env, W, hW, ok, h⟩ => ?_
  subst hW
  refine ⟨Z, env, W, rfl, ok, M.wp_mono (fun n1 ds h1 vs F1 H1 g1 r1 => ?_) (wp_then h)⟩
  split at h1
  · obtain ⟨v, rfl, r⟩ := rep1 r1
    obtain ⟨a, ws, rfl, hl, rs⟩ := rep_lst r
    exact ⟨a, ws, rfl, .inl ⟨SqL.of (g1.gd.sub _ _ hl), h1 _ F1 H1 g1 (ite_ok hl rs)⟩⟩
  · obtain ⟨v, rfl, r⟩ := rep1 r1
    obtain ⟨a, ws, rfl, hl, rs⟩ := rep_tup r
    exact ⟨a, ws, rfl, .inr ⟨ex_t g1.gd.sub hl, h1 _ F1 H1 g1 (iteT_ok hl rs)⟩⟩
  · exact h1.elim
end

/-! ### targets -/
section
variable {X : Cx} {pos p1 p2 p3 : Pos} {x y z : Str} {kk : Nat}
theorem bg1 (i : Nat) (hN : X.N.Nodup) (hi : X.N[i]? = some x := by rfl) (hx : Loc X.env.scope x := by first | exact Or.inl rfl | exact Or.inr rfl) (hf : X.fn x = true ∨ X.env.scope.names.lookup x = some .local := by first | exact .inl rfl | exact .inr rfl) : PG X (.Name x pos) (gName i) := pg_name hN hi hx hf
theorem bg2 (i j : Nat) (hc : X.calm = true) (hN : X.N.Nodup) (hi : X.N[i]? = some x := by rfl) (hj : X.N[j]? = some y := by rfl) (hx : Loc X.env.scope x := by first | exact Or.inl rfl | exact Or.inr rfl) (hy : Loc X.env.scope y := by first | exact Or.inl rfl | exact Or.inr rfl)
    (hf : X.fn x = true ∨ X.env.scope.names.lookup x = some .local := by first | exact .inl rfl | exact .inr rfl) (hf' : X.fn y = true ∨ X.env.scope.names.lookup y = some .local := by first | exact .inl rfl | exact .inr rfl) :
    PG X (.Tuple [.Name x p1, .Name y p2] kk pos) (gTup X.K 2 (gCons (gName i) (gCons (gName j) gNil))) := pg_tup hc (pgs_cons (pg_name hN hi hx hf) (pgs_cons (pg_name hN hj hy hf') pgs_nil))
theorem bg3 (i j k : Nat) (hc : X.calm = true) (hN : X.N.Nodup) (hi : X.N[i]? = some x := by rfl) (hj : X.N[j]? = some y := by rfl) (hk : X.N[k]? = some z := by rfl) (hx : Loc X.env.scope x := by first | exact Or.inl rfl | exact Or.inr rfl) (hy : Loc X.env.scope y := by first | exact Or.inl rfl | exact Or.inr rfl) (hz : Loc X.env.scope z := by first | exact Or.inl rfl | exact Or.inr rfl)
    (hf : X.fn x = true ∨ X.env.scope.names.lookup x = some .local := by first | exact .inl rfl | exact .inr rfl) (hf' : X.fn y = true ∨ X.env.scope.names.lookup y = some .local := by first | exact .inl rfl | exact .inr rfl) (hf'' : X.fn z = true ∨ X.env.scope.names.lookup z = some .local := by first | exact .inl rfl | exact .inr rfl) :
    PG X (.Tuple [.Name x p1, .Name y p2, .Name z p3] kk pos) (gTup X.K 3 (gCons (gName i) (gCons (gName j) (gCons (gName k) gNil)))) := pg_tup hc (pgs_cons (pg_name hN hi hx hf) (pgs_cons (pg_name hN hj hy hf') (pgs_cons (pg_name hN hk hz hf'') pgs_nil)))
/-- a for's targets -/
theorem fs1 (i : Nat) (h : PG X (.Name x pos) (gName i)) : PGS X (.Name x pos) (.one i) := ⟨_, h, tgs1 i⟩
theorem fs2 (i j : Nat) (h : PG X (.Tuple [.Name x p1, .Name y p2] kk pos) (gTup X.K 2 (gCons (gName i) (gCons (gName j) gNil)))) : PGS X (.Tuple [.Name x p1, .Name y p2] kk pos) (.two i j) := ⟨_, h, tgs2 (G := gx X) i j⟩
theorem fs3 (i j k : Nat) (h : PG X (.Tuple [.Name x p1, .Name y p2, .Name z p3] kk pos) (gTup X.K 3 (gCons (gName i) (gCons (gName j) (gCons (gName k) gNil))))) : PGS X (.Tuple [.Name x p1, .Name y p2, .Name z p3] kk pos) (.three i j k) := ⟨_, h, tgs3 (G := gx X) i j k⟩
/-- x, y = e -/
def sAsg (tg : TgS) (f : EnvD → M D) : SEnv → M Ctl := fun se => do
  let d ← f (lendV se)
  match tg.bind d se with
  | some se' => .ret (.nx se')
  | none => .bad
theorem asg_r {G : Gx} {gt : TG} {tg : TgS} {fa : EnvD → M D} {Dn : Ends} {σ : L2.St} {H : Hp} (tr : TgSR G gt tg) (q : tS G (sAsg tg fa) Dn σ H) : tAsg (tD G fa) gt Dn σ H := by
  obtain ⟨Z, W0, se, W, rfl, S, q⟩ := q
  refine ⟨Z, _, W, rfl, S.envV, M.wp_mono (fun n1 d q1 v F1 H1 g1 r1 => ?_) (wp_then q)⟩
  cases e : tg.bind d se with
  | none =>
    rw [e] at q1
    exact q1.elim
  | some se' =>
    rw [e] at q1
    exact tr Z W0 se se' σ ⟨F1, H1, n1⟩ v d (S.step g1) r1 e _ fun σ' S' => q1 σ' F1 H1 S' g1.ff
theorem ds_asg {tx e : Expr} {pos' : Pos} {fa : EnvD → M D} {tf : TgS} (he : PE X e (tD (gx X) fa)) (hg : PGS X tx tf) (hs : swapsWithSole [tx] e pos'.line X.env = pure false := by rfl) (hw : swappedStores [tx] e X.env = pure none := by rfl)
    (h1 : (assignEach [tx] X.env).map (·.2) = [assign tx X.env] := by rfl) : PS X (.Assign [tx] e pos') (tS (gx X) (sAsg tf fa)) := by
  obtain ⟨gt, g1, g2⟩ := hg.ex
  exact (ps_asg he g1 hs hw h1).weak fun _ _ _ q => asg_r g2 q
end

/-! ### names bound to list comprehensions that read own lists -/
section
variable {X : Cx} {i : Nat} {y : Str} {py : Pos} {elt tge iter : Expr} {ifs : List Expr} {scope : Scope} {own : List (Str × Nat)} {pos spos : Pos} {fi : EnvD → M (List D)} {tg : TgF} {is : List Nat} {ft : EnvD → M Bool} {fe : EnvD → M D} {g : TG}
theorem ds_lcO (i : Nat) (hc : X.calm = true) (hN : X.N.Nodup) (hy : X.N[i]? = some y) (hyl : X.env.scope.names.lookup y = some .local)
    (hsw : swapsWith (.ListComp elt [⟨tge, iter, ifs, 0⟩] scope pos) (some (.Name y py)) spos.line X.env = pure true) (hi : PI X tge iter (iD (gx X) fi)) (ok : BlkOk X.N X.env.scope scope own)
    (hg : ∀ (s : Shared) (H : Hp) (C : Addr) (cl : List (Str × Addr)) (fp : List Addr), PG (X.blk s H scope (compEnvC scope cl C X.env) fp) tge g) (tr : TgR (gx X) g is tg) (hv : ∀ i ∈ is, i ∈ own.map (·.2))
    (ht : ∀ (s : Shared) (H : Hp) (C : Addr) (cl : List (Str × Addr)) (fp : List Addr), PTs (X.blk s H scope (compEnvC scope cl C X.env) fp) ifs (tDT (gx X) ft))
    (he : ∀ (s : Shared) (H : Hp) (C : Addr) (cl : List (Str × Addr)) (fp : List Addr), PE (X.blk s H scope (compEnvC scope cl C X.env) fp) elt (tD (gx X) fe)) (hs : ∀ x, foldedSetIterable iter X.env x = pure x := by intro _; rfl) :
    PS X (.Assign [.Name y py] (.ListComp elt [⟨tge, iter, ifs, 0⟩] scope pos) spos) (tS (gx X) (sNewO i (nLc (own.map (·.2)) fi tg ft fe))) :=
  (ps_setLc hc hN hy hyl hsw hi ok hg ht he hs).weak fun Dn σ H q => (lc_r tr hv (newO_r q) : tLc _ _ _ _ _ σ H _)
end
end Dv
end
section
set_option linter.all false
set_option maxRecDepth 100000
set_option maxHeartbeats 4000000
/-! A13: comprehensions with two fors. -/
namespace Dv
open PySem PySem.Spec PyProof.Rows L2 Evl
/-- the inner walk of two fors, each kept item given to st -/
def goIn {α : Type} (vs1 : List Nat) (tg1 : TgF) (ft1 : EnvD → M Bool) (fe : EnvD → M D) (st : α → D → M α) (env1 : EnvD) : List D → α → M α
  | [], acc => .ret acc
  | d :: r, acc => match tg1 d (wipeD env1 vs1) with
    | none => .bad
    | some env2 => do
      let b ← ft1 env2
      match b with
      | true => do
        let y ← fe env2
        let acc' ← st acc y
        goIn vs1 tg1 ft1 fe st env1 r acc'
      | false => goIn vs1 tg1 ft1 fe st env1 r acc
def goOut {α : Type} (vs vs1 : List Nat) (tg : TgF) (ft : EnvD → M Bool) (fi1 : EnvD → M (List D)) (tg1 : TgF) (ft1 : EnvD → M Bool) (fe : EnvD → M D) (st : α → D → M α) (env : EnvD) : List D → α → M α
  | [], acc => .ret acc
  | d :: r, acc => match tg d (wipeD env vs) with
    | none => .bad
    | some env1 => do
      let b ← ft env1
      match b with
      | true => do
        let ds1 ← fi1 env1
        let acc' ← goIn vs1 tg1 ft1 fe st env1 ds1 acc
        goOut vs vs1 tg ft fi1 tg1 ft1 fe st env r acc'
      | false => goOut vs vs1 tg ft fi1 tg1 ft1 fe st env r acc
def stL (acc : List D) (y : D) : M (List D) := chk acc.length (.ret (acc ++ [y]))
def nLc2 (vs vs1 : List Nat) (fi : EnvD → M (List D)) (tg : TgF) (ft : EnvD → M Bool) (fi1 : EnvD → M (List D)) (tg1 : TgF) (ft1 : EnvD → M Bool) (fe : EnvD → M D) : EnvD → M (List D) := fun env => do
  let ds ← fi env
  goOut vs vs1 tg ft fi1 tg1 ft1 fe stL env ds []
theorem lc2_r {G : Gx} {vs vs1 is is1 : List Nat} {fi fi1 : EnvD → M (List D)} {g g1 : TG} {tg tg1 : TgF} {ft ft1 : EnvD → M Bool} {fe : EnvD → M D} {σ : L2.St} {H : Hp} {Q : VK} (tr : TgR G g is tg) (hv : ∀ i ∈ is, i ∈ vs) (tr1 : TgR G g1 is1 tg1) (hv1 : ∀ i ∈ is1, i ∈ vs1)
    (h : tDn G (nLc2 vs vs1 fi tg ft fi1 tg1 ft1 fe) σ H Q) : tLc2 (iD G fi) g (tDT G ft) (iD G fi1) g1 (tDT G ft1) (tD G fe) vs vs1 σ H Q := by
  obtain ⟨Z, env, W, hW, ok, h⟩ := h
  subst hW
  refine ⟨Z, env, W, rfl, ok, M.wp_mono (fun n1 ds h1 J F1 H1 g1' it => ?_) (wp_then h)⟩
  intro Da hD
  have nz : ¬ Z.has Da := g1'.gd.noHas hD
  let End : Nat → List D → Prop := fun n2 es => ∀ a ws F'' H'', Gr Z W ⟨F'', H'', n2⟩ → W.H a = none → F'' a = none → H'' a = some (.lst ws) → Reps G Z F'' ws es → Q (.ref a) H''
  refine ⟨fun i m H' => m = ds.length - i ∧ i ≤ ds.length ∧ ∃ F' n' accV accD, Gr Z ⟨F1, H1, n1⟩ ⟨F', H', n'⟩ ∧ F' Da = none ∧ H' Da = some (.lst accV) ∧ Reps G Z F' accV accD ∧
    (goOut vs vs1 tg ft fi1 tg1 ft1 fe stL env (ds.drop i) accD).wp n' End,
    ⟨_, rfl, Nat.zero_le _, F1, n1, [], [], Gr.allocH g1'.gd hD, g1'.gd.noF hD, upd_same, .nil, h1⟩, ?_⟩
  rintro i m H' ⟨rfl, hi, F', n', accV, accD, g', hF', hH', ra, hw⟩
  have gW := g1'.trans g'
  obtain ⟨it1, it2⟩ := it i ⟨F', H', n'⟩ g'.ff g'.gd
  by_cases hlt : i < ds.length
  · have hd : ds[i]? = some ds[i] := List.getElem?_eq_getElem hlt
    obtain ⟨go, yl⟩ := it1 _ hd
    rw [List.drop_eq_getElem_cons hlt] at hw
    unfold goOut at hw
    cases ht : tg ds[i] (wipeD env vs) with
    | none =>
      rw [ht] at hw
      exact hw.elim
    | some env1 =>
      rw [ht] at hw
      refine .inr ⟨go, fun H'' => ∃ F'' n'' accV' accD', Gr Z ⟨F1, H1, n1⟩ ⟨F'', H'', n''⟩ ∧ F'' Da = none ∧ H'' Da = some (.lst accV') ∧ Reps G Z F'' accV' accD' ∧
        (goOut vs vs1 tg ft fi1 tg1 ft1 fe stL env (ds.drop (i + 1)) accD').wp n'' End, fun H'' q => ⟨ds.length - (i + 1), by omega, rfl, hlt, q⟩, fun x H2 y => ?_⟩
      obtain ⟨F2, g2, rx⟩ := yl x H2 y
      have g12 := g'.trans g2
      have hF2 := g2.unk hH' hF'
      have hH2 := g2.hh _ _ hH' nz
      have okw : Ok G Z (wipeD env vs) (L2.wipe σ vs) ⟨F2, H2, n'⟩ := ⟨g2.gd, (ok.env.wipe vs).mono (gW.trans g2).ff⟩
      refine tr Z _ env1 _ ⟨F2, H2, n'⟩ x _ okw rx ht _ fun σ1 ok1 hwp => ⟨by rw [hwp vs hv, wipe_wipe], ?_⟩
      refine ⟨Z, env1, ⟨F2, H2, n'⟩, rfl, ok1, M.wp_mono (fun n3 b h3 F3 H3 g3 => ?_) (wp_then hw)⟩
      have hF3 := g3.unk hH2 hF2
      have hH3 := g3.hh _ _ hH2 nz
      have g13 := g12.trans g3
      have ra3 := (ra.mono g2.ff).mono g3.ff
      cases b with
      | false => exact ⟨F3, n3, accV, accD, g13, hF3, hH3, ra3, h3⟩
      | true =>
        show iD G fi1 σ1 H3 _
        refine ⟨Z, env1, ⟨F3, H3, n3⟩, rfl, ok1.step g3, M.wp_mono (fun n4 ds1 h4 J1 F4 H4 g4 jt => ?_) (wp_then h3)⟩
        have hF4 := g4.unk hH3 hF3
        have hH4 := g4.hh _ _ hH3 nz
        have ra4 := ra3.mono g4.ff
        have g14 := g13.trans g4
        have ok4 := (ok1.step g3).step g4
        refine ⟨fun j k H' => k = ds1.length - j ∧ j ≤ ds1.length ∧ ∃ F' n' aV aD, Gr Z ⟨F1, H1, n1⟩ ⟨F', H', n'⟩ ∧ Ex F4 F' ∧ F' Da = none ∧ H' Da = some (.lst aV) ∧ Reps G Z F' aV aD ∧
          (goIn vs1 tg1 ft1 fe stL env1 (ds1.drop j) aD).wp n' fun n'' acc' => (goOut vs vs1 tg ft fi1 tg1 ft1 fe stL env (ds.drop (i + 1)) acc').wp n'' End,
          ⟨_, rfl, Nat.zero_le _, F4, n4, accV, accD, g14, Ex.refl _, hF4, hH4, ra4, wp_then h4⟩, ?_⟩
        rintro j k H5 ⟨rfl, hj, F5, n5, aV, aD, g5, e5, hF5, hH5, rj, hwj⟩
        obtain ⟨jt1, jt2⟩ := jt j ⟨F5, H5, n5⟩ e5 g5.gd
        by_cases hltj : j < ds1.length
        · have hdj : ds1[j]? = some ds1[j] := List.getElem?_eq_getElem hltj
          obtain ⟨goj, ylj⟩ := jt1 _ hdj
          rw [List.drop_eq_getElem_cons hltj] at hwj
          unfold goIn at hwj
          cases htj : tg1 ds1[j] (wipeD env1 vs1) with
          | none =>
            rw [htj] at hwj
            exact hwj.elim
          | some env2 =>
            rw [htj] at hwj
            refine .inr ⟨goj, fun H'' => ∃ F'' n'' aV' aD', Gr Z ⟨F1, H1, n1⟩ ⟨F'', H'', n''⟩ ∧ Ex F4 F'' ∧ F'' Da = none ∧ H'' Da = some (.lst aV') ∧ Reps G Z F'' aV' aD' ∧
              (goIn vs1 tg1 ft1 fe stL env1 (ds1.drop (j + 1)) aD').wp n'' fun n'' acc' => (goOut vs vs1 tg ft fi1 tg1 ft1 fe stL env (ds.drop (i + 1)) acc').wp n'' End,
              fun H'' q => ⟨ds1.length - (j + 1), by omega, rfl, hltj, q⟩, fun x6 H6 y6 => ?_⟩
            obtain ⟨F6, g6, rx6⟩ := ylj x6 H6 y6
            have hF6 := g6.unk hH5 hF5
            have hH6 := g6.hh _ _ hH5 nz
            have okw6 : Ok G Z (wipeD env1 vs1) (L2.wipe σ1 vs1) ⟨F6, H6, n5⟩ := ⟨g6.gd, (ok4.env.wipe vs1).mono (e5.trans g6.ff)⟩
            refine tr1 Z _ env2 _ ⟨F6, H6, n5⟩ x6 _ okw6 rx6 htj _ fun σ2 ok2 hwp2 => ⟨by rw [hwp2 vs1 hv1, wipe_wipe], ?_⟩
            refine ⟨Z, env2, ⟨F6, H6, n5⟩, rfl, ok2, M.wp_mono (fun n7 b7 h7 F7 H7 g7 => ?_) (wp_then hwj)⟩
            have hF7 := g7.unk hH6 hF6
            have hH7 := g7.hh _ _ hH6 nz
            have r7 := (rj.mono g6.ff).mono g7.ff
            have g57 := (g5.trans g6).trans g7
            cases b7 with
            | false => exact ⟨F7, n7, aV, aD, g57, (e5.trans g6.ff).trans g7.ff, hF7, hH7, r7, h7⟩
            | true =>
              show tD G fe σ2 H7 _
              refine ⟨Z, env2, ⟨F7, H7, n7⟩, rfl, ok2.step g7, M.wp_mono (fun n8 y8 h8 v8 F8 H8 g8 r8 => ?_) (wp_then h7)⟩
              have hF8 := g8.unk hH7 hF7
              have hH8 := g8.hh _ _ hH7 nz
              obtain ⟨hc, h8⟩ := chk_wp (wp_then h8)
              have ra8 := r7.mono g8.ff
              refine ⟨aV, hH8, ?_, F8, n8, aV ++ [v8], aD ++ [y8], (g57.trans g8).poke hD hF8 nz, ((e5.trans g6.ff).trans g7.ff).trans g8.ff, hF8, upd_same, ra8.append (.cons r8 .nil), h8⟩
              rw [ra8.length]
              exact Nat.lt_of_le_of_lt hc (by decide)
        · have e : j = ds1.length := by omega
          subst e
          rw [List.drop_length] at hwj
          exact .inl ⟨jt2 rfl, F5, n5, aV, aD, g5, hF5, hH5, rj, hwj⟩
  · have e : i = ds.length := by omega
    subst e
    rw [List.drop_length] at hw
    exact .inl ⟨it2 rfl, hw Da accV F' H' gW (g1'.back hD) hF' hH' ra⟩

section
variable {X : Cx} {elt tge iter tge1 iter1 : Expr} {ifs ifs1 : List Expr} {scope : Scope} {own : List (Str × Nat)} {pos spos p cpos : Pos} {fi fi1 : EnvD → M (List D)} {tg tg1 : TgF} {is is1 vs1 : List Nat} {ft ft1 : EnvD → M Bool} {fe : EnvD → M D} {g g1 : TG} {y : Str} {py : Pos}
theorem ds_lc2V (i : Nat) (hc : X.calm = true) (hN : X.N.Nodup) (hy : X.N[i]? = some y) (hyl : X.env.scope.names.lookup y = some .local)
    (hsw : swapsWith (.ListComp elt [⟨tge, iter, ifs, 0⟩, ⟨tge1, iter1, ifs1, 0⟩] scope pos) (some (.Name y py)) spos.line X.env = pure true) (hi : PI X tge iter (iD (gx X) fi)) (ok : BlkOk X.N X.env.scope scope own) (hvs : ∀ i ∈ vs1, i ∈ own.map (·.2))
    (hg : ∀ (s : Shared) (H : Hp) (C : Addr) (cl : List (Str × Addr)) (fp : List Addr), PG (X.blk s H scope (compEnvC scope cl C X.env) fp) tge g) (tr : TgR (gx X) g is tg) (hv : ∀ i ∈ is, i ∈ own.map (·.2))
    (ht : ∀ (s : Shared) (H : Hp) (C : Addr) (cl : List (Str × Addr)) (fp : List Addr), PTs (X.blk s H scope (compEnvC scope cl C X.env) fp) ifs (tDT (gx X) ft))
    (hi1 : ∀ (s : Shared) (H : Hp) (C : Addr) (cl : List (Str × Addr)) (fp : List Addr), PI (X.blk s H scope (compEnvC scope cl C X.env) fp) tge1 iter1 (iD (gx X) fi1))
    (hg1 : ∀ (s : Shared) (H : Hp) (C : Addr) (cl : List (Str × Addr)) (fp : List Addr), PG (X.blk s H scope (compEnvC scope cl C X.env) fp) tge1 g1) (tr1 : TgR (gx X) g1 is1 tg1) (hv1 : ∀ i ∈ is1, i ∈ vs1)
    (ht1 : ∀ (s : Shared) (H : Hp) (C : Addr) (cl : List (Str × Addr)) (fp : List Addr), PTs (X.blk s H scope (compEnvC scope cl C X.env) fp) ifs1 (tDT (gx X) ft1))
    (he : ∀ (s : Shared) (H : Hp) (C : Addr) (cl : List (Str × Addr)) (fp : List Addr), PE (X.blk s H scope (compEnvC scope cl C X.env) fp) elt (tD (gx X) fe)) (hs : ∀ x, foldedSetIterable iter X.env x = pure x := by intro _; rfl) (hs1 : ∀ env x, foldedSetIterable iter1 env x = pure x := by intro _ _; rfl) :
    PS X (.Assign [.Name y py] (.ListComp elt [⟨tge, iter, ifs, 0⟩, ⟨tge1, iter1, ifs1, 0⟩] scope pos) spos) (tS (gx X) (sSet i (eN (nLc2 (own.map (·.2)) vs1 fi tg ft fi1 tg1 ft1 fe)))) :=
  (ps_setLc2 hc hN hy hyl hsw hi ok hvs hg ht hi1 hg1 ht1 he hs hs1).weak fun Dn σ H q => (lc2_r tr hv tr1 hv1 (n_r (set_r q)) : tLc2 _ _ _ _ _ _ _ _ _ σ H _)
end

/-! ### len of a set of tuples of ints, two fors -/
def stP (acc : List (List Int)) (y : D) : M (List (List Int)) := match y with
  | .tup ds => match allI ds with
    | some k => gd (Nat.blt (acc.length + 1) 64) (match hasL acc k with
      | true => .ret acc
      | false => .ret (acc ++ [k]))
    | none => .bad
  | _ => .bad
def eLenSc2 (vs vs1 : List Nat) (fi : EnvD → M (List D)) (tg : TgF) (ft : EnvD → M Bool) (fi1 : EnvD → M (List D)) (tg1 : TgF) (ft1 : EnvD → M Bool) (fe : EnvD → M D) : EnvD → M D := fun env => do
  let ds ← fi env
  let ks ← goOut vs vs1 tg ft fi1 tg1 ft1 fe stP env ds []
  .ret (.int (ks.length : Nat))
theorem stP_wp {acc : List (List Int)} {y : D} {n : Nat} {Q : Nat → List (List Int) → Prop} (h : (stP acc y).wp n Q) : ∃ k, y = .tup (k.map D.int) ∧ acc.length + 1 < 64 ∧ (k ∈ acc → Q n acc) ∧ (k ∉ acc → Q n (acc ++ [k])) := by
  unfold stP at h
  split at h
  · rename_i ds
    cases e : allI ds with
    | none =>
      rw [e] at h
      exact h.elim
    | some k =>
      rw [e] at h
      obtain ⟨hl, h⟩ := gd_wp h
      refine ⟨k, by rw [allI_eq e], Nat.blt_eq.mp hl, fun hk => ?_, fun hk => ?_⟩
      · rw [hasL_iff.mpr hk] at h
        exact h
      · have : hasL acc k = false := by
          cases q : hasL acc k with
          | false => rfl
          | true => exact absurd (hasL_iff.mp q) hk
        rw [this] at h
        exact h
  · exact h.elim
/-- the tuples that the set holds -/
def LOk (X : Cx) (F : Hp) (L : List (Addr × List Int)) (ks : List (List Int)) : Prop := (∀ p ∈ L, SqT X.K F p.1 (p.2.map V.int)) ∧ (L.map (·.2)).Perm ks
theorem LOk.zero {X : Cx} {F : Hp} : LOk X F [] [] := ⟨fun _ h => (nomatch h), List.Perm.refl _⟩
theorem LOk.mono {X : Cx} {F F' : Hp} {L : List (Addr × List Int)} {ks : List (List Int)} (h : LOk X F L ks) (e : Ex F F') : LOk X F' L ks := ⟨fun p hp => ex_t e (h.1 p hp), h.2⟩
theorem LOk.len {X : Cx} {F : Hp} {L : List (Addr × List Int)} {ks : List (List Int)} (h : LOk X F L ks) : L.length = ks.length := by rw [← h.2.length_eq, List.length_map]
theorem LOk.add {X : Cx} {F : Hp} {L L' : List (Addr × List Int)} {ks : List (List Int)} {a : Addr} {k : List Int} (h : LOk X F L ks) (hs : SqT X.K F a (k.map V.int)) (p : L'.Perm ((a, k) :: L)) : LOk X F L' (ks ++ [k]) := by
  refine ⟨fun q hq => ?_, ?_⟩
  · rcases List.mem_cons.mp (p.mem_iff.mp hq) with rfl | hq
    · exact hs
    · exact h.1 q hq
  · refine (p.map (fun q : Addr × List Int => q.2)).trans ((h.2.cons k).trans ?_)
    exact (List.perm_append_singleton k ks).symm
theorem sc2_r {G : Gx} {X : Cx} (hG : G = gx X) {vs vs1 is is1 : List Nat} {fi fi1 : EnvD → M (List D)} {g g1 : TG} {tg tg1 : TgF} {ft ft1 : EnvD → M Bool} {fe : EnvD → M D} {σ : L2.St} {H : Hp} {Q : VK} (tr : TgR G g is tg) (hv : ∀ i ∈ is, i ∈ vs) (tr1 : TgR G g1 is1 tg1) (hv1 : ∀ i ∈ is1, i ∈ vs1)
    (h : tD G (eLenSc2 vs vs1 fi tg ft fi1 tg1 ft1 fe) σ H Q) :
    tSc2 (X := X) (acP X.prog X.w X.K) (iD G fi) g (tDT G ft) (iD G fi1) g1 (tDT G ft1) (tD G fe) vs vs1 σ H (fun v H1 => rLenT X [v] H1 Q) := by
  subst hG
  obtain ⟨Z, env, W, hW, ok, h⟩ := h
  subst hW
  refine ⟨Z, env, W, rfl, ok, M.wp_mono (fun n1 ds h1 J F1 H1 g1' it => ?_) (wp_then h)⟩
  intro Da hD
  have nz : ¬ Z.has Da := g1'.gd.noHas hD
  let End : Nat → List (List Int) → Prop := fun n2 ks => (M.ret (D.int (ks.length : Nat))).wp n2 (Aft (gx X) Z W Q)
  refine ⟨fun i m H' => m = ds.length - i ∧ i ≤ ds.length ∧ ∃ F' n' accV accD, Gr Z ⟨F1, H1, n1⟩ ⟨F', H', n'⟩ ∧ F' Da = none ∧ H' Da = some (SetTO X.prog X.w Da accV) ∧ LOk X F' accV accD ∧
    (goOut vs vs1 tg ft fi1 tg1 ft1 fe stP env (ds.drop i) accD).wp n' End,
    ⟨_, rfl, Nat.zero_le _, F1, n1, [], [], Gr.allocH g1'.gd hD, g1'.gd.noF hD, upd_same, .zero, wp_then h1⟩, ?_⟩
  rintro i m H' ⟨rfl, hi, F', n', accV, accD, g', hF', hH', ra, hw⟩
  have gW := g1'.trans g'
  obtain ⟨it1, it2⟩ := it i ⟨F', H', n'⟩ g'.ff g'.gd
  by_cases hlt : i < ds.length
  · have hd : ds[i]? = some ds[i] := List.getElem?_eq_getElem hlt
    obtain ⟨go, yl⟩ := it1 _ hd
    rw [List.drop_eq_getElem_cons hlt] at hw
    unfold goOut at hw
    cases ht : tg ds[i] (wipeD env vs) with
    | none =>
      rw [ht] at hw
      exact hw.elim
    | some env1 =>
      rw [ht] at hw
      refine .inr ⟨go, fun H'' => ∃ F'' n'' accV' accD', Gr Z ⟨F1, H1, n1⟩ ⟨F'', H'', n''⟩ ∧ F'' Da = none ∧ H'' Da = some (SetTO X.prog X.w Da accV') ∧ LOk X F'' accV' accD' ∧
        (goOut vs vs1 tg ft fi1 tg1 ft1 fe stP env (ds.drop (i + 1)) accD').wp n'' End, fun H'' q => ⟨ds.length - (i + 1), by omega, rfl, hlt, q⟩, fun x H2 y => ?_⟩
      obtain ⟨F2, g2, rx⟩ := yl x H2 y
      have g12 := g'.trans g2
      have hF2 := g2.unk hH' hF'
      have hH2 := g2.hh _ _ hH' nz
      have okw : Ok (gx X) Z (wipeD env vs) (L2.wipe σ vs) ⟨F2, H2, n'⟩ := ⟨g2.gd, (ok.env.wipe vs).mono (gW.trans g2).ff⟩
      refine tr Z _ env1 _ ⟨F2, H2, n'⟩ x _ okw rx ht _ fun σ1 ok1 hwp => ⟨by rw [hwp vs hv, wipe_wipe], ?_⟩
      refine ⟨Z, env1, ⟨F2, H2, n'⟩, rfl, ok1, M.wp_mono (fun n3 b h3 F3 H3 g3 => ?_) (wp_then hw)⟩
      have hF3 := g3.unk hH2 hF2
      have hH3 := g3.hh _ _ hH2 nz
      have g13 := g12.trans g3
      have ra3 := (ra.mono g2.ff).mono g3.ff
      cases b with
      | false => exact ⟨F3, n3, accV, accD, g13, hF3, hH3, ra3, h3⟩
      | true =>
        show iD (gx X) fi1 σ1 H3 _
        refine ⟨Z, env1, ⟨F3, H3, n3⟩, rfl, ok1.step g3, M.wp_mono (fun n4 ds1 h4 J1 F4 H4 g4 jt => ?_) (wp_then h3)⟩
        have hF4 := g4.unk hH3 hF3
        have hH4 := g4.hh _ _ hH3 nz
        have ra4 := ra3.mono g4.ff
        have g14 := g13.trans g4
        have ok4 := (ok1.step g3).step g4
        refine ⟨fun j k H' => k = ds1.length - j ∧ j ≤ ds1.length ∧ ∃ F' n' aV aD, Gr Z ⟨F1, H1, n1⟩ ⟨F', H', n'⟩ ∧ Ex F4 F' ∧ F' Da = none ∧ H' Da = some (SetTO X.prog X.w Da aV) ∧ LOk X F' aV aD ∧
          (goIn vs1 tg1 ft1 fe stP env1 (ds1.drop j) aD).wp n' fun n'' acc' => (goOut vs vs1 tg ft fi1 tg1 ft1 fe stP env (ds.drop (i + 1)) acc').wp n'' End,
          ⟨_, rfl, Nat.zero_le _, F4, n4, accV, accD, g14, Ex.refl _, hF4, hH4, ra4, wp_then h4⟩, ?_⟩
        rintro j k H5 ⟨rfl, hj, F5, n5, aV, aD, g5, e5, hF5, hH5, rj, hwj⟩
        obtain ⟨jt1, jt2⟩ := jt j ⟨F5, H5, n5⟩ e5 g5.gd
        by_cases hltj : j < ds1.length
        · have hdj : ds1[j]? = some ds1[j] := List.getElem?_eq_getElem hltj
          obtain ⟨goj, ylj⟩ := jt1 _ hdj
          rw [List.drop_eq_getElem_cons hltj] at hwj
          unfold goIn at hwj
          cases htj : tg1 ds1[j] (wipeD env1 vs1) with
          | none =>
            rw [htj] at hwj
            exact hwj.elim
          | some env2 =>
            rw [htj] at hwj
            refine .inr ⟨goj, fun H'' => ∃ F'' n'' aV' aD', Gr Z ⟨F1, H1, n1⟩ ⟨F'', H'', n''⟩ ∧ Ex F4 F'' ∧ F'' Da = none ∧ H'' Da = some (SetTO X.prog X.w Da aV') ∧ LOk X F'' aV' aD' ∧
              (goIn vs1 tg1 ft1 fe stP env1 (ds1.drop (j + 1)) aD').wp n'' fun n'' acc' => (goOut vs vs1 tg ft fi1 tg1 ft1 fe stP env (ds.drop (i + 1)) acc').wp n'' End,
              fun H'' q => ⟨ds1.length - (j + 1), by omega, rfl, hltj, q⟩, fun x6 H6 y6 => ?_⟩
            obtain ⟨F6, g6, rx6⟩ := ylj x6 H6 y6
            have hF6 := g6.unk hH5 hF5
            have hH6 := g6.hh _ _ hH5 nz
            have okw6 : Ok (gx X) Z (wipeD env1 vs1) (L2.wipe σ1 vs1) ⟨F6, H6, n5⟩ := ⟨g6.gd, (ok4.env.wipe vs1).mono (e5.trans g6.ff)⟩
            refine tr1 Z _ env2 _ ⟨F6, H6, n5⟩ x6 _ okw6 rx6 htj _ fun σ2 ok2 hwp2 => ⟨by rw [hwp2 vs1 hv1, wipe_wipe], ?_⟩
            refine ⟨Z, env2, ⟨F6, H6, n5⟩, rfl, ok2, M.wp_mono (fun n7 b7 h7 F7 H7 g7 => ?_) (wp_then hwj)⟩
            have hF7 := g7.unk hH6 hF6
            have hH7 := g7.hh _ _ hH6 nz
            have r7 := (rj.mono g6.ff).mono g7.ff
            have g57 := (g5.trans g6).trans g7
            cases b7 with
            | false => exact ⟨F7, n7, aV, aD, g57, (e5.trans g6.ff).trans g7.ff, hF7, hH7, r7, h7⟩
            | true =>
              show tD (gx X) fe σ2 H7 _
              refine ⟨Z, env2, ⟨F7, H7, n7⟩, rfl, ok2.step g7, M.wp_mono (fun n8 y8 h8 v8 F8 H8 g8 r8 => ?_) (wp_then h7)⟩
              have hF8 := g8.unk hH7 hF7
              have hH8 := g8.hh _ _ hH7 nz
              obtain ⟨k, rfl, hc, hin, hout⟩ := stP_wp (wp_then h8)
              have ra8 := r7.mono g8.ff
              obtain ⟨a8, us, rfl, hs8, rs8⟩ := rep_tup r8
              rw [rs8.ints_eq] at hs8
              have gD : Gr Z ⟨F1, H1, n1⟩ ⟨F8, H8, n8⟩ := g57.trans g8
              have ef : Ex F4 F8 := ((e5.trans g6.ff).trans g7.ff).trans g8.ff
              refine ⟨aV, hH8, a8, k, rfl, ex_t gD.gd.sub hs8, fun p hp => ex_t gD.gd.sub (ra8.1 p hp), by rw [ra8.len]; exact hc, fun L' c1 c2 => ?_⟩
              by_cases hk : k ∈ aD
              · rw [c1 (ra8.2.mem_iff.mpr hk)]
                exact ⟨F8, n8, aV, aD, gD.poke hD hF8 nz, ef, hF8, upd_same, ra8, hin hk⟩
              · refine ⟨F8, n8, L', aD ++ [k], gD.poke hD hF8 nz, ef, hF8, upd_same, ra8.add hs8 (c2 fun z => hk (ra8.2.mem_iff.mp z)), hout hk⟩
        · have e : j = ds1.length := by omega
          subst e
          rw [List.drop_length] at hwj
          exact .inl ⟨jt2 rfl, F5, n5, aV, aD, g5, hF5, hH5, rj, hwj⟩
  · have e : i = ds.length := by omega
    subst e
    rw [List.drop_length] at hw
    exact .inl ⟨it2 rfl, Da, accV, rfl, hH', fun p hp => ex_t gW.gd.sub (ra.1 p hp), by rw [ra.len]; exact hw _ F' H' gW (.int _)⟩
section
variable {X : Cx} {elt tge iter tge1 iter1 : Expr} {ifs ifs1 : List Expr} {scope : Scope} {own : List (Str × Nat)} {pos p cpos : Pos} {fi fi1 : EnvD → M (List D)} {tg tg1 : TgF} {is is1 vs1 : List Nat} {ft ft1 : EnvD → M Bool} {fe : EnvD → M D} {g g1 : TG}
theorem de_lenSc2 (hu : X.A.units + 64 < cLine) (hc : X.calm = true) (hN : X.N.Nodup) (hgl : Gl X "len") (hml : X.mg "len" = none) (hi : PI X tge iter (iD (gx X) fi)) (ok : BlkOk X.N X.env.scope scope own) (hvs : ∀ i ∈ vs1, i ∈ own.map (·.2))
    (hg : ∀ (s : Shared) (H : Hp) (C : Addr) (cl : List (Str × Addr)) (fp : List Addr), PG (X.blk s H scope (compEnvC scope cl C X.env) fp) tge g) (tr : TgR (gx X) g is tg) (hv : ∀ i ∈ is, i ∈ own.map (·.2))
    (ht : ∀ (s : Shared) (H : Hp) (C : Addr) (cl : List (Str × Addr)) (fp : List Addr), PTs (X.blk s H scope (compEnvC scope cl C X.env) fp) ifs (tDT (gx X) ft))
    (hi1 : ∀ (s : Shared) (H : Hp) (C : Addr) (cl : List (Str × Addr)) (fp : List Addr), PI (X.blk s H scope (compEnvC scope cl C X.env) fp) tge1 iter1 (iD (gx X) fi1))
    (hg1 : ∀ (s : Shared) (H : Hp) (C : Addr) (cl : List (Str × Addr)) (fp : List Addr), PG (X.blk s H scope (compEnvC scope cl C X.env) fp) tge1 g1) (tr1 : TgR (gx X) g1 is1 tg1) (hv1 : ∀ i ∈ is1, i ∈ vs1)
    (ht1 : ∀ (s : Shared) (H : Hp) (C : Addr) (cl : List (Str × Addr)) (fp : List Addr), PTs (X.blk s H scope (compEnvC scope cl C X.env) fp) ifs1 (tDT (gx X) ft1))
    (he : ∀ (s : Shared) (H : Hp) (C : Addr) (cl : List (Str × Addr)) (fp : List Addr), PE (X.blk s H scope (compEnvC scope cl C X.env) fp) elt (tD (gx X) fe)) (hs : ∀ x, foldedSetIterable iter X.env x = pure x := by intro _; rfl) (hs1 : ∀ env x, foldedSetIterable iter1 env x = pure x := by intro _ _; rfl)
    (na : starEach [.SetComp elt [⟨tge, iter, ifs, 0⟩, ⟨tge1, iter1, ifs1, 0⟩] scope pos] X.env = (false, eval (.SetComp elt [⟨tge, iter, ifs, 0⟩, ⟨tge1, iter1, ifs1, 0⟩] scope pos) X.env) :: starEach [] X.env := by rfl) :
    PE X (.Call (.Name "len" p) [.SetComp elt [⟨tge, iter, ifs, 0⟩, ⟨tge1, iter1, ifs1, 0⟩] scope pos] [] cpos) (tD (gx X) (eLenSc2 (own.map (·.2)) vs1 fi tg ft fi1 tg1 ft1 fe)) :=
  (pe_callB call_lenT hgl hml boot_len (pa_cons (pe_sc2 (acP X.prog X.w X.K) hu hc hN hi ok hvs hg ht hi1 hg1 ht1 he hs hs1) pa_nil na) (he := na)).weak fun σ H Q h => by
    exact sc2_r rfl tr hv tr1 hv1 h
end
end Dv
end
section
set_option linter.all false
set_option maxRecDepth 100000
set_option maxHeartbeats 4000000
/-! B7: {**a, **b}, {**a, k: v}. -/
namespace Dv
open PySem PySem.Spec PyProof.Rows L2 Evl
section
variable {prog : Program} {w : World} {K : Type} [DecidableEq K] {knd : PySem.KeyKind prog w K} {A : Around} {E : Value → Shared → Prop} {s : Shared}
theorem put_pairs {d : Addr} {kvs : List (K × Value)} {k : K} {key v : Value} {Q : Unit → Shared → Prop} (hkey : knd.is k key = true) (hm : s.heap.DictOf knd d kvs) (hsz : kvs.length ≤ sizeLine)
    (hQ : ∀ h', h'.DictOf knd d (stored kvs k v) → Heap.SameBut d s.heap h' → Q () { s with heap := h' }) : wpAny (model prog w) A (dictPut d (knd.hash k) key v) Q E s := by
  obtain ⟨o, es, ep, ho, hc, hd, hk, hp, hn⟩ := hm
  have hes : es.size ≤ sizeLine := by
    have e1 := hp.length
    have e2 : es.toList.length = es.size := by simp
    omega
  unfold dictPut
  refine wpAny_bind (wpAny_dictFind_of hkey ho hd hk ?_)
  have hidx : (es.findIdx? fun e => knd.is k e.key) = kvs.findIdx? fun kv => decide (kv.1 = k) := by
    rw [← hp.findIdx k]
    obtain ⟨l⟩ := es
    simp
  cases hi : es.findIdx? fun e => knd.is k e.key with
  | some i =>
    have hany := any_of_findIdx_some (hidx ▸ hi)
    refine wpAny_updateDict ho hd (hQ _ ⟨_, _, ep, Heap.get?_update_self _ ho (Obj.isFreed_of_dict (Obj.data_mapDict hd _)), hc.mapDict _, Obj.data_mapDict hd _, hk.modify _ _, ?_, ?_⟩ (Heap.SameBut.update ..))
    · rw [stored, if_pos hany]
      have hl : (es.toList.findIdx? fun e => knd.is k e.key) = some i := by
        rw [← hi]
        obtain ⟨l⟩ := es
        simp
      have q := hp.modify hn hl v
      obtain ⟨l⟩ := es
      simpa using q
    · rw [stored, if_pos hany, keys_map_store]
      exact hn
  | none =>
    have hnot : k ∉ kvs.map (·.1) := not_mem_of_findIdx_none (hidx ▸ hi)
    have hany : ¬ (kvs.any fun kv => decide (kv.1 = k)) = true := fun z => by
      obtain ⟨kv, hkv, he⟩ := List.any_eq_true.mp z
      exact hnot (List.mem_map.mpr ⟨kv, hkv, of_decide_eq_true he⟩)
    refine wpAny_updateDictKeys (hz := hes) ho hd (hQ _ ⟨_, _, ep + 1, Heap.get?_update_self _ ho (Obj.isFreed_of_dict (Obj.data_mapDictKeys hd _)), hc.mapDictKeys _, Obj.data_mapDictKeys hd _, hk.push hkey _, ?_, ?_⟩ (Heap.SameBut.update ..))
    · rw [stored, if_neg hany]
      have q := hp.append hkey (knd.hash k) v
      obtain ⟨l⟩ := es
      simpa using q
    · rw [stored, if_neg hany, List.map_append, List.nodup_append]
      refine ⟨hn, by simp, fun x hx y hy e => ?_⟩
      have hy : y = k := by simpa using hy
      exact hnot (hy ▸ e ▸ hx)
theorem merge_map {d a : Addr} {kvs more : List (K × Value)} {Q : Unit → Shared → Prop} (hda : d ≠ a) (haS : (a == sysModules) = false) (hd : s.heap.DictOf knd d kvs) (ha : s.heap.DictOf knd a more) (hsz : kvs.length + more.length ≤ sizeLine)
    (hQ : ∀ h', h'.DictOf knd d (merged kvs more) → Heap.SameBut d s.heap h' → Q () { s with heap := h' }) : wpAny (model prog w) A (mergeMapping d (.ref a) false) Q E s := by
  obtain ⟨od, esd, epd, hod, hcd, hdd, hkd, hpd, hnd⟩ := id hd
  obtain ⟨oo, eso, epo, hoo, hco, hdo, hko, hpo, hno⟩ := id ha
  have hlen : more.length = eso.size := by
    rw [← hpo.length]
    simp
  unfold mergeMapping
  refine wpAny_bind (wpAny_isInstance ha.typeIs isSubtype_dict_dict ?_)
  try dsimp only
  rw [if_pos rfl]
  refine wpAny_bind (wpAny_specialOf ha.typeIs F.slot_dict_iter.lookup (wpAny_bind (wpAny_pure ?_)))
  have loop : ∀ (Q : Unit → Shared → Prop), (∀ h', h'.DictOf knd d (merged kvs more) → Heap.SameBut d s.heap h' → Q () { s with heap := h' }) → wpAny (model prog w) A (do
      let l ← dictEntries a
      let epoch ← dictEpoch a
      forIn (List.range l.size) PUnit.unit fun i (_ : PUnit) => (do
          let l' ← dictEntries a
          match l'[i]? with
            | some e => do
              holding [e.key, e.val] (dictPut d e.hash e.key e.val)
              let ep' ← dictEpoch a
              if (ep' != epoch) = true then do
                  (unsupported "dict.changed-during-merge" : Sem PUnit)
                  pure (ForInStep.yield PUnit.unit)
                else pure (ForInStep.yield PUnit.unit)
            | _ => do
              (unsupported "dict.changed-during-merge" : Sem PUnit)
              pure (ForInStep.yield PUnit.unit) : Sem (ForInStep PUnit))
      pure ()) Q E s := fun Q hQ => by
    refine wpAny_bind (wpAny_dictEntries hoo hdo (wpAny_bind (wpAny_dictEpoch hoo hdo (wpAny_bind ?_))))
    refine wpAny_forIn_list _
      (fun rest _ s' => ∃ h' i, s' = { s with heap := h' } ∧ rest = (List.range eso.size).drop i ∧ i ≤ eso.size ∧ h'.DictOf knd d (merged kvs (more.take i)) ∧ h'.get? a = some oo ∧ Heap.SameBut d s.heap h')
      _ ?_ ?_ _ _ ⟨s.heap, 0, rfl, rfl, Nat.zero_le _, by simpa [merged] using hd, hoo, Heap.SameBut.refl _ _⟩
    · rintro x rest b s' ⟨h', i, rfl, hr, hi, hd', hoo', hs'⟩
      have hlt : i < eso.size := by
        rcases Nat.lt_or_ge i eso.size with h | h
        · exact h
        · rw [List.drop_eq_nil_of_le (by rw [List.length_range]; exact h)] at hr
          cases hr
      rw [List.drop_eq_getElem_cons (by rw [List.length_range]; exact hlt), List.getElem_range] at hr
      injection hr with hx hrest
      subst hx
      refine wpAny_bind (wpAny_dictEntries hoo' hdo ?_)
      rw [Array.getElem?_eq_getElem hlt]
      obtain ⟨kv, hkv⟩ : ∃ kv, more[x]? = some kv := ⟨more[x]'(by rw [hlen]; exact hlt), List.getElem?_eq_getElem _⟩
      obtain ⟨k, v⟩ := kv
      obtain ⟨hkey, hval⟩ := hpo.get? (e := eso[x]) (by simp [hlt]) hkv
      obtain ⟨k', hkey', hhash⟩ := hko eso[x] (Array.getElem_mem hlt)
      obtain rfl : k' = k := knd.inj _ _ _ hkey' hkey
      show wpAny _ _ (holding [eso[x].key, eso[x].val] (dictPut d eso[x].hash eso[x].key eso[x].val) >>= _) _ _ _
      rw [hhash, hval]
      have hmx : (merged kvs (more.take x)).length ≤ sizeLine := by
        have e1 := merged_length_le kvs (more.take x)
        have e2 : (more.take x).length ≤ more.length := by rw [List.length_take]; omega
        omega
      refine wpAny_bind (wpAny_holding (put_pairs hkey hd' hmx fun h'' hd'' hs'' => ?_))
      have hoo'' : h''.get? a = some oo := (hs''.2 a (Ne.symm hda)).trans hoo'
      refine wpAny_bind (wpAny_dictEpoch hoo'' hdo ?_)
      rw [if_neg (by simp)]
      exact wpAny_pure ⟨h'', x + 1, rfl, hrest, hlt, by rw [merged_take_succ kvs more x (k', v) hkv]; exact hd'', hoo'', hs'.trans hs''⟩
    · rintro b s' ⟨h', i, rfl, hr, hi, hd', hoo', hs'⟩
      have hin : i = eso.size := by
        rcases Nat.lt_or_ge i eso.size with h | h
        · rw [List.drop_eq_getElem_cons (by rw [List.length_range]; exact h)] at hr
          exact nomatch hr
        · exact Nat.le_antisymm hi h
      refine wpAny_pure (hQ h' ?_ hs')
      rw [hin, ← hlen, List.take_length] at hd'
      exact hd'
  rw [beq_self_eq_true]
  show wpAny _ _ (if (a == sysModules) = true then _ else _) _ _ _
  rw [if_neg (by rw [haS]; exact Bool.false_ne_true)]
  refine wpAny_bind (wpAny_dictEntries hod hdd ?_)
  split
  · refine wpAny_bind (wpAny_dictEntries hoo hdo (wpAny_bind ?_))
    rw [← Array.forIn_toList]
    refine wpAny_forIn_list _ (fun rest _ s' => s' = s ∧ ∀ e ∈ rest, e ∈ eso.toList) _ (fun e rest b s' ⟨e1, hin⟩ => ?_) (fun b s' ⟨e1, _⟩ => ?_) _ _ ⟨rfl, fun e h => h⟩
    · subst e1
      obtain ⟨k, hk, _⟩ := hko e (by simpa using hin e List.mem_cons_self)
      have bv := knd.byValue _ _ hk
      obtain ⟨eh, ek, ev⟩ := e
      cases ek <;> first
        | exact wpAny_pure ⟨rfl, fun x hx => hin x (List.mem_cons_of_mem _ hx)⟩
        | exact absurd bv Bool.false_ne_true
    · subst e1
      exact loop Q hQ
  · exact loop Q hQ
end
end Dv
end
section
set_option linter.all false
set_option maxRecDepth 100000
set_option maxHeartbeats 4000000
/-! B8: {**a, **b}, {**a, k: v}: the display. -/
namespace Dv
open PySem PySem.Spec PyProof.Rows L2 Evl
def emptyDict : Obj := { cls := .type "dict", data := .dict #[] }
/-- one ** of a display -/
def starIn (d : Addr) (v : Sem Value) : Sem Unit := do
  let m ← holding [.ref d] v
  (((holding [.ref d, m] (mergeMapping d m false)).onRaise fun x => do let _ ← holding [.ref d, m, x] (runValue (.builtin "proto.let_go" {}))).tryCatch fun e => do
        if ← isInstance e (.type "AttributeError") then
          rule "dict.display.not-a-mapping"; raiseError "TypeError" s!"'{← typeNameOf m}' object is not a mapping"
        throw e).onRaise fun x => do let _ ← holding [.ref d, x] (runValue (.builtin "proto.let_go" {}))
theorem disp2 (va vb : Sem Value) : dictDisplay [(none, va), (none, vb)] = (do
    let d ← alloc emptyDict
    starIn d va
    starIn d vb
    pure (Value.ref d)) := by
  unfold dictDisplay starIn
  simp only [List.forIn_cons, List.forIn_nil, List.isEmpty_nil, if_true, pure_bind, bind_assoc]
  rfl
theorem disp1 (va vk vv : Sem Value) : dictDisplay [(none, va), (some vk, vv)] = (do
    let d ← alloc emptyDict
    starIn d va
    let sub ← holding [.ref d] (subDict [(vk, vv)])
    (holding [.ref d, .ref sub] (mergeMapping d (.ref sub) false)).onRaise fun x => do let _ ← holding [.ref d, x] (runValue (.builtin "proto.let_go" {}))
    pure (Value.ref d)) := by
  unfold dictDisplay starIn
  simp only [List.forIn_cons, List.forIn_nil, List.isEmpty_nil, if_true, pure_bind, bind_assoc, List.nil_append, List.length_cons, List.length_nil, List.isEmpty_cons, Nat.zero_add, show ((1 : Nat) == 17) = false from rfl, Bool.false_eq_true, if_false]
  rfl
section
variable {X : Cx} {pins : List (Addr × Obj)} {σ : L2.St} {H : Hp} {s : Shared} {ea eb ek : Expr} {ta tb tk : TE} {pos : Pos}
/-- the dict at d takes in what the dict at a holds -/
theorem merge_in {d a : Addr} {kvs ls : List (Key × V)} {E : Value → Shared → Prop} {Q : Unit → Shared → Prop} (I : Inv X pins σ H s) (hd : H d = some (.dK kvs)) (ha : Rd H a (.dK ls)) (hda : d ≠ a) (hz : kvs.length + ls.length ≤ 100000)
    (h : ∀ s', Inv X pins σ (upd H d (.dK (mergeK kvs ls))) s' → Q () s') : wpAny (model X.prog X.w) X.A (mergeMapping d (.ref a) false) Q E s := by
  obtain ⟨z1, lo1, v1, r1, d1⟩ := dk_of I.hok hd
  obtain ⟨z2, lo2, v2, r2, d2⟩ := dk_rd I.hok ha
  have hl1 := r1.length
  have hl2 := r2.length
  refine merge_map hda lo2 d1 d2 (by rw [← hl1, ← hl2]; exact Nat.le_trans hz (by decide)) fun h' dd' hs => h _ ?_
  have hk : (mergeK kvs ls).length ≤ sizeLine := Nat.le_trans (length_mergeK ls kvs) (Nat.le_trans hz (by decide))
  exact d_write (t' := s.toks) I (by rw [hd]; exact True.intro) hs (let ⟨q, _, _, hq, _⟩ := dd'; ⟨q, hq⟩) (dk_new hk lo1 (r2.merge r1) dd')
theorem star_in {d : Addr} {kvs : List (Key × V)} {Q : Unit → Shared → Prop} {pins : List (Addr × Obj)} {σ : L2.St} {s : Shared}
    (h : wpAny (model X.prog X.w) X.A (eval ea X.env) (fun u s1 => ∃ a ls H1, u = .ref a ∧ Inv X pins σ H1 s1 ∧ H1 d = some (.dK kvs) ∧ Rd H1 a (.dK ls) ∧ d ≠ a ∧ kvs.length + ls.length ≤ 100000 ∧ ∀ s', Inv X pins σ (upd H1 d (.dK (mergeK kvs ls))) s' → Q () s') X.xe s) :
    wpAny (model X.prog X.w) X.A (starIn d (do let x ← eval ea X.env; standAt pos; pure x)) Q X.xe s := by
  unfold starIn
  refine wpAny_bind (wpAny_holding (wpAny_bind (thn h fun u s1 ⟨a, ls, H1, ex, I1, hd, ha, hda, hz, q⟩ => wpAny_bind (wpAny_standAt (wpAny_pure ?_)))))
  subst ex
  exact wpAny_onRaise (wpAny_tryCatch (wpAny_onRaise (wpAny_holding (merge_in I1 hd ha hda hz fun s' I' => q s' I'))))
theorem lay_dict (I : Inv X pins σ H s) : Inv X pins σ (upd H s.heap.objs.size (.dK [])) { s with heap := s.heap.push emptyDict } :=
  I.laid (a := s.heap.objs.size) (o := .dK []) (h' := s.heap.push emptyDict) (t' := s.toks) (fun _ _ q => Heap.get?_push_of_some _ q) (Nat.le_refl _) (dk_empty s.heap I.big)
def tStar2 (ta tb : TE) : TE := fun σ H Q => ∀ d, H d = none → ta σ (upd H d (.dK [])) fun x H1 => ∃ a ls, x = .ref a ∧ H1 d = some (.dK []) ∧ Rd H1 a (.dK ls) ∧ d ≠ a ∧ ls.length ≤ 1000 ∧
  tb σ (upd H1 d (.dK (mergeK [] ls))) fun y H2 => ∃ b ms, y = .ref b ∧ H2 d = some (.dK (mergeK [] ls)) ∧ Rd H2 b (.dK ms) ∧ d ≠ b ∧ ms.length ≤ 1000 ∧ Q (.ref d) (upd H2 d (.dK (mergeK (mergeK [] ls) ms)))
theorem pe_star2 (ha : PE X ea ta) (hb : PE X eb tb) : PE X (.Dict [none, none] [ea, eb] pos) (tStar2 ta tb) := by
  refine ⟨fun pins s σ H Q I h => ?_⟩
  rw [arm_eval_Dict]
  refine wpAny_bind (wpAny_standAt ?_)
  show wpAny _ _ (dictDisplay [(none, do let x ← eval ea X.env; standAt pos; pure x), (none, do let x ← eval eb X.env; standAt pos; pure x)]) _ _ _
  rw [disp2]
  refine wpAny_bind (wpAny_alloc ?_)
  have hn := I.hok.fresh (Nat.le_refl s.heap.objs.size)
  refine wpAny_bind (star_in (ea := ea) (pos := pos) (pins := pins) (σ := σ) (d := s.heap.objs.size) (kvs := []) (thn (ha.run pins _ σ _ _ (lay_dict I) (h _ hn)) fun u s1 ⟨x, H1, I1, rx, a, ls, ex, hd, hA, hda, hz, q⟩ => ?_))
  subst ex
  refine ⟨a, ls, H1, rx, I1, hd, hA, hda, by rw [List.length_nil]; omega, fun s2 I2 => ?_⟩
  refine wpAny_bind (star_in (ea := eb) (pos := pos) (pins := pins) (σ := σ) (d := s.heap.objs.size) (kvs := mergeK [] ls) (thn (hb.run pins s2 σ _ _ I2 q) fun u2 s3 ⟨y, H2, I3, ry, b, ms, ey, hd2, hB, hdb, hz2, q2⟩ => ?_))
  subst ey
  have hm := length_mergeK ls []
  rw [List.length_nil] at hm
  exact ⟨b, ms, H2, ry, I3, hd2, hB, hdb, by omega, fun s4 I4 => wpAny_pure ⟨.ref s.heap.objs.size, _, I4, rfl, q2⟩⟩
def tStar1 (ta tk tb : TE) : TE := fun σ H Q => ∀ d, H d = none → ta σ (upd H d (.dK [])) fun x H1 => ∃ a ls, x = .ref a ∧ H1 d = some (.dK []) ∧ Rd H1 a (.dK ls) ∧ d ≠ a ∧ ls.length ≤ 1000 ∧
  ∀ e, upd H1 d (.dK (mergeK [] ls)) e = none → tPairs [(tk, tb)] σ (upd (upd H1 d (.dK (mergeK [] ls))) e (.dK [])) fun ps H2 => H2 e = some (.dK []) ∧ H2 d = some (.dK (mergeK [] ls)) ∧ d ≠ e ∧ ∃ k v, ps = [(kV k, v)] ∧ Q (.ref d) (upd (upd H2 e (.dK [(k, v)])) d (.dK (putK (mergeK [] ls) k v)))
theorem pe_star1 (ha : PE X ea ta) (hk : PE X ek tk) (hb : PE X eb tb) : PE X (.Dict [none, some ek] [ea, eb] pos) (tStar1 ta tk tb) := by
  refine ⟨fun pins s σ H Q I h => ?_⟩
  rw [arm_eval_Dict]
  refine wpAny_bind (wpAny_standAt ?_)
  show wpAny _ _ (dictDisplay [(none, do let x ← eval ea X.env; standAt pos; pure x), (some (eval ek X.env), do let x ← eval eb X.env; standAt pos; pure x)]) _ _ _
  rw [disp1]
  refine wpAny_bind (wpAny_alloc ?_)
  have hn := I.hok.fresh (Nat.le_refl s.heap.objs.size)
  refine wpAny_bind (star_in (ea := ea) (pos := pos) (pins := pins) (σ := σ) (d := s.heap.objs.size) (kvs := []) (thn (ha.run pins _ σ _ _ (lay_dict I) (h _ hn)) fun u s1 ⟨x, H1, I1, rx, a, ls, ex, hd, hA, hda, hz, q⟩ => ?_))
  subst ex
  refine ⟨a, ls, H1, rx, I1, hd, hA, hda, by rw [List.length_nil]; omega, fun s2 I2 => ?_⟩
  have hm := length_mergeK ls []
  rw [List.length_nil] at hm
  have hn2 := I2.hok.fresh (Nat.le_refl s2.heap.objs.size)
  refine wpAny_bind (wpAny_holding (wpAny_subDict (knd := mixKind X.prog X.w) (by show 1 ≤ 15; omega) ?_))
  refine thn ((pps_cons hk hb pps_nil : PPs X pos [some ek] [eb] _).run pins _ σ _ _ (lay_dict I2) (q _ hn2)) fun ws s3 ⟨ps, H2, I3, rel, he, hd2, hde, k, v, ep, q2⟩ => ?_
  subst ep
  obtain ⟨rs, c, rk⟩ := carries_of (P := X.prog) (w := X.w) (kvs := [(k, v)]) rel
  obtain ⟨z, lo, vs0, r0, dd⟩ := dk_of I3.hok he
  have ev : vs0 = [] := by
    cases r0
    rfl
  subst ev
  refine ⟨rs, c, dd, fun h' dd' hs => ?_⟩
  have hone : mergeK [] [(k, v)] = [(k, v)] := rfl
  have I4 : Inv X pins σ (upd H2 s2.heap.objs.size (.dK [(k, v)])) { s3 with heap := h', toks := s3.toks + ws.length } := by
    have q := rk.merge (kvs := []) (vs := []) .nil
    rw [hone] at q
    exact d_write I3 (by rw [he]; exact True.intro) hs (let ⟨q, _, _, hq, _⟩ := dd'; ⟨q, hq⟩) (dk_new (by show 1 ≤ sizeLine; decide) lo q dd')
  refine wpAny_bind (wpAny_onRaise (wpAny_holding (merge_in (kvs := mergeK [] ls) (ls := [(k, v)]) I4 (by rw [upd_ne hde]; exact hd2) (.inl upd_same) hde (by show _ + 1 ≤ _; omega) fun s5 I5 => wpAny_pure ⟨.ref s.heap.objs.size, _, I5, rfl, ?_⟩)))
  exact q2
end
end Dv
end
section
set_option linter.all false
set_option maxRecDepth 100000
set_option maxHeartbeats 4000000
/-! B9: list(d.values()). -/
namespace Dv
open PySem PySem.Spec PyProof.Rows L2 Evl
section
variable {X : Cx} {o : Expr} {p pos apos mpos : Pos} {td : TE}
theorem kv_at : ∀ {kvs : List (Key × V)} {vs : List (Key × Value)}, KV kvs vs → ∀ {us : List Value}, us.length = vs.length → (∀ (j : Nat) (v : Value), us[j]? = some v → ∃ k, vs[j]? = some (k, v)) → Vals (kvs.map (·.2)) us
  | _, _, .nil, [], _, _ => .nil
  | _, _, .nil, _ :: _, h, _ => by simp at h
  | _, _, .cons _ _, [], h, _ => by simp at h
  | _, _, .cons (a := a) (b := b) r t, u :: us, h, f => by
    obtain ⟨k, e⟩ := f 0 u rfl
    have e' := Option.some.inj (show some b = some (k, u) from e)
    subst e'
    exact .cons r.2 (kv_at t (by simpa using h) fun j v q => by
      obtain ⟨k, e⟩ := f (j + 1) v (by simpa using q)
      exact ⟨k, by simpa using e⟩)
def tLstVals (td : TE) : TE := fun σ H Q => td σ H fun x H1 => ∃ a kvs, x = V.ref a ∧ Rd H1 a (.dK kvs) ∧ kvs.length ≤ 100000 ∧ ∀ q, H1 q = none → Q (.ref q) (upd H1 q (.lst (kvs.map (·.2))))
theorem pe_listVals (hc : X.calm = true) (hg : Gl X "list") (hm : X.mg "list" = none) (hd : PE X o td) (hbase : attributeBase o "values" X.env (eval o X.env) = eval o X.env := by rfl) (hline : (apos.endLine == mpos.line) = true := by rfl)
    (hse : starEach [Expr.Call (.Attribute o "values" apos) [] [] mpos] X.env = (false, eval (Expr.Call (.Attribute o "values" apos) [] [] mpos) X.env) :: starEach [] X.env := by rfl) :
    PE X (.Call (.Name "list" p) [.Call (.Attribute o "values" apos) [] [] mpos] [] pos) (tLstVals td) := by
  refine ⟨fun pins s σ H Q I h => ?_⟩
  refine Call_ (ld_blt I hg hm boot_list (PyProof.Rows.callWith_type1 (args_cons ?_ hse) hse))
  refine wpAny_Call_method0_late hbase hline (thn (hd.run pins s σ H _ I h) fun v s1 ⟨x, H1, I1, r1, a, kvs, ex, ha, hz, q⟩ => ?_)
  subst ex
  obtain rfl : v = Value.ref a := r1
  obtain ⟨_, hsys, vs, rel, dof⟩ := dk_rd I1.hok ha
  obtain ⟨ep, dat⟩ := dof.dictAt
  have dat' := dat
  obtain ⟨ob, es, ho, ex, hdat, hko, hpr, hnd⟩ := dat'
  refine ⟨"dict", "dict.values", F.plainAttrs_dict, F.slot_dict_values, F.type_dict_values, ⟨ob, ho, ex.1⟩, fun b e => ?_, Calls.callWith_builtin rfl (PySem.evalArgs_none ?_)⟩
  · cases e
    exact ⟨ob, ho, ex.2.1⟩
  refine call_meetsIn F.slot_dict_values ⟨ob, ho, ex.1⟩ F.entry_dict_values (F.args_dict_values_1 _) (meets_dict_values (mixKind X.prog X.w) a hsys) ⟨⟨vs, dof⟩, ?_⟩
  have k1 : ∀ b u, s1.heap.get? b = some u → (s1.heap.push { cls := .type "dict_values", data := .fields #[.ref a] }).get? b = some u := fun b u e => Heap.get?_push_of_some _ e
  have I2 : Inv X pins σ H1 { s1 with heap := s1.heap.push { cls := .type "dict_values", data := .fields #[.ref a] } } := I1.kept (t' := s1.toks) k1
  refine args_nil ?_
  refine PySem.W.kdl_call (PySem.W.kdl_values (knd := mixKind X.prog X.w) (kvs := vs) (ep := ep) (d := a) (r := s1.heap.objs.size)) (I.ok.hd hc) ⟨⟨_, Heap.get?_push_size _ rfl, rfl, rfl⟩, dat.keep k1⟩ (by rw [← rel.length]; exact Nat.le_trans hz (by decide)) fun h' tk acc' c' hk hD hacc => ?_
  have hv : Vals (kvs.map (·.2)) acc'.toList := kv_at rel (by rw [Array.length_toList]; exact hacc.1) fun j v e => hacc.2 j v (by rw [← Array.getElem?_toList]; exact e)
  refine ⟨.ref _, upd H1 _ (.lst (kvs.map (·.2))), I2.laid (t' := tk) hk (Nat.le_refl _) (show ObjOk X.prog X.w _ _ _ (.lst (kvs.map (·.2))) from ⟨by rw [List.length_map]; exact Nat.le_trans hz (by decide), acc'.toList, c', hv, by rw [Array.toArray_toList]; exact hD⟩), rfl, q _ (I2.hok.fresh (Nat.le_refl _))⟩
end
end Dv
end
section
set_option linter.all false
set_option maxRecDepth 100000
set_option maxHeartbeats 4000000
/-! A14: dict displays, dict(..), list(d.values()), x[k] = v, x.pop(k). -/
namespace Dv
open PySem PySem.Spec PyProof.Rows L2 Evl
def mergeD (kvs : List (Int × D)) : List (Int × D) → List (Int × D)
  | [] => kvs
  | (k, d) :: r => mergeD (putD kvs k d) r
theorem merge_reps {G : Gx} {Z : Zs} {F : Hp} : ∀ {ms : List (Int × D)} {us : List V} {kvs : List (Int × D)} {vs : List V}, Reps G Z F vs (kvs.map (·.2)) → Reps G Z F us (ms.map (·.2)) →
    ∃ ws, mergeK (List.zip (dkeys kvs) vs) (List.zip (dkeys ms) us) = List.zip (dkeys (mergeD kvs ms)) ws ∧ Reps G Z F ws ((mergeD kvs ms).map (·.2))
  | [], _, kvs, vs, h, .nil => ⟨vs, rfl, h⟩
  | (k, d) :: r, _, kvs, vs, h, .cons (v := u) (vs := us) ru rt => by
    obtain ⟨w1, e1, h1⟩ := put_reps (k := k) ru h
    obtain ⟨ws, e2, h2⟩ := merge_reps h1 rt
    refine ⟨ws, ?_, h2⟩
    show mergeK (putK (List.zip (dkeys kvs) vs) (Sum.inl k) u) (List.zip (dkeys r) us) = _
    rw [e1, e2]
    rfl
theorem mergeD_len : ∀ (ms kvs : List (Int × D)), (mergeD kvs ms).length ≤ kvs.length + ms.length
  | [], kvs => Nat.le_refl _
  | (k, d) :: r, kvs => by
    have h1 := mergeD_len r (putD kvs k d)
    have h2 := putD_len kvs k d
    show (mergeD (putD kvs k d) r).length ≤ _
    rw [List.length_cons]
    omega
theorem zip_len {G : Gx} {Z : Zs} {F : Hp} {vs : List V} {kvs : List (Int × D)} (r : Reps G Z F vs (kvs.map (·.2))) : (List.zip (dkeys kvs) vs).length = kvs.length := by
  rw [List.length_zip, r.length, List.length_map, show (dkeys kvs).length = _ from List.length_map _, Nat.min_self]
/-- what a new dict's end says -/
def DEnd (G : Gx) (Z : Zs) (W : Wd) (Q : VK) (n' : Nat) (kvs : List (Int × D)) : Prop := ∀ a vs F' H', Gr Z W ⟨F', H', n'⟩ → W.H a = none → F' a = none → H' a = some (.dK (List.zip (kvs.map fun p => (Sum.inl p.1 : Key)) vs)) → Reps G Z F' vs (kvs.map (·.2)) → Q (.ref a) H'
section
variable {X : Cx} {ea eb ek e : Expr} {pos p p2 p3 : Pos} {fa fb fk : EnvD → M D} {fs : EnvD → M (List D)}
def nDE : EnvD → M (List (Int × D)) := fun _ => .ret []
theorem dd_emp : PE X (.Dict [] [] pos) (tDd (gx X) nDE) := pe_dnewK.weak fun σ H Q ⟨Z, env, W, hW, ok, h⟩ => by
  subst hW
  intro q hq
  exact h q [] W.F _ (Gr.allocH ok.gd hq) hq (ok.gd.noF hq) upd_same .nil
/-- {k: v} -/
def nD1 (fk fb : EnvD → M D) : EnvD → M (List (Int × D)) := fun env => do
  let x ← fk env
  let k ← asI x
  let v ← fb env
  .ret [(k, v)]
theorem dd_one (hk : PE X ek (tD (gx X) fk)) (hb : PE X eb (tD (gx X) fb)) : PE X (.Dict [some ek] [eb] pos) (tDd (gx X) (nD1 fk fb)) := by
  refine (pe_disp (pps_cons hk hb pps_nil) rfl rfl (by simp) (by show 1 ≤ 15; omega)).weak fun σ H Q ⟨Z, env, W, hW, ok, h⟩ => ?_
  subst hW
  intro q hq
  have g0 := Gr.allocH ok.gd (o := .dK []) hq
  have nz := ok.gd.noHas hq
  refine ⟨Z, env, ⟨W.F, upd W.H q (.dK []), W.n⟩, rfl, ok.step g0, M.wp_mono (fun n1 d1 h1 v1 F1 H1 g1 r1 => ?_) (wp_then h)⟩
  obtain ⟨k, rfl, h1⟩ := asI_wp (wp_then h1)
  refine ⟨Z, env, ⟨F1, H1, n1⟩, rfl, (ok.step g0).step g1, M.wp_mono (fun n2 d2 h2 v2 F2 H2 g2 r2 => ?_) (wp_then h1)⟩
  have g12 := g1.trans g2
  have hF2 : F2 q = none := g12.unk (a := q) (o := .dK []) upd_same (ok.gd.noF hq)
  have hH2 : H2 q = some (.dK []) := g12.hh q _ upd_same nz
  refine ⟨hH2, [(Sum.inl k, v2)], by cases r1; rfl, by show 1 ≤ 15; omega, ?_⟩
  exact h2 q [v2] F2 _ ((g0.trans g12).poke (o := .dK [(Sum.inl k, v2)]) hq hF2 nz) hq hF2 upd_same (.cons r2 .nil)
/-- {**a, **b} -/
def asDic : D → M (List (Int × D))
  | .dic kvs => gd (Nat.ble kvs.length 1000) (.ret kvs)
  | _ => .bad
theorem asDic_wp {d : D} {k : Nat} {Q : Nat → List (Int × D) → Prop} (h : (asDic d).wp k Q) : ∃ kvs, d = .dic kvs ∧ kvs.length ≤ 1000 ∧ Q k kvs := by
  cases d with
  | dic kvs =>
    obtain ⟨h1, h⟩ := gd_wp (show (gd (Nat.ble kvs.length 1000) (.ret kvs)).wp k Q from h)
    exact ⟨kvs, rfl, Nat.le_of_ble_eq_true h1, h⟩
  | _ => exact h.elim
def nDS2 (fa fb : EnvD → M D) : EnvD → M (List (Int × D)) := fun env => do
  let x ← fa env
  let ks ← asDic x
  let y ← fb env
  let ms ← asDic y
  .ret (mergeD (mergeD [] ks) ms)
theorem dd_star2 (ha : PE X ea (tD (gx X) fa)) (hb : PE X eb (tD (gx X) fb)) : PE X (.Dict [none, none] [ea, eb] pos) (tDd (gx X) (nDS2 fa fb)) := by
  refine (pe_star2 ha hb).weak fun σ H Q ⟨Z, env, W, hW, ok, h⟩ => ?_
  subst hW
  intro q hq
  have g0 := Gr.allocH ok.gd (o := .dK []) hq
  have nz := ok.gd.noHas hq
  refine ⟨Z, env, ⟨W.F, upd W.H q (.dK []), W.n⟩, rfl, ok.step g0, M.wp_mono (fun n1 d1 h1 v1 F1 H1 g1 r1 => ?_) (wp_then h)⟩
  obtain ⟨ks, rfl, hl, h1⟩ := asDic_wp (wp_then h1)
  obtain ⟨a, o, vs, rfl, ha, rs⟩ := rep_dic r1
  have hF1 : F1 q = none := g1.unk (a := q) (o := .dK []) upd_same (ok.gd.noF hq)
  have hH1 : H1 q = some (.dK []) := g1.hh q _ upd_same nz
  have hqa : q ≠ a := fun z => by
    subst z
    rw [hF1] at ha
    cases ha
  refine ⟨a, _, rfl, hH1, .inr ⟨o, g1.gd.sub _ _ ha⟩, hqa, by rw [zip_len rs]; exact hl, ?_⟩
  obtain ⟨w1, e1, rw1⟩ := merge_reps (kvs := []) (vs := []) .nil rs
  have e1 : mergeK [] (List.zip (dkeys ks) vs) = List.zip (dkeys (mergeD [] ks)) w1 := e1
  rw [e1]
  have gp := (g0.trans g1).poke (o := .dK (List.zip (dkeys (mergeD [] ks)) w1)) hq hF1 nz
  refine ⟨Z, env, ⟨F1, _, n1⟩, rfl, ok.step gp, M.wp_mono (fun n2 d2 h2 v2 F2 H2 g2 r2 => ?_) (wp_then h1)⟩
  obtain ⟨ms, rfl, hl2, h2⟩ := asDic_wp (wp_then h2)
  obtain ⟨b, o2, us, rfl, hb, ru⟩ := rep_dic r2
  have hF2 : F2 q = none := g2.unk (a := q) upd_same hF1
  have hH2 : H2 q = some (.dK (List.zip (dkeys (mergeD [] ks)) w1)) := g2.hh q _ upd_same nz
  have hqb : q ≠ b := fun z => by
    subst z
    rw [hF2] at hb
    cases hb
  refine ⟨b, _, rfl, hH2, .inr ⟨o2, g2.gd.sub _ _ hb⟩, hqb, by rw [zip_len ru]; exact hl2, ?_⟩
  obtain ⟨w2, e2, rw2⟩ := merge_reps (rw1.mono g2.ff) ru
  rw [e2]
  exact h2 q w2 F2 _ ((gp.trans g2).poke (o := .dK (List.zip (dkeys (mergeD (mergeD [] ks) ms)) w2)) hq hF2 nz) hq hF2 upd_same rw2
/-- {**a, k: v} -/
def nDS1 (fa fk fb : EnvD → M D) : EnvD → M (List (Int × D)) := fun env => do
  let x ← fa env
  let ks ← asDic x
  let y ← fk env
  let k ← asI y
  let v ← fb env
  .ret (putD (mergeD [] ks) k v)
theorem dd_star1 (ha : PE X ea (tD (gx X) fa)) (hk : PE X ek (tD (gx X) fk)) (hb : PE X eb (tD (gx X) fb)) : PE X (.Dict [none, some ek] [ea, eb] pos) (tDd (gx X) (nDS1 fa fk fb)) := by
  refine (pe_star1 ha hk hb).weak fun σ H Q ⟨Z, env, W, hW, ok, h⟩ => ?_
  subst hW
  intro q hq
  have g0 := Gr.allocH ok.gd (o := .dK []) hq
  have nz := ok.gd.noHas hq
  refine ⟨Z, env, ⟨W.F, upd W.H q (.dK []), W.n⟩, rfl, ok.step g0, M.wp_mono (fun n1 d1 h1 v1 F1 H1 g1 r1 => ?_) (wp_then h)⟩
  obtain ⟨ks, rfl, hl, h1⟩ := asDic_wp (wp_then h1)
  obtain ⟨a, o, vs, rfl, ha, rs⟩ := rep_dic r1
  have hF1 : F1 q = none := g1.unk (a := q) (o := .dK []) upd_same (ok.gd.noF hq)
  have hH1 : H1 q = some (.dK []) := g1.hh q _ upd_same nz
  have hqa : q ≠ a := fun z => by
    subst z
    rw [hF1] at ha
    cases ha
  refine ⟨a, _, rfl, hH1, .inr ⟨o, g1.gd.sub _ _ ha⟩, hqa, by rw [zip_len rs]; exact hl, ?_⟩
  obtain ⟨w1, e1, rw1⟩ := merge_reps (kvs := []) (vs := []) .nil rs
  have e1 : mergeK [] (List.zip (dkeys ks) vs) = List.zip (dkeys (mergeD [] ks)) w1 := e1
  rw [e1]
  have gp := (g0.trans g1).poke (o := .dK (List.zip (dkeys (mergeD [] ks)) w1)) hq hF1 nz
  intro e2 he2
  have hqe : q ≠ e2 := fun z => by
    subst z
    rw [upd_same] at he2
    cases he2
  have ga := Gr.allocH gp.gd (o := .dK []) he2
  have gpa := gp.trans ga
  refine ⟨Z, env, ⟨F1, _, n1⟩, rfl, ok.step gpa, M.wp_mono (fun n2 d2 h2 v2 F2 H2 g2 r2 => ?_) (wp_then h1)⟩
  obtain ⟨k, rfl, h2⟩ := asI_wp (wp_then h2)
  refine ⟨Z, env, ⟨F2, H2, n2⟩, rfl, (ok.step gpa).step g2, M.wp_mono (fun n3 d3 h3 v3 F3 H3 g3 r3 => ?_) (wp_then h2)⟩
  have g23 := g2.trans g3
  have nze : ¬ Z.has e2 := gp.gd.noHas he2
  have hqW : upd (upd H1 q (.dK (List.zip (dkeys (mergeD [] ks)) w1))) e2 (.dK []) q = some (.dK (List.zip (dkeys (mergeD [] ks)) w1)) := by rw [upd_ne hqe, upd_same]
  have hH3q := g23.hh q _ hqW nz
  have hH3e : H3 e2 = some (.dK []) := g23.hh e2 _ upd_same nze
  have hF3q : F3 q = none := g23.unk (a := q) hqW hF1
  have hF3e : F3 e2 = none := g23.unk (a := e2) (o := .dK []) upd_same (gp.gd.noF he2)
  refine ⟨hH3e, hH3q, hqe, Sum.inl k, v3, by cases r2; rfl, ?_⟩
  obtain ⟨w3, e3, rw3⟩ := put_reps (k := k) r3 (rw1.mono g23.ff)
  rw [e3]
  have hneW : W.H e2 = none := gp.back he2
  have gq := (gpa.trans g23).poke (o := .dK [(Sum.inl k, v3)]) hneW hF3e nze
  exact h3 q w3 F3 _ (gq.poke (o := .dK (List.zip (dkeys (putD (mergeD [] ks) k d3)) w3)) hq hF3q nz) hq hF3q upd_same rw3

/-! ### dict(..) -/
def prOf : D → Option (Int × D)
  | .tup [.int k, v] => some (k, v)
  | _ => none
theorem prOf_eq {d : D} {p : Int × D} (h : prOf d = some p) : d = .tup [.int p.1, p.2] := by
  unfold prOf at h
  split at h
  · cases h
    rfl
  · cases h
def prD : List D → Option (List (Int × D))
  | [] => some []
  | d :: r => match prOf d, prD r with
    | some p, some ps => some (p :: ps)
    | _, _ => none
theorem prD_eq : ∀ {ds : List D} {ps : List (Int × D)}, prD ds = some ps → ds = ps.map fun p => D.tup [.int p.1, p.2]
  | [], ps, h => by
    cases h
    rfl
  | d :: r, ps, h => by
    unfold prD at h
    split at h
    · rename_i e1 e2
      cases h
      rw [prD_eq e2, prOf_eq e1]
      rfl
    · cases h
theorem prs_refs {G : Gx} {Z : Zs} {F H : Hp} (e : Ex F H) : ∀ {vs : List V} {ps : List (Int × D)}, Reps G Z F vs (ps.map fun p => D.tup [.int p.1, p.2]) →
    ∃ (as : List Addr) (us : List V), vs = as.map V.ref ∧ Reps G Z F us (ps.map (·.2)) ∧ Paired (fun p kv => SqT G.K H p [kV kv.1, kv.2]) as (List.zip (dkeys ps) us)
  | _, [], .nil => ⟨[], [], rfl, .nil, .nil⟩
  | _, (k, d) :: ps, .cons r t => by
    obtain ⟨a, ws, rfl, hs, rs⟩ := rep_tup r
    obtain ⟨x, y, rfl, r1, r2⟩ := rep2 rs
    cases r1
    obtain ⟨as, us, h1, h2, h3⟩ := prs_refs e t
    exact ⟨a :: as, y :: us, by rw [h1]; rfl, .cons r2 h2, .cons (ex_t e hs) h3⟩
def gDict : List D → M (List (Int × D))
  | [.dic kvs] => .ret kvs
  | [.lst ds] => match prD ds with
    | some ps => .ret (mergeD [] ps)
    | none => .bad
  | _ => .bad
def nDict (fs : EnvD → M (List D)) : EnvD → M (List (Int × D)) := fun env => do
  let ds ← fs env
  gDict ds
theorem dd_dict (hc : X.calm = true) (hg : Gl X "dict") (hm : X.mg "dict" = none) (ha : PA X [e] (tDA (gx X) fs)) (he : starEach [e] X.env = (false, eval e X.env) :: starEach [] X.env := by rfl)
    (hpl : (backTo pos (starEach [] X.env)).any (·.1) = false := by rfl) : PE X (.Call (.Name "dict" p) [e] [] pos) (tDd (gx X) (nDict fs)) := by
  refine (pe_callTy (call_dictD.or (call_dictP hc)) hg hm PyProof.Rows.boot_dict ha (he := he) (hpl := hpl)).weak fun σ H Q ⟨Z, env, W, hW, ok, h⟩ => ?_
  subst hW
  refine ⟨Z, env, W, rfl, ok, M.wp_mono (fun n1 ds h1 vs F1 H1 g1 r1 => ?_) (wp_then h)⟩
  unfold gDict at h1
  split at h1
  · obtain ⟨v, rfl, r2⟩ := rep1 r1
    obtain ⟨a, o, vs, rfl, hs, rs⟩ := rep_dic r2
    exact .inl ⟨a, _, rfl, .inr ⟨o, g1.gd.sub _ _ hs⟩, fun l hl => h1 l vs F1 _ (g1.trans (Gr.allocH g1.gd hl)) (g1.back hl) (g1.gd.noF hl) upd_same rs⟩
  · rename_i ds
    cases ep : prD ds with
    | none =>
      rw [ep] at h1
      exact h1.elim
    | some ps =>
      rw [ep] at h1
      obtain ⟨v, rfl, r2⟩ := rep1 r1
      obtain ⟨a, vs, rfl, hs, rs⟩ := rep_lst r2
      rw [prD_eq ep] at rs
      obtain ⟨as, us, rfl, ru, pr⟩ := prs_refs g1.gd.sub rs
      obtain ⟨ws, e1, rw1⟩ := merge_reps (kvs := []) (vs := []) .nil ru
      have e1 : mergeK [] (List.zip (dkeys ps) us) = List.zip (dkeys (mergeD [] ps)) ws := e1
      refine .inr ⟨a, as, _, rfl, SqL.of (g1.gd.sub _ _ hs), pr, fun l hl => ?_⟩
      rw [e1]
      exact h1 l ws F1 _ (g1.trans (Gr.allocH g1.gd hl)) (g1.back hl) (g1.gd.noF hl) upd_same rw1
  · exact h1.elim
/-- list(d.values()) -/
def nVals (fa : EnvD → M D) : EnvD → M (List D) := fun env => do
  let x ← fa env
  let ks ← asDic x
  .ret (ks.map (·.2))
theorem map_snd_zip {G : Gx} {Z : Zs} {F : Hp} {vs : List V} {kvs : List (Int × D)} (r : Reps G Z F vs (kvs.map (·.2))) : (List.zip (dkeys kvs) vs).map (·.2) = vs :=
  List.map_snd_zip (by rw [r.length, List.length_map, show (dkeys kvs).length = _ from List.length_map _]; exact Nat.le_refl _)
theorem dn_vals {apos mpos : Pos} (hc : X.calm = true) (hg : Gl X "list") (hm : X.mg "list" = none) (hd : PE X e (tD (gx X) fa)) (hbase : attributeBase e "values" X.env (eval e X.env) = eval e X.env := by rfl) (hline : (apos.endLine == mpos.line) = true := by rfl)
    (hse : starEach [Expr.Call (.Attribute e "values" apos) [] [] mpos] X.env = (false, eval (Expr.Call (.Attribute e "values" apos) [] [] mpos) X.env) :: starEach [] X.env := by rfl) :
    PE X (.Call (.Name "list" p) [.Call (.Attribute e "values" apos) [] [] mpos] [] pos) (tDn (gx X) (nVals fa)) := by
  refine (pe_listVals hc hg hm hd hbase hline hse).weak fun σ H Q ⟨Z, env, W, hW, ok, h⟩ => ?_
  subst hW
  refine ⟨Z, env, W, rfl, ok, M.wp_mono (fun n1 d h1 v F1 H1 g1 r1 => ?_) (wp_then h)⟩
  obtain ⟨ks, rfl, hl, h1⟩ := asDic_wp (wp_then h1)
  obtain ⟨a, o, vs, rfl, hs, rs⟩ := rep_dic r1
  refine ⟨a, _, rfl, .inr ⟨o, g1.gd.sub _ _ hs⟩, by rw [zip_len rs]; omega, fun l hl => ?_⟩
  rw [map_snd_zip rs]
  exact h1 l vs F1 _ (g1.trans (Gr.allocH g1.gd hl)) (g1.back hl) (g1.gd.noF hl) upd_same rs
end

/-! ### x[k] = v, x.pop(k), x an own dict -/
def sPut (i : Nat) (fk fv : EnvD → M D) : SEnv → M Ctl := fun se => match se[i]? with
  | some (.od kvs) => do
    let v ← fv (lendV se)
    let x ← fk (lendV se)
    let k ← asI x
    chk kvs.length (.ret (.nx (se.set i (.od (putD kvs k v)))))
  | _ => .bad
def sPop (i : Nat) (fk : EnvD → M D) : SEnv → M Ctl := fun se => match se[i]? with
  | some (.od kvs) => do
    let x ← fk (lendV se)
    let k ← asI x
    gd (hasD kvs k) (.ret (.nx (se.set i (.od (dropD kvs k)))))
  | _ => .bad
section
variable {X : Cx} {pos pos' p apos cpos : Pos} {x : Str} {e ek ev : Expr} {fk fv : EnvD → M D}
theorem put_r {i : Nat} {Dn : Ends} {σ : L2.St} {H : Hp} (q : tS (gx X) (sPut i fk fv) Dn σ H) : sDPut (tVar i) (tD (gx X) fk) (tD (gx X) fv) Dn σ H := by
  obtain ⟨Z, W0, se, W, rfl, S, q⟩ := q
  unfold sPut at q
  split at q
  · rename_i kvs hi
    refine ⟨Z, _, W, rfl, S.envV, M.wp_mono (fun n1 d1 q1 v1 F1 H1 g1 r1 => ?_) (wp_then q)⟩
    have S1 := S.step g1
    obtain ⟨p, h1, h2, h3, vs, h4, h5⟩ := S1.own i _ hi rfl
    refine ⟨.ref p, h1, Z, _, ⟨F1, H1, n1⟩, rfl, S1.envV, M.wp_mono (fun n2 d2 q2 v2 F2 H2 g2 r2 => ?_) (wp_then q1)⟩
    obtain ⟨k, rfl, q2⟩ := asI_wp (wp_then q2)
    obtain ⟨hl, q2⟩ := chk_wp q2
    have S2 := S1.step g2
    obtain ⟨p', e1, e2, e3, us, e4, e5⟩ := S2.own i _ hi rfl
    rw [h1] at e1
    cases e1
    obtain ⟨ws, f1, f2⟩ := put_reps (k := k) (r1.mono g2.ff) e5
    refine ⟨p, upd H2 p (.dK (putK (List.zip (dkeys kvs) us) (Sum.inl k) v1)), rfl, .inl ⟨_, Sum.inl k, e4, by cases r2; rfl, by rw [zip_len e5]; exact Nat.lt_of_le_of_lt hl (by decide), rfl⟩, ?_⟩
    rw [f1]
    exact q2 _ F2 _ (S2.poke (sl' := .od (putD kvs k d1)) hi rfl h1 rfl ⟨ws, upd_same, f2⟩) (g1.ff.trans g2.ff)
  · exact q.elim
theorem ds_put (i : Nat) (hu : X.A.units + 1 < cLine) (hN : X.N[i]? = some x) (hv : Vis X.env.scope x) (hk : PE X ek (tD (gx X) fk)) (hval : PE X ev (tD (gx X) fv)) (hs : swapsWith ev (some (.Subscript (.Name x p) ek pos')) pos.line X.env = pure false := by rfl)
    (hd : (x == ("__debug__" : Str)) = false := by decide) (hcd : (x == ("__classdict__" : Str)) = false := by decide) :
    PS X (.Assign [.Subscript (.Name x p) ek pos'] ev pos) (tS (gx X) (sPut i fk fv)) := (ps_dput hu (pe_var hN hv hd hcd) hk hval hs).weak fun _ _ _ q => put_r q
theorem pop_r {i : Nat} {Dn : Ends} {σ : L2.St} {H : Hp} (q : tS (gx X) (sPop i fk) Dn σ H) : tDrop (tDPop1 (tVar i) (tD (gx X) fk)) Dn σ H := by
  obtain ⟨Z, W0, se, W, rfl, S, q⟩ := q
  unfold sPop at q
  split at q
  · rename_i kvs hi
    obtain ⟨p, h1, h2, h3, vs, h4, h5⟩ := S.own i _ hi rfl
    refine ⟨.ref p, h1, p, rfl, .inl ⟨_, .inl h4⟩, ?_⟩
    refine ⟨Z, _, W, rfl, S.envV, M.wp_mono (fun n1 d1 q1 v1 F1 H1 g1 r1 => ?_) (wp_then q)⟩
    obtain ⟨k, rfl, q1⟩ := asI_wp (wp_then q1)
    obtain ⟨hh, q1⟩ := gd_wp q1
    have S1 := S.step g1
    obtain ⟨p', e1, e2, e3, us, e4, e5⟩ := S1.own i _ hi rfl
    rw [h1] at e1
    cases e1
    obtain ⟨ws, f1, f2⟩ := drop_reps (k := k) e5
    have hs : (valV (List.zip (dkeys kvs) us) (Sum.inl k)).isSome = true := by rw [val_none e5]; exact hh
    obtain ⟨w, hw⟩ := Option.isSome_iff_exists.mp hs
    refine ⟨_, Sum.inl k, w, e4, by cases r1; rfl, hw, ?_⟩
    rw [f1]
    exact q1 _ F1 _ (S1.poke (sl' := .od (dropD kvs k)) hi rfl h1 rfl ⟨ws, upd_same, f2⟩) g1.ff
  · exact q.elim
theorem ds_pop (i : Nat) (hN : X.N[i]? = some x) (hv : Vis X.env.scope x) (hk : PE X ek (tD (gx X) fk)) (m : M1 X (.Name x p) "pop" apos ek cpos) (hs : swapsWith (.Call (.Attribute (.Name x p) "pop" apos) [ek] [] cpos) none pos.line X.env = pure false := by rfl)
    (hd : (x == ("__debug__" : Str)) = false := by decide) (hcd : (x == ("__classdict__" : Str)) = false := by decide) :
    PS X (.Expr (.Call (.Attribute (.Name x p) "pop" apos) [ek] [] cpos) pos) (tS (gx X) (sPop i fk)) := (ps_expr (pe_dpop1 (pe_var hN hv hd hcd) hk m) hs).weak fun _ _ _ q => pop_r q
end
end Dv
end
section
set_option linter.all false
set_option maxRecDepth 100000
set_option maxHeartbeats 4000000
/-! R0: defs that may raise: answers with errors, their statements, their promise. -/
namespace Dv
open PySem PySem.Spec PyProof.Rows L2 Evl
namespace M
def wpE {α : Type} : M α → Nat → (Nat → α → Prop) → (Nat → Nat → Prop) → Prop
  | .ret a, n, Q, _ => Q n a
  | .ask k f, n, Q, E => 0 < k ∧ k ≤ 1000 ∧ 0 < n ∧ ∀ i, i < k → (f i).wpE (n - 1) Q E
  | .err c, n, _, E => E n c
  | .bad, _, _, _ => False
theorem wpE_bind {α β : Type} {g : α → M β} {Q : Nat → β → Prop} {E : Nat → Nat → Prop} : ∀ {m : M α} {n : Nat}, (m.bind g).wpE n Q E → m.wpE n (fun n' a => (g a).wpE n' Q E) E
  | .ret a, n, h => h
  | .ask k f, n, ⟨h1, h2, h3, h⟩ => ⟨h1, h2, h3, fun i hi => wpE_bind (h i hi)⟩
  | .err _, _, h => h
  | .bad, _, h => h
theorem wpE_mono {α : Type} {Q Q' : Nat → α → Prop} {E E' : Nat → Nat → Prop} (h : ∀ n a, Q n a → Q' n a) (e : ∀ n c, E n c → E' n c) : ∀ {m : M α} {n : Nat}, m.wpE n Q E → m.wpE n Q' E'
  | .ret a, n, q => h _ _ q
  | .ask k f, n, ⟨h1, h2, h3, q⟩ => ⟨h1, h2, h3, fun i hi => wpE_mono h e (q i hi)⟩
  | .err _, _, q => e _ _ q
  | .bad, _, q => q
end M
theorem wpE_then {α β : Type} {m : M α} {g : α → M β} {n : Nat} {Q : Nat → β → Prop} {E : Nat → Nat → Prop} (h : (m >>= g).wpE n Q E) : m.wpE n (fun n' a => (g a).wpE n' Q E) E := M.wpE_bind h
/-- no errors, or bad -/
def noErr {α : Type} : M α → M α
  | .ret a => .ret a
  | .ask k f => .ask k fun i => noErr (f i)
  | .err _ => .bad
  | .bad => .bad
theorem noErr_E {α : Type} {Q : Nat → α → Prop} {E : Nat → Nat → Prop} : ∀ {m : M α} {n : Nat}, (noErr m).wpE n Q E → m.wp n Q
  | .ret a, n, h => h
  | .ask k f, n, ⟨h1, h2, h3, h⟩ => ⟨h1, h2, h3, fun i hi => noErr_E (h i hi)⟩
  | .err _, _, h => h
  | .bad, _, h => h
theorem noErr_wp {α : Type} {Q : Nat → α → Prop} {E : Nat → Nat → Prop} : ∀ {m : M α} {n : Nat}, (noErr m).wp n Q → m.wpE n Q E
  | .ret a, n, h => h
  | .ask k f, n, ⟨h1, h2, h3, h⟩ => ⟨h1, h2, h3, fun i hi => noErr_wp (h i hi)⟩
  | .err _, _, h => h.elim
  | .bad, _, h => h
/-- what is wished of an error -/
def ErrP (Z : Zs) (W : Wd) (C : Nat → Addr) (E : XK) : Nat → Nat → Prop := fun n' c => ∀ F' H', Gr Z W ⟨F', H', n'⟩ → E (.ref (C c)) none H'
theorem ErrP.back {Z : Zs} {W W1 : Wd} {C : Nat → Addr} {E : XK} (g : Gr Z W W1) {n c : Nat} (h : ErrP Z W C E n c) : ErrP Z W1 C E n c := fun F' H' q => h F' H' (g.trans q)
def spE (G : Gx) (C : Nat → Addr) (n : Nat) (f : List D → M D) : Sp := fun vs H Q E => vs.length = n ∧ ∃ Z W ds, W.H = H ∧ Gd Z W ∧ Reps G Z W.F vs ds ∧ (f ds).wpE W.n (Aft G Z W Q) (ErrP Z W C E)
def tSE (G : Gx) (C : Nat → Addr) (E : XK) (g : SEnv → M Ctl) : TS := fun Dn σ H => ∃ Z W0 se W, W.H = H ∧ SOk G Z W0 se σ W ∧ (g se).wpE W.n (SAft G Z W0 W.F Dn) (ErrP Z W0 C E)
/-- a statement without errors -/
def sNE (g : SEnv → M Ctl) : SEnv → M Ctl := fun se => noErr (g se)
def sErr (c : Nat) : SEnv → M Ctl := fun _ => .err c
def sIfE (ft : EnvD → M Bool) (g h : SEnv → M Ctl) : SEnv → M Ctl := fun se => do
  let b ← noErr (ft (lendO se))
  match b with
  | true => g se
  | false => h se
def sDropE (f : List D → M D) (fs : EnvD → M (List D)) : SEnv → M Ctl := fun se => do
  let ds ← noErr (fs (lendV se))
  let _ ← f ds
  .ret (.nx se)
section
variable {G : Gx} {C : Nat → Addr} {E : XK} {ft : EnvD → M Bool} {g h : SEnv → M Ctl} {Dn : Ends} {σ : L2.St} {H : Hp}
theorem nilE_r (q : tSE G C E sNil Dn σ H) : tNext Dn σ H := by
  obtain ⟨Z, W0, se, W, rfl, S, q⟩ := q
  exact q σ W.F W.H S (Ex.refl _)
theorem seqE_r (q : tSE G C E (sSeq g h) Dn σ H) : tSeq (tSE G C E g) (tSE G C E h) Dn σ H := by
  obtain ⟨Z, W0, se, W, rfl, S, q⟩ := q
  refine ⟨Z, W0, se, W, rfl, S, M.wpE_mono (fun n1 c q1 => ?_) (fun _ _ z => z) (wpE_then q)⟩
  cases c with
  | nx se1 => exact fun σ' F' H' S' e' => ⟨Z, W0, se1, ⟨F', H', n1⟩, rfl, S', M.wpE_mono (fun _ c h => h.mono e') (fun _ _ z => z) q1⟩
  | rt d => exact q1
theorem ofE_r (q : tSE G C E (sNE g) Dn σ H) : tS G g Dn σ H := by
  obtain ⟨Z, W0, se, W, rfl, S, q⟩ := q
  exact ⟨Z, W0, se, W, rfl, S, noErr_E q⟩
theorem ifE_r (q : tSE G C E (sIfE ft g h) Dn σ H) : tIfS (tDT G ft) (tSE G C E g) (tSE G C E h) Dn σ H := by
  obtain ⟨Z, W0, se, W, rfl, S, q⟩ := q
  refine ⟨Z, _, ⟨FB se σ W, W.H, W.n⟩, rfl, S.envO, M.wp_mono (fun n1 b q1 F1 H1 g1 => ?_) (noErr_E (wpE_then q))⟩
  cases b with
  | true => exact ⟨Z, W0, se, _, rfl, S.stepO g1, M.wpE_mono (fun _ c h => h.mono (S.exO g1)) (fun _ _ z => z) q1⟩
  | false => exact ⟨Z, W0, se, _, rfl, S.stepO g1, M.wpE_mono (fun _ c h => h.mono (S.exO g1)) (fun _ _ z => z) q1⟩
theorem dropE_r {n : Nat} {f : List D → M D} {fs : EnvD → M (List D)} (hlen : ∀ env m (Q : Nat → List D → Prop), (fs env).wp m Q → (fs env).wp m fun k ds => ds.length = n ∧ Q k ds) (q : tSE G C E (sDropE f fs) Dn σ H) : tDrop (tCall (spE G C n f) [] E (tDA G fs)) Dn σ H := by
  obtain ⟨Z, W0, se, W, rfl, S, q⟩ := q
  refine ⟨Z, _, W, rfl, S.envV, M.wp_mono (fun n1 ds q1 vs F1 H1 g1 r1 => ?_) (hlen _ _ _ (noErr_E (wpE_then q)))⟩
  obtain ⟨hn, q1⟩ := q1
  refine ⟨by rw [List.append_nil, r1.length]; exact hn, Z, ⟨F1, H1, n1⟩, ds, rfl, g1.gd, by rw [List.append_nil]; exact r1, M.wpE_mono (fun n2 d q2 v F2 H2 g2 r2 => ?_) (fun n2 c q2 => q2.back (S.base.trans g1)) (wpE_then q1)⟩
  exact q2 _ F2 H2 (S.step (g1.trans g2)) (g1.trans g2).ff
end
section
variable {X : Cx} {C : Nat → Addr} {E : XK} {st : Stmt} {rest : List Stmt} {pos p : Pos} {g h : SEnv → M Ctl} {ft : EnvD → M Bool} {k j n : Nat} {x : Str}
theorem xs_nil : PSs X [] (tSE (gx X) C E sNil) := pss_nil.weak fun _ _ _ q => nilE_r q
theorem xs_cons (h1 : PS X st (tSE (gx X) C E g)) (h2 : PSs X rest (tSE (gx X) C E h)) : PSs X (st :: rest) (tSE (gx X) C E (sSeq g h)) := (pss_cons h1 h2).weak fun _ _ _ q => seqE_r q
theorem xs_of (h1 : PS X st (tS (gx X) g)) : PS X st (tSE (gx X) C E (sNE g)) := h1.weak fun _ _ _ q => ofE_r q
theorem xs_if {c : Expr} {a b : List Stmt} (hc : PT X c (tDT (gx X) ft)) (ha : PSs X a (tSE (gx X) C E g)) (hb : PSs X b (tSE (gx X) C E h)) : PS X (.If c a b pos) (tSE (gx X) C E (sIfE ft g h)) := (ps_if hc ha hb).weak fun _ _ _ q => ifE_r q
/-- what is known of a class of exceptions without __init__ -/
structure ExCls (K : PySem.W.Frag) (mg : Str → Option Value) (x : Str) (a : Addr) : Prop where
  mgx : mg x = some (.ref a)
  exc : PySem.W.excIn K a [.type "ValueError", .type "Exception", .type "BaseException", .type "object"] "ValueError.__new__" = true
  kp : PySem.W.keepIn K (.ref a) = true
  sub : PySem.W.subIn K (.ref a) (.type "BaseException") = some true
  ty : PySem.W.typeIn K (.ref a) = some (.type "type")
  is : ExcC K a
theorem xs_raise {m : Str} {jj c : Nat} {p2 p3 : Pos} (tk : Takes X fun cls d _ H => E cls d H) (hc : X.calm = true) (e : ExCls X.K X.mg x (C c)) (hg : Gl X x) (hdb : (x == ("__debug__" : Str)) = false := by decide) :
    PS X (.Raise (some (.Call (.Name x p) [.Constant (.str m) jj p2] [] p3)) none pos) (tSE (gx X) C E (sErr c)) :=
  (ps_raise hc tk (pmk_own PySem.F.excBase_ValueError e.exc e.mgx e.kp (raises_own e.sub e.ty) hg hdb)).weak fun Dn σ H ⟨Z, W0, se, W, hW, S, q⟩ => by
    subst hW
    exact q W.F W.H S.base
/-- a def of the module that computes f, or raises -/
structure DefE (P : Program) (w : World) (K : PySem.W.Frag) (mg : Str → Option Value) (base : Heap) (C : Nat → Addr) (k : Nat) (x : Str) (n : Nat) (f : List D → M D) : Prop where
  ex : ∃ (fa : Addr) (fd : FuncData) (ps : List Str), ps.length = n ∧ FnOk P w K mg base (L2.CX P w) k fa fd ps (spE ⟨P, w, K⟩ C n f) ∧ mg x = some (.ref fa) ∧ PySem.W.keepIn K (.ref fa) = true ∧ Binds K fd ps []
variable {e : Expr} {es : List Expr} {fs : EnvD → M (List D)} {f : List D → M D}
theorem xs_call (F : DefE X.prog X.w X.K X.mg X.base C k x n f) (tk : Takes X fun cls d _ H => E cls d H) (hr : Room j X.A) (hk : k ≤ j) (hg : Gl X x) (ha : PA X (e :: es) (tDA (gx X) fs)) (hlen : ∀ env m (Q : Nat → List D → Prop), (fs env).wp m Q → (fs env).wp m fun k ds => ds.length = n ∧ Q k ds) {p2 : Pos}
    (hs : swapsWith (.Call (.Name x p) (e :: es) [] p2) none pos.line X.env = pure false := by rfl) (he : starEach (e :: es) X.env = (false, eval e X.env) :: starEach es X.env := by rfl) (hpl : (backTo p2 (starEach es X.env)).any (·.1) = false := by rfl) (hdb : (x == ("__debug__" : Str)) = false := by decide) :
    PS X (.Expr (.Call (.Name x p) (e :: es) [] p2) pos) (tSE (gx X) C E (sDropE f fs)) := by
  obtain ⟨fa, fd, ps, hps, F, hm, hkp, hb⟩ := F.ex
  have hp : PE X (.Call (.Name x p) (e :: es) [] p2) (tCall (spE (gx X) C n f) [] E (tDA (gx X) fs)) := pe_call F (hr.mono hk) hg hm hkp hb .nil (passes_call tk fun _ _ _ _ h => h) ha (he := he) (hpl := hpl) (hdb := hdb)
  exact (ps_expr hp hs).weak fun _ _ _ q => dropE_r hlen q
/-- called where nothing is raised -/
theorem de_defE (F : DefE X.prog X.w X.K X.mg X.base C k x n f) (hr : Room j X.A) (hk : k ≤ j) (hg : Gl X x) (ha : PA X (e :: es) (tDA (gx X) fs)) (hlen : ∀ env m (Q : Nat → List D → Prop), (fs env).wp m Q → (fs env).wp m fun k ds => ds.length = n ∧ Q k ds)
    (he : starEach (e :: es) X.env = (false, eval e X.env) :: starEach es X.env := by rfl) (hpl : (backTo pos (starEach es X.env)).any (·.1) = false := by rfl) (hdb : (x == ("__debug__" : Str)) = false := by decide) : PE X (.Call (.Name x p) (e :: es) [] pos) (tD (gx X) (eCall (fun ds => noErr (f ds)) fs)) := by
  obtain ⟨fa, fd, ps, hps, F, hm, hkp, hb⟩ := F.ex
  have hp : PE X (.Call (.Name x p) (e :: es) [] pos) (tCall (spE (gx X) C n f) [] E0 (tDA (gx X) fs)) := pe_call F (hr.mono hk) hg hm hkp hb .nil passL ha (he := he) (hpl := hpl) (hdb := hdb)
  refine hp.weak fun σ H Q ⟨Z, env, W, hW, ok, h⟩ => ?_
  subst hW
  refine ⟨Z, env, W, rfl, ok, M.wp_mono (fun n1 ds h1 vs F1 H1 g1 r1 => ?_) (hlen _ _ _ (wp_then h))⟩
  obtain ⟨hn, h1⟩ := h1
  refine ⟨by rw [List.append_nil, r1.length]; exact hn, Z, ⟨F1, H1, n1⟩, ds, rfl, g1.gd, by rw [List.append_nil]; exact r1, noErr_wp (M.wp_mono (fun n2 d2 h2 v F' H' g2 r => h2 v F' H' (g1.trans g2) r) h1)⟩
end
section
variable {P : Program} {w : World} {K : PySem.W.Frag} {mg : Str → Option Value} {base : Heap} {C : Nat → Addr} {k n : Nat} {x qual : Str} {st : Stmt} {f : Addr} {fd : FuncData} {N ps : List Str} {g : SEnv → M Ctl}
theorem fnE_start {G : Gx} {vs : List V} {H : Hp} {Q : VK} {E : XK} (h : spE G C n (runD N.length g) vs H Q E) : tSE G C E g { nx := fun _ H' => Q .non H', rt := Q } (L2.start N vs) H := by
  obtain ⟨_, Z, W, ds, rfl, gd, r, h⟩ := h
  refine ⟨Z, W, _, W, rfl, start_ok gd r, M.wpE_mono (fun n1 c h1 => ?_) (fun _ _ z => z) (wpE_then h)⟩
  cases c with
  | nx se => exact fun σ' F' H' S' _ => h1 .non F' H' S'.base .non
  | rt d => exact h1
theorem mk_defE (F : Fun K x qual st f fd) (S : FnScope N ps (defScope st)) (hb : L2.Binds K fd ps []) (hm : mg x = some (.ref f)) (hn : ps.length = n)
    (h : ∀ (cdv : Value) (A : Around) (outer : List PySem.Env) (s : Shared) (H : Hp) (E : XK), Room k (A.deeper (envOfC qual (defScope st) s.heap.objs.size f cdv)) →
      PSs (cxOf (L2.CX P w) P w K mg base N qual (defScope st) f cdv A outer s H E) (defBody st) (tSE ⟨P, w, K⟩ C E g)) :
    DefE P w K mg base C (k + 1) x n (runD N.length g) := by
  refine ⟨f, fd, ps, hn, F.okX S (fun vs H Q E h => ?_) (fun cdv A outer s H vs Q E hr hq => ⟨_, h cdv A outer s H E hr, fnE_start hq⟩), hm, F.kp, hb⟩
  rw [h.1, hn]
end
end Dv
end
section
set_option linter.all false
set_option maxRecDepth 100000
set_option maxHeartbeats 4000000
/-! L0: a lambda is made (what becomes of the table, told in full); a lambda of one parameter, x[i] of a dict, called as a key. -/
namespace LamY
open PySem PySem.Spec PyProof.Rows L2 LamX
/-- the table at P, before and behind the making of a lambda named q, its code object at c -/
def Grew (H H1 : Hp) (P : Addr) (ps : Array Value) (c : Addr) (q : Str) : Prop :=
  (H1 = H ∧ H c = some (CodeO c q)) ∨
  ∃ more : Array Value, H c = none ∧ H1 = upd (upd H P (.tbl (ps ++ more))) c (CodeO c q) ∧ TriplesOk (ps ++ more).toList ∧ ∀ (pos : Pos) (cv : Value), codeAmong pos (ps ++ more).toList = some cv → codeAmong pos ps.toList = some cv ∨ cv = .ref c
section
variable {X : Cx} {pins : List (Addr × Obj)} {σ : L2.St} {H : Hp} {s : Shared}
theorem made {c P : Addr} {ps : Array Value} {prm : Arguments} {bd : Expr} {sc : Scope} {pos : Pos} {E Q : Value → Shared → Prop} (J : Inv X pins σ H s) (tb : TabB X.base X.mg c P) (hc : X.env.code = .ref c)
    (hT : H P = some (.tbl ps)) (h3 : TriplesOk ps.toList) (hA : ∀ (pos : Pos) (cv : Value), codeAmong pos ps.toList = some cv → ∃ b, cv = .ref b ∧ H b = some (CodeO b (X.env.qual ++ "<lambda>")))
    (hD : defaultsOf prm X.env = ([], [])) (hF : ∀ y ∈ sc.names, y.2 = .free → ∃ b, X.env.cells.lookup y.1 = some b)
    (k : ∀ (f b : Addr) (pm ctv : Value) (H1 : Hp) (s1 : Shared), Inv X pins σ H1 s1 → Grew H H1 P ps b (X.env.qual ++ "<lambda>") →
      s1.heap.get? f = some (PySem.W.kla_obj "<lambda>" (X.env.qual ++ "<lambda>") prm bd sc (cloFrom X.env.cells sc.names []) pm b ctv) → H1 f = none → f ∉ frs X.stack → Q (.ref f) s1) :
    wpAny (model X.prog X.w) X.A (eval (.Lambda prm bd sc pos) X.env) Q E s := by
  have bAt : s.heap.BuiltinsAt X.mg P := tb.bm.keeps J.bk
  have tAt : s.heap.get? P = some { cls := .none, data := .fields ps } := J.hok P _ hT
  have off : ∀ f, s.heap.objs.size ≤ f → f ∉ frs X.stack := fun f q z => by
    rcases List.mem_cons.mp (J.stkSub _ z) with e | e
    · have l := J.lt
      rw [← e] at l
      exact Nat.not_lt.mpr q l
    · exact J.nofs q e
  apply PySem.W.kla_eval hD
  cases hca : codeAmong pos ps.toList with
  | some cv =>
    obtain ⟨b, rfl, hb⟩ := hA pos cv hca
    apply PySem.W.kla_makeFunctionHit (mg := X.mg) (c := c) (P := P) (ps := ps) (closure_ok hF) J.ok.glob (J.mod.glob.keeps J.bk) hc (tb.code.keeps J.bk) tAt h3 hca bAt
    intro ctv g tk st sz
    have J1 : Inv X pins σ H { s with heap := g.push (PySem.W.kla_obj "<lambda>" (X.env.qual ++ "<lambda>") prm bd sc (cloFrom X.env.cells sc.names []) ((X.mg "__name__").getD .none) b ctv), toks := tk } :=
      J.kept fun a o e => Heap.get?_push_of_some _ (st a o e)
    exact k g.objs.size b _ ctv H _ J1 (.inl ⟨rfl, hb⟩) (Heap.get?_push_size _ rfl) (J.hok.fresh sz) (off _ sz)
  | none =>
    apply PySem.W.kla_makeFunction (mg := X.mg) (c := c) (P := P) (ps := ps) (closure_ok hF) J.ok.glob (J.mod.glob.keeps J.bk) hc (tb.code.keeps J.bk) tAt h3 hca tb.gP bAt
    intro b ctv g tk ext ge lt rec tab
    obtain ⟨b', oc, vs, t, eb, hoc, hd, hv⟩ := rec
    cases eb
    have sz : s.heap.objs.size ≤ g.objs.size := Nat.le_trans ge (Nat.le_of_lt lt)
    have nb : H b = none := J.hok.fresh ge
    have J1 := inv_table (t' := tk) (more := #[rawInt pos.line, rawInt pos.col, .ref b]) (h' := g.push (PySem.W.kla_obj "<lambda>" (X.env.qual ++ "<lambda>") prm bd sc (cloFrom X.env.cells sc.names []) ((X.mg "__name__").getD .none) b ctv)) J hT
      (fun a o na e => Heap.get?_push_of_some _ (ext a o na e)) (Heap.get?_push_of_some _ tab) ge ⟨oc, vs, t, Heap.get?_push_of_some _ hoc, hd, hv⟩
    have eL : (ps ++ #[rawInt pos.line, rawInt pos.col, .ref b]).toList = ps.toList ++ [rawInt pos.line, rawInt pos.col, .ref b] := by simp
    refine k g.objs.size b _ ctv _ _ J1 (.inr ⟨_, nb, rfl, ?_, ?_⟩) (Heap.get?_push_size _ rfl) ?_ (off _ sz)
    · rw [eL]
      exact PySem.TriplesOk_snoc _ _ _ _ h3
    · intro p' cv hcv
      rw [eL] at hcv
      exact among_app _ h3 hcv
    · have n1 : g.objs.size ≠ b := Nat.ne_of_gt lt
      have n2 : g.objs.size ≠ P := Nat.ne_of_gt (Nat.lt_of_lt_of_le (Heap.lt_size tAt) sz)
      rw [upd_ne n1, upd_ne n2]
      exact J.hok.fresh sz
end
end LamY
end
section
set_option linter.all false
set_option maxRecDepth 100000
set_option maxHeartbeats 4000000
/-! L1: a lambda of one parameter, x[i] of a dict, called as a key. -/
namespace LamY
open PySem PySem.Spec PyProof.Rows L2 LamX
section
variable {prog : Program} {w : World} {A : Around} {s : Shared}
/-- (lambda a: a[i])(d), d a dict that has i -/
theorem key_call {f b d : Addr} {q a : Str} {prm : Arguments} {sc : Scope} {pm ctv : Value} {i k : Int} {j : Nat} {p1 p2 p3 : Pos} {t : Tok} {vs : List (Key × Value)}
    (hf : s.heap.get? f = some (PySem.W.kla_obj "<lambda>" q prm (.Subscript (.Name a p1) (.Constant (.int i) j p2) p3) sc [] pm b ctv)) (hr : s.heap.CodeRec (.ref b) q) (lim : s.heap.NoLimit) (dep : A.depth < recursionLimit)
    (bind : ∀ u : Value, bindArgs (PySem.W.kla_fn "<lambda>" q prm (.Subscript (.Name a p1) (.Constant (.int i) j p2) p3) sc [] pm (.ref b) ctv) ⟨[u], []⟩ = pure [(a, u)])
    (kind : sc.kind = .function) (co : sc.isCoroutine = false) (gen : sc.isGenerator = false) (loc : sc.names.lookup a = some .local) (nc : ∀ x ∈ sc.names, x.2 ≠ .cell)
    (dd : s.heap.DictOf (mixKind prog w) d vs) (hv : valueAt vs (.inl i) = some (.int k t)) (nd : (a == ("__debug__" : Str)) = false := by decide) :
    wpAny (model prog w) A (call (.ref f) [.ref d]) (PySem.W.KeyPure (.int k) s) (fun _ _ => False) s := by
  refine wpAny_call (PySem.W.kla_callFunE dep hf rfl co gen rfl hr ?_)
  rw [bind]
  refine wpAny_pure (wpAny_newFunctionEnv nc (fun x hx => ?_) (fun h1 hns hsb => ⟨lim.fresh _ hsb, ?_⟩) kind)
  · cases (List.mem_singleton.mp hx)
    exact loc
  have kp : ∀ x o, s.heap.get? x = some o → h1.get? x = some o := fun x o e => hsb.extBut x o (Nat.ne_of_lt (Heap.lt_size e)) (Heap.get?_push_of_some _ e)
  have dd1 : h1.DictOf (mixKind prog w) d vs := dd.at (kp d)
  refine PySem.W.kla_codeExpr (subD_of PySem.F.slot_dict_getitem.lookup (fun _ _ => rfl) ?_)
  refine wpAny_Name (wpAny_loadName_local (v := .ref d) kind loc hns (by show List.lookup a [(a, Value.ref d)] = _; rw [List.lookup_cons, beq_self_eq_true]) ?_) nd
  refine wpAny_Constant_int ⟨?_, wpAny_getItem_of (kV_is (k := .inl i) ⟨_, rfl⟩) dd1.mapOf hv ?_⟩
  · exact dd1.typeIs
  · exact ⟨_, _, rfl, kp, .int _ _⟩
end
end LamY
end
section
set_option linter.all false
set_option maxRecDepth 100000
set_option maxHeartbeats 4000000
/-! LS: sorted(list of dicts, key=lambda a: a[i]): a new list. -/
namespace Dv
open PySem PySem.Spec PyProof.Rows L2 Evl
/-! ### a lambda is made: a step -/
theorem Gr.grew {Z : Zs} {W : Wd} (g : Gd Z W) {P c : Addr} {q : Str} {ps : Array Value} {H1 : Hp} (hm : (P, q) ∈ tbl0) (hu : ∀ p ∈ tbl0, p.1 = P → p.2 = q) (hT : W.H P = some (.tbl ps)) (hA : ∀ (pos : Pos) (cv : Value), codeAmong pos ps.toList = some cv → ∃ b, cv = .ref b ∧ W.F b = some (LamX.CodeO b q))
    (w : LamY.Grew W.H H1 P ps c q) : ∃ F1, Gr Z W ⟨F1, H1, W.n⟩ := by
  rcases w with ⟨rfl, _⟩ | ⟨more, nc, rfl, t3, tA⟩
  · exact ⟨W.F, Gr.refl g⟩
  · have nPc : P ≠ c := ne_of_none hT nc
    have nF : W.F c = none := g.noF nc
    have nz := g.noHas nc
    have ff : Ex W.F (upd W.F c (LamX.CodeO c q)) := Ex.new nF
    have atO : ∀ a, a ≠ P → a ≠ c → upd (upd W.H P (.tbl (ps ++ more))) c (LamX.CodeO c q) a = W.H a := fun a h1 h2 => by rw [upd_ne h2, upd_ne h1]
    have kp : ∀ a o, W.H a = some o → a ≠ P → upd (upd W.H P (.tbl (ps ++ more))) c (LamX.CodeO c q) a = some o := fun a o e n => by
      rw [atO a n (ne_of_none e nc)]
      exact e
    have sP : ∀ a, Z.own a → a ≠ P := fun a ha z => by
      obtain ⟨on, ha⟩ := ha
      obtain ⟨ls, cs, x, t, h1, h2, h3, _⟩ := g.st on
      subst z
      rcases ha with z | z | z
      · rw [z, h1] at hT; cases hT
      · rw [z, h2] at hT; cases hT
      · rw [z, h3] at hT; cases hT
    refine ⟨_, ff, fun a o e n => kp a o e fun z => n (.inr ⟨q, by rw [z]; exact hm⟩), fun a e e' => ?_, ⟨fun a o e => ?_, g.st.same fun a ha => ?_, fun a ha => ?_, fun p hp => ?_⟩⟩
    · by_cases z : a = c
      · rw [z]; exact nc
      · have e' : upd W.F c (LamX.CodeO c q) a ≠ none := e'
        rw [upd_ne z] at e'
        exact absurd e e'
    · have e : upd W.F c (LamX.CodeO c q) a = some o := e
      show upd (upd W.H P (.tbl (ps ++ more))) c (LamX.CodeO c q) a = some o
      by_cases z : a = c
      · rw [z, upd_same] at e ⊢
        exact e
      · rw [upd_ne z] at e
        refine kp a o (g.sub a o e) fun y => ?_
        have := g.zf P (.inr ⟨q, hm⟩)
        rw [← y, e] at this
        cases this
    · exact atO a (sP a ha) fun z => nz (.inl (by rw [← z]; exact ha))
    · show upd W.F c (LamX.CodeO c q) a = none
      rw [upd_ne fun z => nz (by rw [← z]; exact ha)]
      exact g.zf a ha
    · by_cases z : p.1 = P
      · refine ⟨ps ++ more, ?_, t3, fun pos cv hc => ?_⟩
        · rw [z]
          show upd (upd W.H P (.tbl (ps ++ more))) c (LamX.CodeO c q) P = _
          rw [upd_ne nPc, upd_same]
        · rw [hu p hp z]
          rcases tA pos cv hc with y | y
          · obtain ⟨b, e1, e2⟩ := hA pos cv y
            exact ⟨b, e1, ff _ _ e2⟩
          · exact ⟨c, y, upd_same⟩
      · refine (g.tab p hp).mono ff (atO _ z fun y => nz (.inr ⟨p.2, ?_⟩))
        rw [← y]
        exact hp

/-! ### the function -/
def keyD (i : Int) : D → Option Int
  | .dic kvs => match lookD kvs i with
    | some (.int k) => some k
    | _ => none
  | _ => none
def keysD (i : Int) : List D → Option (List Int)
  | [] => some []
  | d :: r => match keyD i d, keysD i r with
    | some k, some ks => some (k :: ks)
    | _, _ => none
def insK (k : Int) (d : D) : List (Int × D) → List (Int × D)
  | [] => [(k, d)]
  | x :: r => match decide (k ≤ x.1) with
    | true => (k, d) :: x :: r
    | false => x :: insK k d r
def srtK : List (Int × D) → List (Int × D)
  | [] => []
  | x :: r => insK x.1 x.2 (srtK r)
def apartI : List Int → Bool
  | [] => true
  | k :: r => !r.any (fun j => decide (j = k)) && apartI r
def nSortK (i : Int) (fa : EnvD → M D) : EnvD → M (List D) := fun env => do
  let x ← fa env
  match x with
  | .lst ds => match keysD i ds with
    | some ks => gd (apartI ks) (chk ds.length (.ret ((srtK (List.zip ks ds)).map (·.2))))
    | none => .bad
  | _ => .bad
theorem insK_perm (k : Int) (d : D) : ∀ l : List (Int × D), (insK k d l).Perm ((k, d) :: l)
  | [] => .refl _
  | x :: r => by
    unfold insK
    cases decide (k ≤ x.1) with
    | true => exact .refl _
    | false => exact ((insK_perm k d r).cons x).trans (.swap _ _ _)
theorem srtK_perm : ∀ l : List (Int × D), (srtK l).Perm l
  | [] => .refl _
  | x :: r => (insK_perm x.1 x.2 (srtK r)).trans ((srtK_perm r).cons x)
theorem insK_pw (k : Int) (d : D) : ∀ {l : List (Int × D)}, l.Pairwise (fun x y => x.1 ≤ y.1) → (insK k d l).Pairwise (fun x y => x.1 ≤ y.1)
  | [], _ => .cons (fun _ h => nomatch h) .nil
  | x :: r, .cons h t => by
    unfold insK
    cases e : decide (k ≤ x.1) with
    | true =>
      have e := of_decide_eq_true e
      refine .cons (fun y hy => ?_) (.cons h t)
      rcases List.mem_cons.mp hy with rfl | hy
      · exact e
      · exact Int.le_trans e (h y hy)
    | false =>
      have e := of_decide_eq_false e
      refine .cons (fun y hy => ?_) (insK_pw k d t)
      rcases List.mem_cons.mp ((insK_perm k d r).mem_iff.mp hy) with rfl | hy
      · show x.1 ≤ k
        omega
      · exact h y hy
theorem srtK_pw : ∀ l : List (Int × D), (srtK l).Pairwise (fun x y => x.1 ≤ y.1)
  | [] => .nil
  | x :: r => insK_pw x.1 x.2 (srtK_pw r)
theorem apart_of : ∀ {ks : List Int}, apartI ks = true → ks.Nodup
  | [], _ => .nil
  | k :: r, h => by
    have h : (!r.any (fun j => decide (j = k)) && apartI r) = true := h
    rw [Bool.and_eq_true] at h
    refine List.nodup_cons.mpr ⟨fun z => ?_, apart_of h.2⟩
    have := h.1
    rw [Bool.not_eq_true', List.any_eq_false] at this
    exact this k z (decide_eq_true rfl)
/-- two that are in order and hold the same, no key twice -/
theorem srt_oneK {α : Type} {f : α → Int} : ∀ {a b : List α}, a.Perm b → (b.map f).Nodup → a.Pairwise (fun x y => f x ≤ f y) → b.Pairwise (fun x y => f x ≤ f y) → a = b
  | [], b, p, _, _, _ => p.symm.eq_nil.symm
  | x :: a, [], p, _, _, _ => absurd p.eq_nil (fun z => nomatch z)
  | x :: a, y :: b, p, nd, .cons h t, .cons h' t' => by
    have e : x = y := by
      have h1 : x ∈ y :: b := p.mem_iff.mp List.mem_cons_self
      have h2 : y ∈ x :: a := p.mem_iff.mpr List.mem_cons_self
      rcases List.mem_cons.mp h1 with q | q
      · exact q
      · rcases List.mem_cons.mp h2 with r | r
        · exact r.symm
        · have l1 := h' x q
          have l2 := h y r
          have nd : (f y :: b.map f).Nodup := nd
          exact absurd (List.mem_map.mpr ⟨x, q, Int.le_antisymm l2 l1⟩) (List.nodup_cons.mp nd).1
    subst e
    have nd : (f x :: b.map f).Nodup := nd
    rw [srt_oneK p.cons_inv (List.nodup_cons.mp nd).2 t t']
end Dv
end
section
set_option linter.all false
set_option maxRecDepth 100000
set_option maxHeartbeats 4000000
/-! LT: sorted(list of dicts, key=lambda a: a[i]): the rule. -/
namespace Dv
open PySem PySem.Spec PyProof.Rows L2 Evl
open PySem.W (EachIs)
/-- the lambda a: a[i] as a key -/
structure KeyLam (prm : Arguments) (a : Str) (sc : Scope) : Prop where
  bind : ∀ (q : Str) (bd : Expr) (pm cv ctv u : Value), bindArgs (PySem.W.kla_fn "<lambda>" q prm bd sc [] pm cv ctv) ⟨[u], []⟩ = pure [(a, u)]
  kind : sc.kind = .function
  co : sc.isCoroutine = false
  gen : sc.isGenerator = false
  loc : sc.names.lookup a = some .local
  nc : ∀ x ∈ sc.names, x.2 ≠ .cell
  nf : ∀ x ∈ sc.names, x.2 ≠ .free
  nd : (a == ("__debug__" : Str)) = false
theorem clo_nil {cells : List (Str × Addr)} : ∀ {names : List (Str × NameKind)} {acc : List (Str × Addr)}, (∀ x ∈ names, x.2 ≠ .free) → cloFrom cells names acc = acc
  | [], acc, _ => rfl
  | (n, k) :: r, acc, h => by
    have hk : k ≠ .free := h (n, k) List.mem_cons_self
    have ih := clo_nil (cells := cells) (names := r) (acc := acc) fun x hx => h x (List.mem_cons_of_mem _ hx)
    cases k with
    | free => exact absurd rfl hk
    | _ => exact ih
theorem keysD_get {i : Int} : ∀ {ds : List D} {ks : List Int}, keysD i ds = some ks → ks.length = ds.length ∧ ∀ (j : Nat) (d : D), ds[j]? = some d → ∃ k, ks[j]? = some k ∧ keyD i d = some k
  | [], ks, h => by
    cases h
    exact ⟨rfl, fun j d e => by simp at e⟩
  | d :: r, ks, h => by
    unfold keysD at h
    cases e1 : keyD i d with
    | none => rw [e1] at h; cases h
    | some k =>
      cases e2 : keysD i r with
      | none => rw [e1, e2] at h; cases h
      | some ks' =>
        rw [e1, e2] at h
        cases h
        obtain ⟨l, f⟩ := keysD_get e2
        refine ⟨by simp [l], fun j d' e => ?_⟩
        cases j with
        | zero =>
          simp at e
          subst e
          exact ⟨k, rfl, e1⟩
        | succ j => exact f j d' (by simpa using e)
theorem keyD_dic {i k : Int} {d : D} (h : keyD i d = some k) : ∃ kvs, d = .dic kvs ∧ lookD kvs i = some (.int k) := by
  unfold keyD at h
  split at h
  · rename_i kvs
    split at h
    · rename_i k' e
      cases h
      exact ⟨kvs, rfl, e⟩
    · cases h
  · cases h
/-- the triples that are sorted -/
def tri (ks : List Int) (vs : List V) (ds : List D) : List (Int × V × D) := ks.zip (vs.zip ds)
section
variable {G : Gx} {Z : Zs} {F : Hp}
theorem each_imp {α β : Type} {R S : α → β → Prop} (h : ∀ a b, R a b → S a b) : ∀ {as : List α} {bs : List β}, EachIs R as bs → EachIs S as bs
  | _, _, .nil => .nil
  | _, _, .cons a t => .cons (h _ _ a) (each_imp h t)
theorem Reps.each : ∀ {vs : List V} {ds : List D} {us : List Value} {ks : List Int}, Reps G Z F vs ds → Vals vs us → ks.length = ds.length → EachIs (fun (u : Value) (x : Int × V × D) => RelV x.2.1 u ∧ Rep G Z F x.2.1 x.2.2 ∧ (x.1, x.2.2) ∈ ks.zip ds) us (tri ks vs ds)
  | [], [], us, [], .nil, r, _ => by
    cases r
    exact .nil
  | v :: vs, d :: ds, us, k :: ks, .cons a t, r, h => by
    cases r with
    | cons ru rt =>
      refine .cons ⟨ru, a, List.mem_cons_self⟩ ?_
      have ih := Reps.each t rt (Nat.succ.inj h)
      exact each_imp (fun _ _ q => ⟨q.1, q.2.1, List.mem_cons_of_mem _ q.2.2⟩) ih
  | _ :: _, _ :: _, _, [], .cons _ _, _, h => by cases h
  | [], [], _, _ :: _, .nil, _, h => by cases h
theorem tri_map : ∀ {vs : List V} {ds : List D} {ks : List Int}, vs.length = ds.length → ks.length = ds.length → (tri ks vs ds).map (fun x => (x.1, x.2.2)) = ks.zip ds
  | [], [], [], _, _ => rfl
  | v :: vs, d :: ds, k :: ks, h1, h2 => by
    show (k, d) :: (tri ks vs ds).map _ = (k, d) :: ks.zip ds
    rw [tri_map (Nat.succ.inj h1) (Nat.succ.inj h2)]
  | [], _ :: _, _, h, _ => by cases h
  | _ :: _, [], _, h, _ => by cases h
  | _, [], _ :: _, _, h => by cases h
  | _, _ :: _, [], _, h => by cases h
theorem each_reps : ∀ {us : List Value} {xs : List (Int × V × D)} {ks : List Int} {ds : List D}, EachIs (fun (u : Value) (x : Int × V × D) => RelV x.2.1 u ∧ Rep G Z F x.2.1 x.2.2 ∧ (x.1, x.2.2) ∈ ks.zip ds) us xs → Vals (xs.map (·.2.1)) us ∧ Reps G Z F (xs.map (·.2.1)) (xs.map (·.2.2))
  | _, _, _, _, .nil => ⟨.nil, .nil⟩
  | _, _, _, _, .cons a t => ⟨.cons a.1 (each_reps t).1, .cons a.2.1 (each_reps t).2⟩
end
theorem map_pw {α β : Type} {f : α → β} {R : β → β → Prop} : ∀ {l : List α}, l.Pairwise (fun x y => R (f x) (f y)) → (l.map f).Pairwise R
  | [], _ => .nil
  | x :: l, .cons h t => .cons (fun y hy => by
      obtain ⟨z, hz, rfl⟩ := List.mem_map.mp hy
      exact h z hz) (map_pw t)
theorem le_int (x y : Int × V × D) : PySem.W.dataLe false (fun x : Int × V × D => PyData.int x.1) x y = decide (x.1 ≤ y.1) := by
  show (!PyProof.Rows.lexLt PyProof.Rows.itemOrd [.inl y.1] [.inl x.1]) = _
  unfold PyProof.Rows.lexLt
  show (!(decide (y.1 < x.1) || (!decide (x.1 < y.1) && PyProof.Rows.lexLt PyProof.Rows.itemOrd [] []))) = _
  by_cases h : x.1 ≤ y.1
  · have : ¬ y.1 < x.1 := by omega
    simp [h, this, PyProof.Rows.lexLt]
  · have : y.1 < x.1 := by omega
    simp [h, this, PyProof.Rows.lexLt]
end Dv
end
section
set_option linter.all false
set_option maxRecDepth 100000
set_option maxHeartbeats 4000000
/-! LU: sorted(list of dicts, key=lambda a: a[i]): the rule. -/
namespace Dv
open PySem PySem.Spec PyProof.Rows L2 Evl
open PySem.W (EachIs)
theorem sort_eq {ks : List Int} {vs : List V} {ds : List D} (h1 : vs.length = ds.length) (h2 : ks.length = ds.length) (ap : apartI ks = true) :
    ((tri ks vs ds).mergeSort (PySem.W.dataLe false fun x : Int × V × D => PyData.int x.1)).map (fun x => (x.1, x.2.2)) = srtK (ks.zip ds) := by
  have hp : ((tri ks vs ds).mergeSort (PySem.W.dataLe false fun x : Int × V × D => PyData.int x.1)).Perm (tri ks vs ds) := List.mergeSort_perm _ _
  have hw : ((tri ks vs ds).mergeSort (PySem.W.dataLe false fun x : Int × V × D => PyData.int x.1)).Pairwise (fun x y => x.1 ≤ y.1) := by
    refine (List.pairwise_mergeSort (le := PySem.W.dataLe false fun x : Int × V × D => PyData.int x.1) (fun a b c q r => ?_) (fun a b => ?_) _).imp fun {a b} q => ?_
    · rw [le_int] at q r ⊢
      exact decide_eq_true (Int.le_trans (of_decide_eq_true q) (of_decide_eq_true r))
    · rw [le_int, le_int]
      rcases Int.le_total a.1 b.1 with q | q
      · simp [q]
      · simp [q]
    · rw [le_int] at q
      exact of_decide_eq_true q
  have hm := tri_map h1 h2
  refine srt_oneK (f := fun x : Int × D => x.1) ?_ ?_ (map_pw (f := fun x : Int × V × D => (x.1, x.2.2)) (R := fun x y : Int × D => x.1 ≤ y.1) hw) (srtK_pw _)
  · rw [← hm]
    exact (hp.map _).trans (srtK_perm _).symm
  · have e : ((srtK (ks.zip ds)).map (fun x : Int × D => x.1)).Perm ks := by
      refine ((srtK_perm _).map _).trans ?_
      have : (ks.zip ds).map (fun x : Int × D => x.1) = ks := List.map_fst_zip (Nat.le_of_eq h2)
      rw [this]
    exact e.nodup_iff.mpr (apart_of ap)
section
variable {X : Cx} {e : Expr} {p pos lpos kpos p1 p2 p3 : Pos} {fa : EnvD → M D} {a : Str} {prm : Arguments} {sc : Scope} {i : Int} {j : Nat}
theorem dn_sortK {c P : Addr} (hcalm : X.calm = true) (hg : Gl X "sorted") (hm : X.mg "sorted" = none) (he : PE X e (tD (gx X) fa)) (kl : KeyLam prm a sc) (tb : LamX.TabB X.base X.mg c P) (hcode : X.env.code = .ref c)
    (hP : (P, X.env.qual ++ "<lambda>") ∈ tbl0) (hu : ∀ p ∈ tbl0, p.1 = P → p.2 = X.env.qual ++ "<lambda>") (hr : X.A.units + 65 < cLine) (hdep : X.A.depth < recursionLimit) (hdef : defaultsOf prm X.env = ([], []))
    (hst : starEach [e] X.env = (false, eval e X.env) :: starEach [] X.env := by rfl)
    (hse : backTo pos (starEach [e] X.env) = (false, eval e X.env) :: backTo pos (starEach [] X.env) := by rfl) (hpl : (backTo pos (starEach [e] X.env)).any (·.1) = false := by rfl) :
    PE X (.Call (.Name "sorted" p) [e] [⟨some "key", .Lambda prm (.Subscript (.Name a p1) (.Constant (.int i) j p2) p3) sc lpos, kpos⟩] pos) (tDn (gx X) (nSortK i fa)) := by
  refine ⟨fun pins s σ H Q I ⟨Z, env, W, hW, ok, h⟩ => ?_⟩
  subst hW
  refine wpAny_Call_Name_kw (ld_blt I hg hm boot_sorted ?_ (by decide) (by decide))
  have ha : PA X [e] (tDA (gx X) (aCons fa aNil)) := da_cons he da_nil hst
  have h' : tDA (gx X) (aCons fa aNil) σ W.H fun vs H1 => ∃ l vl ds ks n1 F1, vs = [.ref l] ∧ Gr Z W ⟨F1, H1, n1⟩ ∧ F1 l = some (.lst vl) ∧ Reps (gx X) Z F1 vl ds ∧ keysD i ds = some ks ∧ apartI ks = true ∧ ds.length ≤ 100000 ∧
      ∀ q vq F2 H2, Gr Z W ⟨F2, H2, n1⟩ → W.H q = none → F2 q = none → H2 q = some (.lst vq) → Reps (gx X) Z F2 vq ((srtK (ks.zip ds)).map (·.2)) → Q (.ref q) H2 := by
    refine ⟨Z, env, W, rfl, ok, M.wp_bind.mpr (M.wp_mono (fun n1 d h1 => ?_) (wp_then h))⟩
    show ∀ vs F' H', Gr Z W ⟨F', H', n1⟩ → Reps (gx X) Z F' vs [d] → _
    intro vs F1 H1 g1 r1
    cases r1 with
    | cons r rn =>
      cases rn
      split at h1
      · rename_i ds
        cases ek : keysD i ds with
        | none =>
          rw [ek] at h1
          exact h1.elim
        | some ks =>
          rw [ek] at h1
          obtain ⟨ap, h1⟩ := gd_wp h1
          obtain ⟨hl, h1⟩ := chk_wp h1
          cases r with
          | lst hF rs => exact ⟨_, _, ds, ks, n1, F1, rfl, g1, hF, rs, ek, ap, hl, fun q vq F2 H2 => h1 q vq F2 H2⟩
      · exact h1.elim
  refine PyProof.Rows.callWith_kw (thn (ha.run pos pins s σ W.H _ I h') fun us s1 hh => ?_) hse hpl (by rfl) (by rfl)
  obtain ⟨vs, H1, I1, rv, l, vl, ds, ks, n1, F1, rfl, g1, hF, rs, ek, ap, hl, hq⟩ := hh
  cases rv with
  | cons ru rn =>
  cases rn
  cases ru
  obtain ⟨hkl, hkg⟩ := keysD_get ek
  -- the lambda
  obtain ⟨ps, hT, t3, hA⟩ := g1.gd.tab _ hP
  show wpAny _ _ (evalAll [do let v ← eval _ X.env; standAt pos; pure v]) _ _ s1
  refine wpAny_evalAll_cons (wpAny_bind (LamY.made I1 tb hcode hT t3 (fun p' cv hc => ?_) hdef (fun y hy q => absurd q (kl.nf y hy)) fun f b pm ctv H2 s2 I2 gw hf nf nfr => wpAny_bind (wpAny_standAt (wpAny_pure (wpAny_evalAll_nil ?_)))))
  · obtain ⟨b, e1, e2⟩ := hA p' cv hc
    exact ⟨b, e1, g1.gd.sub _ _ e2⟩
  obtain ⟨F2, g2⟩ := Gr.grew g1.gd hP hu hT hA gw
  have g12 := g1.trans g2
  have rs2 := rs.mono g2.ff
  have hF2 : F2 l = some (.lst vl) := g2.ff _ _ hF
  rw [clo_nil kl.nf] at hf
  obtain ⟨its, rvl, hlst, hz⟩ := I2.list (SqL.of (g2.gd.sub _ _ hF2))
  have hco : ∃ (oc : Obj) (vs : Array Value) (t : Tok), s2.heap.get? b = some oc ∧ oc.data = .fields vs ∧ vs[1]? = some (.str (X.env.qual ++ "<lambda>") t) := by
    have : H2 b = some (LamX.CodeO b (X.env.qual ++ "<lambda>")) := by
      rcases gw with ⟨rfl, e⟩ | ⟨_, _, rfl, _⟩
      · exact e
      · exact upd_same
    exact (I2.hok b _ this).1
  have each := Reps.each rs2 rvl hkl
  show wpAny _ _ (call (.builtin "sorted") [.ref l] [(Str.ofString "key", .ref f)]) _ _ s2
  refine PySem.W.sorted_key_data (b := false) (bs := tri ks vl ds) (fun x : Int × V × D => PyData.int x.1) hlst.isList each ?_ ?_ ?_ (fun x _ => ?_) (ksk_s1 _ _) (fun _ => ksk_l1 _ _) (fun _ => ksk_t1 _ _) ?_ ?_
  · intro d hd d' hd'
    obtain ⟨x, _, rfl⟩ := List.mem_map.mp hd
    obtain ⟨y, _, rfl⟩ := List.mem_map.mp hd'
    rfl
  · refine .inr fun d hd => ?_
    obtain ⟨x, _, rfl⟩ := List.mem_map.mp hd
    exact ⟨fun z => (nomatch z), fun xs z => (nomatch z)⟩
  · rw [← each.length, ← rvl.length]
    exact szl (by rw [rs2.length]; exact hl)
  · show X.A.units + 2 + 0 < cLine
    omega
  · intro v x hR hx hp tk kp
    obtain ⟨r1, r2, hzip⟩ := hR
    obtain ⟨kk, vv, dd⟩ := x
    dsimp only at r1 r2 hzip
    obtain ⟨m, hm⟩ := List.mem_iff_getElem?.mp hzip
    obtain ⟨hk1, hd1⟩ := List.getElem?_zip_eq_some.mp hm
    obtain ⟨k0, hk0, hkd⟩ := hkg m dd hd1
    rw [hk1] at hk0
    cases hk0
    obtain ⟨kvs, rfl, hlook⟩ := keyD_dic hkd
    cases r2 with
    | @dic d o ksx vsx _ hFd hks hrs =>
    subst hks
    cases r1
    obtain ⟨ho, _, _, vs', rel, dof⟩ := (show ObjOk X.prog X.w H2 s2.heap d (.frz o (.dK (List.zip (dkeys kvs) vsx))) from I2.hok d _ (g2.gd.sub _ _ hFd))
    obtain ⟨v0, hv0, rv0⟩ := val_some hrs hlook
    obtain ⟨w', hw', rw'⟩ := RelO.some_of (v := v0) (o := valueAt vs' (.inl i)) (by rw [← hv0]; exact rel.val (.inl i))
    have e0 := rv0.int_inv
    subst e0
    obtain ⟨t, rfl⟩ := (show ∃ t, w' = Value.int kk t from rw')
    obtain ⟨oc, cvs, ct, e1, e2, e3⟩ := hco
    exact LamY.key_call (s := { s2 with heap := hp, toks := tk }) (kp f _ hf) ⟨b, oc, cvs, ct, rfl, kp _ _ e1, e2, e3⟩ (I2.nolimit.keeps kp) hdep (fun u => kl.bind _ _ _ _ _ u) kl.kind kl.co kl.gen kl.loc kl.nc (dof.at (kp d)) hw' kl.nd
  · intro out cc hp tk kp fresh hD hlen hE
    obtain ⟨v1, r1⟩ := each_reps hE
    have hsort := sort_eq (vs := vl) (ds := ds) (ks := ks) rs2.length hkl ap
    have ne : H2 (s2.heap.objs.size + 1) = none := I2.hok.fresh (Nat.le_succ _)
    have e2 : ((tri ks vl ds).mergeSort (PySem.W.dataLe false fun x : Int × V × D => PyData.int x.1)).map (·.2.2) = (srtK (ks.zip ds)).map (·.2) := by
      rw [← hsort, List.map_map]
      rfl
    have hz2 : (((tri ks vl ds).mergeSort (PySem.W.dataLe false fun x : Int × V × D => PyData.int x.1)).map (·.2.1)).length ≤ sizeLine := by
      rw [v1.length, hlen, ← each.length, ← rvl.length]
      exact szl (by rw [rs2.length]; exact hl)
    refine ⟨.ref _, upd H2 (s2.heap.objs.size + 1) (.lst (((tri ks vl ds).mergeSort (PySem.W.dataLe false fun x : Int × V × D => PyData.int x.1)).map (·.2.1))), I2.laid (t' := tk) kp (Nat.le_succ _) ⟨hz2, out, cc, v1, hD⟩, rfl, ?_⟩
    exact hq _ _ F2 _ (g12.trans (Gr.allocH g12.gd ne)) (g12.back ne) (g2.gd.noF ne) upd_same (by rw [← e2]; exact r1)
end
end Dv
end
section
set_option linter.all false
set_option maxRecDepth 100000
set_option maxHeartbeats 4000000
/-! C0: the text by places, what the top has written. -/
namespace Dv
open PySem PySem.Spec PyProof.Rows L2 Evl
def top (i : Nat) : Stmt := PySem.Challenge.pw_pairpicks_k76_whole_all_moves_once.main.body.getD i (.Pass ⟨0, 0, 0, 0⟩)
/-- what the module's names are -/
structure Txt (mg : Str → Option Value) : Prop where
  isinstance : mg "isinstance" = none
  int : mg "int" = none
  bool : mg "bool" = none
  tuple : mg "tuple" = none
  list : mg "list" = none
  dict : mg "dict" = none
  set : mg "set" = none
  len : mg "len" = none
  all : mg "all" = none
  zip : mg "zip" = none
  range : mg "range" = none
  enumerate : mg "enumerate" = none
  sorted : mg "sorted" = none
  abs : mg "abs" = none
  min : mg "min" = none
  str : mg "str" = none
  repr : mg "repr" = none
  MOST_NUMBER : ∃ t, mg "MOST_NUMBER" = some (.int 7 t)
  MOST_PLANS : ∃ t, mg "MOST_PLANS" = some (.int 16 t)
  MOST_DIALS : ∃ t, mg "MOST_DIALS" = some (.int 3 t)
  MOST_PLACES : ∃ t, mg "MOST_PLACES" = some (.int 8 t)
  MOST_CUT : ∃ t, mg "MOST_CUT" = some (.int 6 t)
end Dv
namespace L2
open PySem
theorem Room.u65 {k : Nat} {A : Around} (r : Room k A) : A.units + 65 < cLine := by have := r.un; omega
theorem Room.u1 {k : Nat} {A : Around} (r : Room k A) : A.units + 1 < cLine := by have := r.un; omega
end L2
end
section
set_option linter.all false
set_option maxRecDepth 100000
set_option maxHeartbeats 4000000
namespace Dv
open PySem PySem.Spec PyProof.Rows L2 Evl
section
variable {P : Program} {w : World} {K : PySem.W.Frag} {mg : Str → Option Value} {base : Heap}
def m_is_between : List D → M D := runD 3 (sSeq (sRet (eAnd (eUn (gIsi isInt) (eVar 0)) (eAnd (eNot (eUn (gIsi isBl) (eVar 0))) (eChain (gCmp fun i j => decide (i ≤ j)) (gCmp fun i j => decide (i ≤ j)) (eVar 1) (eVar 0) (eVar 2))))) sNil)
theorem sc_is_between : FnScope ["thing", "low", "high"] ["thing", "low", "high"] (defScope (top 12)) := ⟨rfl, rfl, rfl, by decide +kernel, rfl, by decide +kernel, by decide +kernel⟩
theorem d_is_between (T : Txt mg)  {f : Addr} {fd : FuncData} (F : Fun K "is_between" "is_between" (top 12) f fd) (hb : L2.Binds K fd ["thing", "low", "high"] []) (hm : mg "is_between" = some (.ref f)) : Def P w K mg base 1 "is_between" 3 m_is_between := by
  refine mk_def F sc_is_between hb hm rfl fun cdv A outer s H E hr => ?_
  have nd := sc_is_between.nd
  exact (ds_cons (ds_ret (de_and (de_isi isi_int (by rfl) T.isinstance (de_var 0) (pe_bltn (by rfl) T.int boot_int (by rfl))) (de_and (de_not (de_isi isi_bl (by rfl) T.isinstance (de_var 0) (pe_bltn (by rfl) T.bool boot_bool (by rfl)))) (de_one (de_chain op_leD op_leD (de_var 1) (de_var 0) (de_var 2)))))) ds_nil)
def m_is_pair : List D → M D := runD 1 (sSeq (sIf (bOr (bNot (bOf (eUn (gIsi isTup) (eVar 0)))) (bOf (eBin gNe (eCall gLen (aCons (eVar 0) aNil)) (eC (.int 2))))) (sSeq (sRet (eC (.bl false))) sNil) sNil) (sSeq (sRet (eAnd (eCall m_is_between (aCons (eBin gIx (eVar 0) (eC (.int 0))) (aCons (eC (.int 0)) (aCons (eC (.int 7)) aNil)))) (eCall m_is_between (aCons (eBin gIx (eVar 0) (eC (.int 1))) (aCons (eC (.int 0)) (aCons (eC (.int 7)) aNil)))))) sNil))
theorem sc_is_pair : FnScope ["thing"] ["thing"] (defScope (top 13)) := ⟨rfl, rfl, rfl, by decide +kernel, rfl, by decide +kernel, by decide +kernel⟩
theorem d_is_pair (T : Txt mg) (D_is_between : Def P w K mg base 1 "is_between" 3 m_is_between) {f : Addr} {fd : FuncData} (F : Fun K "is_pair" "is_pair" (top 13) f fd) (hb : L2.Binds K fd ["thing"] []) (hm : mg "is_pair" = some (.ref f)) : Def P w K mg base 2 "is_pair" 1 m_is_pair := by
  refine mk_def F sc_is_pair hb hm rfl fun cdv A outer s H E hr => ?_
  have nd := sc_is_pair.nd
  exact (ds_cons (ds_if (PW.pt (dw_or (dt_not (dt_val (de_isi isi_tup (by rfl) T.isinstance (de_var 0) (pe_bltn (by rfl) T.tuple boot_tuple (by rfl))))) (dw_or1 (dt_cmp (op_neDD hr.units) (de_callB cr_lenD (by rfl) T.len boot_len (da_cons (de_var 0) da_nil)) de_int (nomark _))))) (ds_cons (ds_ret de_bl) ds_nil) ds_nil) (ds_cons (ds_ret (de_and (de_def D_is_between hr (by decide) (by rfl) (by rfl) (da_cons (de_ix hr.u1 (de_var 0) de_int) (da_cons de_int (da_cons (de_gint (by rfl) T.MOST_NUMBER) da_nil))) (len_cons (len_cons (len_cons len_nil)))) (de_one (de_def D_is_between hr (by decide) (by rfl) (by rfl) (da_cons (de_ix hr.u1 (de_var 0) de_int) (da_cons de_int (da_cons (de_gint (by rfl) T.MOST_NUMBER) da_nil))) (len_cons (len_cons (len_cons len_nil))))))) ds_nil))
def m_are_apart : List D → M D := runD 5 (sSeq (sSet 1 (eSc [3, 4] (iOf (eVar 0)) (tg1 4) bYes (eBin gIx (eVar 4) (eC (.int 0))))) (sSeq (sSet 2 (eSc [3, 4] (iOf (eVar 0)) (tg1 4) bYes (eBin gIx (eVar 4) (eC (.int 1))))) (sSeq (sRet (eAnd (eBin gEq (eCall gLen (aCons (eVar 1) aNil)) (eCall gLen (aCons (eVar 0) aNil))) (eBin gEq (eCall gLen (aCons (eVar 2) aNil)) (eCall gLen (aCons (eVar 0) aNil))))) sNil)))
theorem sc_are_apart : FnScope ["pairs", "persons", "desks", ".0", "pair"] ["pairs"] (defScope (top 14)) := ⟨rfl, rfl, rfl, by decide +kernel, rfl, by decide +kernel, by decide +kernel⟩
theorem d_are_apart (T : Txt mg)  {f : Addr} {fd : FuncData} (F : Fun K "are_apart" "are_apart" (top 14) f fd) (hb : L2.Binds K fd ["pairs"] []) (hm : mg "are_apart" = some (.ref f)) : Def P w K mg base 1 "are_apart" 1 m_are_apart := by
  refine mk_def F sc_are_apart hb hm rfl fun cdv A outer s H E hr => ?_
  have nd := sc_are_apart.nd
  exact (ds_cons (ds_scV 1 (by rfl) nd (by rfl) (by rfl) (by rfl) (di_of (de_var 0)) (blkOk_by (own := [(".0", 3), ("pair", 4)]) (by rfl)) (fun _ _ _ _ _ => (bg1 4 nd)) (tgr1 4) (by decide) (fun _ _ _ _ _ => dts_nil) (fun _ _ _ _ _ => (de_ix hr.u1 (de_var 4) de_int))) (ds_cons (ds_scV 2 (by rfl) nd (by rfl) (by rfl) (by rfl) (di_of (de_var 0)) (blkOk_by (own := [(".0", 3), ("pair", 4)]) (by rfl)) (fun _ _ _ _ _ => (bg1 4 nd)) (tgr1 4) (by decide) (fun _ _ _ _ _ => dts_nil) (fun _ _ _ _ _ => (de_ix hr.u1 (de_var 4) de_int))) (ds_cons (ds_ret (de_and (de_cmp (op_eqDD hr.units) (de_callB cr_lenD (by rfl) T.len boot_len (da_cons (de_var 1) da_nil)) (de_callB cr_lenD (by rfl) T.len boot_len (da_cons (de_var 0) da_nil)) (nomark _)) (de_one (de_cmp (op_eqDD hr.units) (de_callB cr_lenD (by rfl) T.len boot_len (da_cons (de_var 2) da_nil)) (de_callB cr_lenD (by rfl) T.len boot_len (da_cons (de_var 0) da_nil)) (nomark _))))) ds_nil)))
def m_count_of : List D → M D := runD 3 (sSeq (sSet 1 (eC (.int 1))) (sSeq (sFor (iOf (eVar 0)) (.one 2) (sSeq (sSet 1 (eBin gMul (eVar 1) (eVar 2))) sNil)) (sSeq (sRet (eVar 1)) sNil)))
theorem sc_count_of : FnScope ["dials", "found", "size"] ["dials"] (defScope (top 18)) := ⟨rfl, rfl, rfl, by decide +kernel, rfl, by decide +kernel, by decide +kernel⟩
theorem d_count_of (T : Txt mg)  {f : Addr} {fd : FuncData} (F : Fun K "count_of" "count_of" (top 18) f fd) (hb : L2.Binds K fd ["dials"] []) (hm : mg "count_of" = some (.ref f)) : Def P w K mg base 1 "count_of" 1 m_count_of := by
  refine mk_def F sc_count_of hb hm rfl fun cdv A outer s H E hr => ?_
  have nd := sc_count_of.nd
  exact (ds_cons (ds_set 1 nd (by rfl) (by first | exact Or.inl (by rfl) | exact Or.inr (by rfl)) de_int) (ds_cons (ds_for PassesOwn.never (by rfl) (di_of (de_var 0)) (fs1 2 (bg1 2 nd)) (ds_cons (ds_set 1 nd (by rfl) (by first | exact Or.inl (by rfl) | exact Or.inr (by rfl)) (de_bin op_mulD (de_var 1) (de_var 2))) ds_nil)) (ds_cons (ds_ret (de_var 1)) ds_nil)))
def m_are_dials : List D → M D := runD 3 (sSeq (sIf (bOr (bNot (bOf (eUn (gIsi isTup) (eVar 0)))) (bNot (bOf (eChain (gCmp fun i j => decide (i ≤ j)) (gCmp fun i j => decide (i ≤ j)) (eC (.int 1)) (eCall gLen (aCons (eVar 0) aNil)) (eC (.int 3)))))) (sSeq (sRet (eC (.bl false))) sNil) sNil) (sSeq (sRet (eAnd (eCall gAll (aCons (eN (nLc [1, 2] (iOf (eVar 0)) (tg1 2) bYes (eCall m_is_between (aCons (eVar 2) (aCons (eC (.int 2)) (aCons (eC (.int 8)) aNil)))))) aNil)) (eBin (gCmp fun i j => decide (i ≤ j)) (eCall m_count_of (aCons (eVar 0) aNil)) (eC (.int 8))))) sNil))
theorem sc_are_dials : FnScope ["thing", ".0", "size"] ["thing"] (defScope (top 19)) := ⟨rfl, rfl, rfl, by decide +kernel, rfl, by decide +kernel, by decide +kernel⟩
theorem d_are_dials (T : Txt mg) (D_count_of : Def P w K mg base 1 "count_of" 1 m_count_of) (D_is_between : Def P w K mg base 1 "is_between" 3 m_is_between) {f : Addr} {fd : FuncData} (F : Fun K "are_dials" "are_dials" (top 19) f fd) (hb : L2.Binds K fd ["thing"] []) (hm : mg "are_dials" = some (.ref f)) : Def P w K mg base 2 "are_dials" 1 m_are_dials := by
  refine mk_def F sc_are_dials hb hm rfl fun cdv A outer s H E hr => ?_
  have nd := sc_are_dials.nd
  exact (ds_cons (ds_if (PW.pt (dw_or (dt_not (dt_val (de_isi isi_tup (by rfl) T.isinstance (de_var 0) (pe_bltn (by rfl) T.tuple boot_tuple (by rfl))))) (dw_or1 (dt_not (dt_chain op_leD op_leD de_int (de_callB cr_lenD (by rfl) T.len boot_len (da_cons (de_var 0) da_nil)) (de_gint (by rfl) T.MOST_DIALS)))))) (ds_cons (ds_ret de_bl) ds_nil) ds_nil) (ds_cons (ds_ret (de_and (de_callB (cr_allD (by rfl)) (by rfl) T.all boot_all (da_cons (de_n (dn_lc (by rfl) nd (di_of (de_var 0)) (blkOk_by (own := [(".0", 1), ("size", 2)]) (by rfl)) (fun _ _ _ _ _ => (bg1 2 nd)) (tgr1 2) (by decide) (fun _ _ _ _ _ => dts_nil) (fun _ _ _ _ _ => (de_def D_is_between hr (by decide) (by rfl) (by rfl) (da_cons (de_var 2) (da_cons de_int (da_cons (de_gint (by rfl) T.MOST_PLACES) da_nil))) (len_cons (len_cons (len_cons len_nil))))))) da_nil)) (de_one (de_cmp op_leD (de_def D_count_of hr (by decide) (by rfl) (by rfl) (da_cons (de_var 0) da_nil) (len_cons len_nil)) (de_gint (by rfl) T.MOST_PLACES) (nomark _))))) ds_nil))
def m_need_dials : List D → M D := runD 1 (sSeq (sIf (bNot (bOf (eCall m_are_dials (aCons (eVar 0) aNil)))) (sSeq sNever sNil) sNil) sNil)
theorem sc_need_dials : FnScope ["dials"] ["dials"] (defScope (top 20)) := ⟨rfl, rfl, rfl, by decide +kernel, rfl, by decide +kernel, by decide +kernel⟩
theorem d_need_dials (T : Txt mg) (D_are_dials : Def P w K mg base 2 "are_dials" 1 m_are_dials) {f : Addr} {fd : FuncData} (F : Fun K "need_dials" "need_dials" (top 20) f fd) (hb : L2.Binds K fd ["dials"] []) (hm : mg "need_dials" = some (.ref f)) : Def P w K mg base 3 "need_dials" 1 m_need_dials := by
  refine mk_def F sc_need_dials hb hm rfl fun cdv A outer s H E hr => ?_
  have nd := sc_need_dials.nd
  exact (ds_cons (ds_if (dt_not (dt_val (de_def D_are_dials hr (by decide) (by rfl) (by rfl) (da_cons (de_var 0) da_nil) (len_cons len_nil)))) (ds_cons ds_never ds_nil) ds_nil) ds_nil)
def m_is_place : List D → M D := runD 5 (sSeq (sIf (bOr (bNot (bOf (eUn (gIsi isTup) (eVar 1)))) (bOf (eBin gNe (eCall gLen (aCons (eVar 1) aNil)) (eCall gLen (aCons (eVar 0) aNil))))) (sSeq (sRet (eC (.bl false))) sNil) sNil) (sSeq (sRet (eCall gAll (aCons (eN (nLc [2, 3, 4] (iZipD (aCons (eVar 1) (aCons (eVar 0) aNil))) (tg2 3 4) bYes (eCall m_is_between (aCons (eVar 3) (aCons (eC (.int 0)) (aCons (eBin gSub (eVar 4) (eC (.int 1))) aNil)))))) aNil))) sNil))
theorem sc_is_place : FnScope ["dials", "thing", ".0", "item", "size"] ["dials", "thing"] (defScope (top 21)) := ⟨rfl, rfl, rfl, by decide +kernel, rfl, by decide +kernel, by decide +kernel⟩
theorem d_is_place (T : Txt mg) (D_is_between : Def P w K mg base 1 "is_between" 3 m_is_between) {f : Addr} {fd : FuncData} (F : Fun K "is_place" "is_place" (top 21) f fd) (hb : L2.Binds K fd ["dials", "thing"] []) (hm : mg "is_place" = some (.ref f)) : Def P w K mg base 2 "is_place" 2 m_is_place := by
  refine mk_def F sc_is_place hb hm rfl fun cdv A outer s H E hr => ?_
  have nd := sc_is_place.nd
  exact (ds_cons (ds_if (PW.pt (dw_or (dt_not (dt_val (de_isi isi_tup (by rfl) T.isinstance (de_var 1) (pe_bltn (by rfl) T.tuple boot_tuple (by rfl))))) (dw_or1 (dt_cmp (op_neDD hr.units) (de_callB cr_lenD (by rfl) T.len boot_len (da_cons (de_var 1) da_nil)) (de_callB cr_lenD (by rfl) T.len boot_len (da_cons (de_var 0) da_nil)) (nomark _))))) (ds_cons (ds_ret de_bl) ds_nil) ds_nil) (ds_cons (ds_ret (de_callB (cr_allD (by rfl)) (by rfl) T.all boot_all (da_cons (de_n (dn_lc (by rfl) nd (di_zip (by rfl) T.zip (da_cons (de_var 1) (da_cons (de_var 0) da_nil))) (blkOk_by (own := [(".0", 2), ("item", 3), ("size", 4)]) (by rfl)) (fun _ _ _ _ _ => (bg2 3 4 (by rfl) nd)) (tgr2 3 4) (by decide) (fun _ _ _ _ _ => dts_nil) (fun _ _ _ _ _ => (de_def D_is_between hr (by decide) (by rfl) (by rfl) (da_cons (de_var 3) (da_cons de_int (da_cons (de_bin op_subD (de_var 4) de_int) da_nil))) (len_cons (len_cons (len_cons len_nil))))))) da_nil))) ds_nil))
def m_are_moves : List D → M D := runD 4 (sSeq (sIf (bOr (bNot (bOf (eUn (gIsi isTup) (eVar 1)))) (bNot (bOf (eChain (gCmp fun i j => decide (i ≤ j)) (gCmp fun i j => decide (i ≤ j)) (eC (.int 1)) (eCall gLen (aCons (eVar 1) aNil)) (eC (.int 16)))))) (sSeq (sRet (eC (.bl false))) sNil) sNil) (sSeq (sRet (eCall gAll (aCons (eN (nLc [2, 3] (iOf (eVar 1)) (tg1 3) bYes (eCall m_is_place (aCons (eVar 0) (aCons (eVar 3) aNil))))) aNil))) sNil))
theorem sc_are_moves : FnScope ["dials", "thing", ".0", "move"] ["dials", "thing"] (defScope (top 22)) := ⟨rfl, rfl, rfl, by decide +kernel, rfl, by decide +kernel, by decide +kernel⟩
theorem d_are_moves (T : Txt mg) (D_is_place : Def P w K mg base 2 "is_place" 2 m_is_place) {f : Addr} {fd : FuncData} (F : Fun K "are_moves" "are_moves" (top 22) f fd) (hb : L2.Binds K fd ["dials", "thing"] []) (hm : mg "are_moves" = some (.ref f)) : Def P w K mg base 3 "are_moves" 2 m_are_moves := by
  refine mk_def F sc_are_moves hb hm rfl fun cdv A outer s H E hr => ?_
  have nd := sc_are_moves.nd
  exact (ds_cons (ds_if (PW.pt (dw_or (dt_not (dt_val (de_isi isi_tup (by rfl) T.isinstance (de_var 1) (pe_bltn (by rfl) T.tuple boot_tuple (by rfl))))) (dw_or1 (dt_not (dt_chain op_leD op_leD de_int (de_callB cr_lenD (by rfl) T.len boot_len (da_cons (de_var 1) da_nil)) (de_gint (by rfl) T.MOST_PLANS)))))) (ds_cons (ds_ret de_bl) ds_nil) ds_nil) (ds_cons (ds_ret (de_callB (cr_allD (by rfl)) (by rfl) T.all boot_all (da_cons (de_n (dn_lc (by rfl) nd (di_of (de_var 1)) (blkOk_by (own := [(".0", 2), ("move", 3)]) (by rfl)) (fun _ _ _ _ _ => (bg1 3 nd)) (tgr1 3) (by decide) (fun _ _ _ _ _ => dts_nil) (fun _ _ _ _ _ => (de_def D_is_place hr (by decide) (by rfl) (by rfl) (da_cons (de_var 0) (da_cons (de_var 3) da_nil)) (len_cons (len_cons len_nil)))))) da_nil))) ds_nil))
def m_need_moves : List D → M D := runD 2 (sSeq (sIf (bNot (bOf (eCall m_are_moves (aCons (eVar 0) (aCons (eVar 1) aNil))))) (sSeq sNever sNil) sNil) sNil)
theorem sc_need_moves : FnScope ["dials", "moves"] ["dials", "moves"] (defScope (top 23)) := ⟨rfl, rfl, rfl, by decide +kernel, rfl, by decide +kernel, by decide +kernel⟩
theorem d_need_moves (T : Txt mg) (D_are_moves : Def P w K mg base 3 "are_moves" 2 m_are_moves) {f : Addr} {fd : FuncData} (F : Fun K "need_moves" "need_moves" (top 23) f fd) (hb : L2.Binds K fd ["dials", "moves"] []) (hm : mg "need_moves" = some (.ref f)) : Def P w K mg base 4 "need_moves" 2 m_need_moves := by
  refine mk_def F sc_need_moves hb hm rfl fun cdv A outer s H E hr => ?_
  have nd := sc_need_moves.nd
  exact (ds_cons (ds_if (dt_not (dt_val (de_def D_are_moves hr (by decide) (by rfl) (by rfl) (da_cons (de_var 0) (da_cons (de_var 1) da_nil)) (len_cons (len_cons len_nil))))) (ds_cons ds_never ds_nil) ds_nil) ds_nil)
def m_places_of : List D → M D := runD 6 (sSeq (sSet 1 (eN (nLst (aCons (eTup aNil) aNil)))) (sSeq (sFor (iOf (eVar 0)) (.one 2) (sSeq (sSet 1 (eN (nLc2 [3, 4, 5] [5] (iOf (eVar 1)) (tg1 4) bYes (iRng1D (aCons (eVar 2) aNil)) (tg1 5) bYes (eTup (aStar (eVar 4) (aCons (eVar 5) aNil)))))) sNil)) (sSeq (sRet (eVar 1)) sNil)))
theorem sc_places_of : FnScope ["dials", "found", "size", ".0", "place", "item"] ["dials"] (defScope (top 24)) := ⟨rfl, rfl, rfl, by decide +kernel, rfl, by decide +kernel, by decide +kernel⟩
theorem d_places_of (T : Txt mg)  {f : Addr} {fd : FuncData} (F : Fun K "places_of" "places_of" (top 24) f fd) (hb : L2.Binds K fd ["dials"] []) (hm : mg "places_of" = some (.ref f)) : Def P w K mg base 1 "places_of" 1 m_places_of := by
  refine mk_def F sc_places_of hb hm rfl fun cdv A outer s H E hr => ?_
  have nd := sc_places_of.nd
  exact (ds_cons (ds_set 1 nd (by rfl) (by first | exact Or.inl (by rfl) | exact Or.inr (by rfl)) (de_n (dn_lst (da_cons (de_tup da_nil) da_nil)))) (ds_cons (ds_for PassesOwn.never (by rfl) (di_of (de_var 0)) (fs1 2 (bg1 2 nd)) (ds_cons (ds_lc2V (vs1 := [5]) 1 (by rfl) nd (by rfl) (by rfl) (by rfl) (di_of (de_var 1)) (blkOk_by (own := [(".0", 3), ("place", 4), ("item", 5)]) (by rfl)) (by decide) (fun _ _ _ _ _ => (bg1 4 nd)) (tgr1 4) (by decide) (fun _ _ _ _ _ => dts_nil) (fun _ _ _ _ _ => (di_rng (by rfl) T.range (da_cons (de_var 2) da_nil))) (fun _ _ _ _ _ => (bg1 5 nd)) (tgr1 5) (by decide) (fun _ _ _ _ _ => dts_nil) (fun _ _ _ _ _ => (de_tup (da_star (de_var 4) (da_cons (de_var 5) da_nil))))) ds_nil)) (ds_cons (ds_ret (de_var 1)) ds_nil)))
def m_nothing_of : List D → M D := runD 1 (sSeq (sRet (eBin gMul (eTup (aCons (eC (.int 0)) aNil)) (eCall gLen (aCons (eVar 0) aNil)))) sNil)
theorem sc_nothing_of : FnScope ["dials"] ["dials"] (defScope (top 25)) := ⟨rfl, rfl, rfl, by decide +kernel, rfl, by decide +kernel, by decide +kernel⟩
theorem d_nothing_of (T : Txt mg)  {f : Addr} {fd : FuncData} (F : Fun K "nothing_of" "nothing_of" (top 25) f fd) (hb : L2.Binds K fd ["dials"] []) (hm : mg "nothing_of" = some (.ref f)) : Def P w K mg base 1 "nothing_of" 1 m_nothing_of := by
  refine mk_def F sc_nothing_of hb hm rfl fun cdv A outer s H E hr => ?_
  have nd := sc_nothing_of.nd
  exact (ds_cons (ds_ret (de_bin op_mulD (de_tup (da_cons de_int da_nil)) (de_callB cr_lenD (by rfl) T.len boot_len (da_cons (de_var 0) da_nil)))) ds_nil)
def m_plus_of : List D → M D := runD 7 (sSeq (sRet (eCall gTuple (aCons (eN (nLc [3, 4, 5, 6] (iZip3D (aCons (eVar 1) (aCons (eVar 2) (aCons (eVar 0) aNil)))) (tg3 4 5 6) bYes (eBin gMod (eBin gAdd (eVar 4) (eVar 5)) (eVar 6)))) aNil))) sNil)
theorem sc_plus_of : FnScope ["dials", "one", "other", ".0", "here", "there", "size"] ["dials", "one", "other"] (defScope (top 26)) := ⟨rfl, rfl, rfl, by decide +kernel, rfl, by decide +kernel, by decide +kernel⟩
theorem d_plus_of (T : Txt mg)  {f : Addr} {fd : FuncData} (F : Fun K "plus_of" "plus_of" (top 26) f fd) (hb : L2.Binds K fd ["dials", "one", "other"] []) (hm : mg "plus_of" = some (.ref f)) : Def P w K mg base 1 "plus_of" 3 m_plus_of := by
  refine mk_def F sc_plus_of hb hm rfl fun cdv A outer s H E hr => ?_
  have nd := sc_plus_of.nd
  exact (ds_cons (ds_ret (de_callTy cr_tupleD (by rfl) T.tuple boot_tuple (da_cons (de_n (dn_lc (by rfl) nd (di_zip3 (by rfl) T.zip (da_cons (de_var 1) (da_cons (de_var 2) (da_cons (de_var 0) da_nil)))) (blkOk_by (own := [(".0", 3), ("here", 4), ("there", 5), ("size", 6)]) (by rfl)) (fun _ _ _ _ _ => (bg3 4 5 6 (by rfl) nd)) (tgr3 4 5 6) (by decide) (fun _ _ _ _ _ => dts_nil) (fun _ _ _ _ _ => (de_bin op_modD (de_bin op_addD (de_var 4) (de_var 5)) (de_var 6))))) da_nil))) ds_nil)
def m_sum_of : List D → M D := runD 4 (sSeq (sSet 2 (eCall m_nothing_of (aCons (eVar 0) aNil))) (sSeq (sFor (iOf (eVar 1)) (.one 3) (sSeq (sSet 2 (eCall m_plus_of (aCons (eVar 0) (aCons (eVar 2) (aCons (eVar 3) aNil))))) sNil)) (sSeq (sRet (eVar 2)) sNil)))
theorem sc_sum_of : FnScope ["dials", "several", "found", "move"] ["dials", "several"] (defScope (top 27)) := ⟨rfl, rfl, rfl, by decide +kernel, rfl, by decide +kernel, by decide +kernel⟩
theorem d_sum_of (T : Txt mg) (D_nothing_of : Def P w K mg base 1 "nothing_of" 1 m_nothing_of) (D_plus_of : Def P w K mg base 1 "plus_of" 3 m_plus_of) {f : Addr} {fd : FuncData} (F : Fun K "sum_of" "sum_of" (top 27) f fd) (hb : L2.Binds K fd ["dials", "several"] []) (hm : mg "sum_of" = some (.ref f)) : Def P w K mg base 2 "sum_of" 2 m_sum_of := by
  refine mk_def F sc_sum_of hb hm rfl fun cdv A outer s H E hr => ?_
  have nd := sc_sum_of.nd
  exact (ds_cons (ds_set 2 nd (by rfl) (by first | exact Or.inl (by rfl) | exact Or.inr (by rfl)) (de_def D_nothing_of hr (by decide) (by rfl) (by rfl) (da_cons (de_var 0) da_nil) (len_cons len_nil))) (ds_cons (ds_for PassesOwn.never (by rfl) (di_of (de_var 1)) (fs1 3 (bg1 3 nd)) (ds_cons (ds_set 2 nd (by rfl) (by first | exact Or.inl (by rfl) | exact Or.inr (by rfl)) (de_def D_plus_of hr (by decide) (by rfl) (by rfl) (da_cons (de_var 0) (da_cons (de_var 2) (da_cons (de_var 3) da_nil))) (len_cons (len_cons (len_cons len_nil))))) ds_nil)) (ds_cons (ds_ret (de_var 2)) ds_nil)))
def m_plan_by : List D → M D := runD 6 (sSeq (sSet 2 (eCall m_places_of (aCons (eVar 0) aNil))) (sSeq (sRet (eCall gTuple (aCons (eN (nLc [3, 4, 5] (iEnumDA (aCons (eVar 2) aNil)) (tg2 4 5) bYes (eTup (aCons (eVar 4) (aCons (eIndex (eVar 2) (eCall m_plus_of (aCons (eVar 0) (aCons (eVar 5) (aCons (eVar 1) aNil))))) aNil))))) aNil))) sNil))
theorem sc_plan_by : FnScope ["dials", "move", "menu", ".0", "number", "place"] ["dials", "move"] (defScope (top 28)) := ⟨rfl, rfl, rfl, by decide +kernel, rfl, by decide +kernel, by decide +kernel⟩
theorem d_plan_by (T : Txt mg) (D_places_of : Def P w K mg base 1 "places_of" 1 m_places_of) (D_plus_of : Def P w K mg base 1 "plus_of" 3 m_plus_of) {f : Addr} {fd : FuncData} (F : Fun K "plan_by" "plan_by" (top 28) f fd) (hb : L2.Binds K fd ["dials", "move"] []) (hm : mg "plan_by" = some (.ref f)) : Def P w K mg base 2 "plan_by" 2 m_plan_by := by
  refine mk_def F sc_plan_by hb hm rfl fun cdv A outer s H E hr => ?_
  have nd := sc_plan_by.nd
  exact (ds_cons (ds_set 2 nd (by rfl) (by first | exact Or.inl (by rfl) | exact Or.inr (by rfl)) (de_def D_places_of hr (by decide) (by rfl) (by rfl) (da_cons (de_var 0) da_nil) (len_cons len_nil))) (ds_cons (ds_ret (de_callTy cr_tupleD (by rfl) T.tuple boot_tuple (da_cons (de_n (dn_lc (by rfl) nd (di_enumA (by rfl) T.enumerate (da_cons (de_var 2) da_nil)) (blkOk_by (own := [(".0", 3), ("number", 4), ("place", 5)]) (by rfl)) (fun _ _ _ _ _ => (bg2 4 5 (by rfl) nd)) (tgr2 4 5) (by decide) (fun _ _ _ _ _ => dts_nil) (fun _ _ _ _ _ => (de_tup (da_cons (de_var 4) (da_cons (de_index hr.u65 (de_var 2) (de_def D_plus_of hr (by decide) (by rfl) (by rfl) (da_cons (de_var 0) (da_cons (de_var 5) (da_cons (de_var 1) da_nil))) (len_cons (len_cons (len_cons len_nil))))) da_nil)))))) da_nil))) ds_nil))
def m_book_by : List D → M D := runD 4 (sSeq (sRet (eCall gTuple (aCons (eN (nLc [2, 3] (iOf (eVar 1)) (tg1 3) bYes (eCall m_plan_by (aCons (eVar 0) (aCons (eVar 3) aNil))))) aNil))) sNil)
theorem sc_book_by : FnScope ["dials", "moves", ".0", "move"] ["dials", "moves"] (defScope (top 29)) := ⟨rfl, rfl, rfl, by decide +kernel, rfl, by decide +kernel, by decide +kernel⟩
theorem d_book_by (T : Txt mg) (D_plan_by : Def P w K mg base 2 "plan_by" 2 m_plan_by) {f : Addr} {fd : FuncData} (F : Fun K "book_by" "book_by" (top 29) f fd) (hb : L2.Binds K fd ["dials", "moves"] []) (hm : mg "book_by" = some (.ref f)) : Def P w K mg base 3 "book_by" 2 m_book_by := by
  refine mk_def F sc_book_by hb hm rfl fun cdv A outer s H E hr => ?_
  have nd := sc_book_by.nd
  exact (ds_cons (ds_ret (de_callTy cr_tupleD (by rfl) T.tuple boot_tuple (da_cons (de_n (dn_lc (by rfl) nd (di_of (de_var 1)) (blkOk_by (own := [(".0", 2), ("move", 3)]) (by rfl)) (fun _ _ _ _ _ => (bg1 3 nd)) (tgr1 3) (by decide) (fun _ _ _ _ _ => dts_nil) (fun _ _ _ _ _ => (de_def D_plan_by hr (by decide) (by rfl) (by rfl) (da_cons (de_var 0) (da_cons (de_var 3) da_nil)) (len_cons (len_cons len_nil)))))) da_nil))) ds_nil)
def m_places : List D → M D := runD 1 (sSeq (sDrop (eCall m_need_dials (aCons (eVar 0) aNil))) (sSeq (sRet (eCall m_places_of (aCons (eVar 0) aNil))) sNil))
theorem sc_places : FnScope ["dials"] ["dials"] (defScope (top 30)) := ⟨rfl, rfl, rfl, by decide +kernel, rfl, by decide +kernel, by decide +kernel⟩
theorem d_places (T : Txt mg) (D_need_dials : Def P w K mg base 3 "need_dials" 1 m_need_dials) (D_places_of : Def P w K mg base 1 "places_of" 1 m_places_of) {f : Addr} {fd : FuncData} (F : Fun K "places" "places" (top 30) f fd) (hb : L2.Binds K fd ["dials"] []) (hm : mg "places" = some (.ref f)) : Def P w K mg base 4 "places" 1 m_places := by
  refine mk_def F sc_places hb hm rfl fun cdv A outer s H E hr => ?_
  have nd := sc_places.nd
  exact (ds_cons (ds_drop (de_def D_need_dials hr (by decide) (by rfl) (by rfl) (da_cons (de_var 0) da_nil) (len_cons len_nil))) (ds_cons (ds_ret (de_def D_places_of hr (by decide) (by rfl) (by rfl) (da_cons (de_var 0) da_nil) (len_cons len_nil))) ds_nil))
def m_total_of : List D → M D := runD 2 (sSeq (sDrop (eCall m_need_dials (aCons (eVar 0) aNil))) (sSeq (sDrop (eCall m_need_moves (aCons (eVar 0) (aCons (eVar 1) aNil)))) (sSeq (sRet (eCall m_sum_of (aCons (eVar 0) (aCons (eVar 1) aNil)))) sNil)))
theorem sc_total_of : FnScope ["dials", "moves"] ["dials", "moves"] (defScope (top 31)) := ⟨rfl, rfl, rfl, by decide +kernel, rfl, by decide +kernel, by decide +kernel⟩
theorem d_total_of (T : Txt mg) (D_need_dials : Def P w K mg base 3 "need_dials" 1 m_need_dials) (D_need_moves : Def P w K mg base 4 "need_moves" 2 m_need_moves) (D_sum_of : Def P w K mg base 2 "sum_of" 2 m_sum_of) {f : Addr} {fd : FuncData} (F : Fun K "total_of" "total_of" (top 31) f fd) (hb : L2.Binds K fd ["dials", "moves"] []) (hm : mg "total_of" = some (.ref f)) : Def P w K mg base 5 "total_of" 2 m_total_of := by
  refine mk_def F sc_total_of hb hm rfl fun cdv A outer s H E hr => ?_
  have nd := sc_total_of.nd
  exact (ds_cons (ds_drop (de_def D_need_dials hr (by decide) (by rfl) (by rfl) (da_cons (de_var 0) da_nil) (len_cons len_nil))) (ds_cons (ds_drop (de_def D_need_moves hr (by decide) (by rfl) (by rfl) (da_cons (de_var 0) (da_cons (de_var 1) da_nil)) (len_cons (len_cons len_nil)))) (ds_cons (ds_ret (de_def D_sum_of hr (by decide) (by rfl) (by rfl) (da_cons (de_var 0) (da_cons (de_var 1) da_nil)) (len_cons (len_cons len_nil)))) ds_nil)))
def m_are_rising : List D → M D := runD 6 (sSeq (sIf (bOr (bNot (bOf (eUn (gIsi isTup) (eVar 0)))) (bNot (bOf (eCall gAll (aCons (eN (nLc [2, 3] (iOf (eVar 0)) (tg1 3) bYes (eCall m_is_between (aCons (eVar 3) (aCons (eC (.int 0)) (aCons (eBin gSub (eVar 1) (eC (.int 1))) aNil)))))) aNil))))) (sSeq (sRet (eC (.bl false))) sNil) sNil) (sSeq (sRet (eCall gAll (aCons (eN (nLc [2, 4, 5] (iZipD (aCons (eVar 0) (aCons (eUn gTail (eVar 0)) aNil))) (tg2 4 5) bYes (eBin (gCmp fun i j => decide (i < j)) (eVar 4) (eVar 5)))) aNil))) sNil))
theorem sc_are_rising : FnScope ["thing", "many", ".0", "item", "one", "other"] ["thing", "many"] (defScope (top 33)) := ⟨rfl, rfl, rfl, by decide +kernel, rfl, by decide +kernel, by decide +kernel⟩
theorem d_are_rising (T : Txt mg) (D_is_between : Def P w K mg base 1 "is_between" 3 m_is_between) {f : Addr} {fd : FuncData} (F : Fun K "are_rising" "are_rising" (top 33) f fd) (hb : L2.Binds K fd ["thing", "many"] []) (hm : mg "are_rising" = some (.ref f)) : Def P w K mg base 2 "are_rising" 2 m_are_rising := by
  refine mk_def F sc_are_rising hb hm rfl fun cdv A outer s H E hr => ?_
  have nd := sc_are_rising.nd
  exact (ds_cons (ds_if (PW.pt (dw_or (dt_not (dt_val (de_isi isi_tup (by rfl) T.isinstance (de_var 0) (pe_bltn (by rfl) T.tuple boot_tuple (by rfl))))) (dw_or1 (dt_not (dt_val (de_callB (cr_allD (by rfl)) (by rfl) T.all boot_all (da_cons (de_n (dn_lc (by rfl) nd (di_of (de_var 0)) (blkOk_by (own := [(".0", 2), ("item", 3)]) (by rfl)) (fun _ _ _ _ _ => (bg1 3 nd)) (tgr1 3) (by decide) (fun _ _ _ _ _ => dts_nil) (fun _ _ _ _ _ => (de_def D_is_between hr (by decide) (by rfl) (by rfl) (da_cons (de_var 3) (da_cons de_int (da_cons (de_bin op_subD (de_var 1) de_int) da_nil))) (len_cons (len_cons (len_cons len_nil))))))) da_nil))))))) (ds_cons (ds_ret de_bl) ds_nil) ds_nil) (ds_cons (ds_ret (de_callB (cr_allD (by rfl)) (by rfl) T.all boot_all (da_cons (de_n (dn_lc (by rfl) nd (di_zip (by rfl) T.zip (da_cons (de_var 0) (da_cons (de_tail (de_var 0)) da_nil))) (blkOk_by (own := [(".0", 2), ("one", 4), ("other", 5)]) (by rfl)) (fun _ _ _ _ _ => (bg2 4 5 (by rfl) nd)) (tgr2 4 5) (by decide) (fun _ _ _ _ _ => dts_nil) (fun _ _ _ _ _ => (de_cmp op_ltD (de_var 4) (de_var 5) (nomark _))))) da_nil))) ds_nil))
def m_picks_right : List D → M D := runD 4 (sSeq (sIf (bOr (bNot (bOf (eUn (gIsi isDic) (eVar 1)))) (bNot (bOf (eCall gAll (aCons (eN (nLc [2, 3] (iOf (eVar 1)) (tg1 3) bYes (eCall m_is_between (aCons (eVar 3) (aCons (eC (.int 0)) (aCons (eBin gSub (eCall gLen (aCons (eVar 0) aNil)) (eC (.int 1))) aNil)))))) aNil))))) (sSeq (sRet (eC (.bl false))) sNil) sNil) (sSeq (sIf (bNot (bOf (eCall gAll (aCons (eN (nLc [2, 3] (iOf (eVar 1)) (tg1 3) bYes (eAnd (eCall m_is_pair (aCons (eBin gIx (eVar 1) (eVar 3)) aNil)) (eBin (gIn false) (eBin gIx (eVar 1) (eVar 3)) (eBin gIx (eVar 0) (eVar 3)))))) aNil)))) (sSeq (sRet (eC (.bl false))) sNil) sNil) (sSeq (sRet (eCall m_are_apart (aCons (eN (nLc [2, 3] (iOf (eVar 1)) (tg1 3) bYes (eBin gIx (eVar 1) (eVar 3)))) aNil))) sNil)))
theorem sc_picks_right : FnScope ["book", "thing", ".0", "number"] ["book", "thing"] (defScope (top 35)) := ⟨rfl, rfl, rfl, by decide +kernel, rfl, by decide +kernel, by decide +kernel⟩
theorem d_picks_right (T : Txt mg) (D_is_between : Def P w K mg base 1 "is_between" 3 m_is_between) (D_is_pair : Def P w K mg base 2 "is_pair" 1 m_is_pair) (D_are_apart : Def P w K mg base 1 "are_apart" 1 m_are_apart) {f : Addr} {fd : FuncData} (F : Fun K "picks_right" "picks_right" (top 35) f fd) (hb : L2.Binds K fd ["book", "thing"] []) (hm : mg "picks_right" = some (.ref f)) : Def P w K mg base 3 "picks_right" 2 m_picks_right := by
  refine mk_def F sc_picks_right hb hm rfl fun cdv A outer s H E hr => ?_
  have nd := sc_picks_right.nd
  exact (ds_cons (ds_if (PW.pt (dw_or (dt_not (dt_val (de_isi isi_dic (by rfl) T.isinstance (de_var 1) (pe_bltn (by rfl) T.dict boot_dict (by rfl))))) (dw_or1 (dt_not (dt_val (de_callB (cr_allD (by rfl)) (by rfl) T.all boot_all (da_cons (de_n (dn_lc (by rfl) nd (di_of (de_var 1)) (blkOk_by (own := [(".0", 2), ("number", 3)]) (by rfl)) (fun _ _ _ _ _ => (bg1 3 nd)) (tgr1 3) (by decide) (fun _ _ _ _ _ => dts_nil) (fun _ _ _ _ _ => (de_def D_is_between hr (by decide) (by rfl) (by rfl) (da_cons (de_var 3) (da_cons de_int (da_cons (de_bin op_subD (de_callB cr_lenD (by rfl) T.len boot_len (da_cons (de_var 0) da_nil)) de_int) da_nil))) (len_cons (len_cons (len_cons len_nil))))))) da_nil))))))) (ds_cons (ds_ret de_bl) ds_nil) ds_nil) (ds_cons (ds_if (dt_not (dt_val (de_callB (cr_allD (by rfl)) (by rfl) T.all boot_all (da_cons (de_n (dn_lc (by rfl) nd (di_of (de_var 1)) (blkOk_by (own := [(".0", 2), ("number", 3)]) (by rfl)) (fun _ _ _ _ _ => (bg1 3 nd)) (tgr1 3) (by decide) (fun _ _ _ _ _ => dts_nil) (fun _ _ _ _ _ => (de_and (de_def D_is_pair hr (by decide) (by rfl) (by rfl) (da_cons (de_ix hr.u1 (de_var 1) (de_var 3)) da_nil) (len_cons len_nil)) (de_one (de_cmp (op_inDD hr.u65) (de_ix hr.u1 (de_var 1) (de_var 3)) (de_ix hr.u1 (de_var 0) (de_var 3)) (by rfl))))))) da_nil)))) (ds_cons (ds_ret de_bl) ds_nil) ds_nil) (ds_cons (ds_ret (de_def D_are_apart hr (by decide) (by rfl) (by rfl) (da_cons (de_n (dn_lc (by rfl) nd (di_of (de_var 1)) (blkOk_by (own := [(".0", 2), ("number", 3)]) (by rfl)) (fun _ _ _ _ _ => (bg1 3 nd)) (tgr1 3) (by decide) (fun _ _ _ _ _ => dts_nil) (fun _ _ _ _ _ => (de_ix hr.u1 (de_var 1) (de_var 3))))) da_nil) (len_cons len_nil))) ds_nil)))
def m_sorted_pick : List D → M D := runD 3 (sSeq (sRet (eD (nDc [1, 2] (iOf (eCall gSorted (aCons (eVar 0) aNil))) (tg1 2) bYes (eVar 2) (eBin gIx (eVar 0) (eVar 2))))) sNil)
theorem sc_sorted_pick : FnScope ["pick", ".0", "number"] ["pick"] (defScope (top 36)) := ⟨rfl, rfl, rfl, by decide +kernel, rfl, by decide +kernel, by decide +kernel⟩
theorem d_sorted_pick (T : Txt mg)  {f : Addr} {fd : FuncData} (F : Fun K "sorted_pick" "sorted_pick" (top 36) f fd) (hb : L2.Binds K fd ["pick"] []) (hm : mg "sorted_pick" = some (.ref f)) : Def P w K mg base 1 "sorted_pick" 1 m_sorted_pick := by
  refine mk_def F sc_sorted_pick hb hm rfl fun cdv A outer s H E hr => ?_
  have nd := sc_sorted_pick.nd
  exact (ds_cons (ds_ret (de_d (dd_dc (by rfl) nd (di_of (de_callB (cr_sortedD (by rfl)) (by rfl) T.sorted boot_sorted (da_cons (de_var 0) da_nil))) (blkOk_by (own := [(".0", 1), ("number", 2)]) (by rfl)) (fun _ _ _ _ _ => (bg1 2 nd)) (tgr1 2) (by decide) (fun _ _ _ _ _ => dts_nil) (fun _ _ _ _ _ => (de_var 2)) (fun _ _ _ _ _ => (de_ix hr.u1 (de_var 0) (de_var 2)))))) ds_nil)
def m_unused_of : List D → M D := runD 4 (sSeq (sRet (eCall gTuple (aCons (eN (nLc [2, 3] (iRng1D (aCons (eCall gLen (aCons (eVar 0) aNil)) aNil)) (tg1 3) (bOf (eBin (gIn true) (eVar 3) (eVar 1))) (eVar 3))) aNil))) sNil)
theorem sc_unused_of : FnScope ["book", "pick", ".0", "number"] ["book", "pick"] (defScope (top 37)) := ⟨rfl, rfl, rfl, by decide +kernel, rfl, by decide +kernel, by decide +kernel⟩
theorem d_unused_of (T : Txt mg)  {f : Addr} {fd : FuncData} (F : Fun K "unused_of" "unused_of" (top 37) f fd) (hb : L2.Binds K fd ["book", "pick"] []) (hm : mg "unused_of" = some (.ref f)) : Def P w K mg base 1 "unused_of" 2 m_unused_of := by
  refine mk_def F sc_unused_of hb hm rfl fun cdv A outer s H E hr => ?_
  have nd := sc_unused_of.nd
  exact (ds_cons (ds_ret (de_callTy cr_tupleD (by rfl) T.tuple boot_tuple (da_cons (de_n (dn_lc (by rfl) nd (di_rng (by rfl) T.range (da_cons (de_callB cr_lenD (by rfl) T.len boot_len (da_cons (de_var 0) da_nil)) da_nil)) (blkOk_by (own := [(".0", 2), ("number", 3)]) (by rfl)) (fun _ _ _ _ _ => (bg1 3 nd)) (tgr1 3) (by decide) (fun _ _ _ _ _ => (dts_one (dt_cmp (op_notInDD hr.u65) (de_var 3) (de_var 1) (by rfl)))) (fun _ _ _ _ _ => (de_var 3)))) da_nil))) ds_nil)
def m_links_of : List D → M D := runD 14 (sSeq (sSet 4 (eD (nDc [11, 3] (iOf (eVar 1)) (tg1 3) bYes (eBin gIx (eBin gIx (eVar 1) (eVar 3)) (eC (.int 1))) (eBin gIx (eBin gIx (eVar 1) (eVar 3)) (eC (.int 0)))))) (sSeq (sSet 5 (eSc [11, 3] (iOf (eVar 1)) (tg1 3) bYes (eBin gIx (eBin gIx (eVar 1) (eVar 3)) (eC (.int 0))))) (sSeq (sNew 6 (nLc [11, 12] (iRng1D (aCons (eBin gAdd (eC (.int 7)) (eC (.int 1))) aNil)) (tg1 12) (bOf (eBin (gIn true) (eVar 12) (eVar 5))) (eVar 12))) (sSeq (sPar [7, 8] (pO (nLst aNil) (pO (nLst aNil) pNil))) (sSeq (sFor (iOf (eVar 2)) (.one 3) (sSeq (sNewO 9 (nLc [11, 13] (iOf (eBin gIx (eVar 0) (eVar 3))) (tg1 13) (bAnd (bOf (eBin (gIn false) (eBin gIx (eVar 13) (eC (.int 0))) (eVar 6))) (bOf (eBin (gIn true) (eBin gIx (eVar 13) (eC (.int 1))) (eVar 7)))) (eVar 13))) (sSeq (sSet 10 (eN (nLc [11, 13] (iOf (eVar 9)) (tg1 13) (bOf (eBin (gIn true) (eBin gIx (eVar 13) (eC (.int 1))) (eVar 4))) (eVar 13)))) (sSeq (sIf (bOf (eBin gNe (eVar 10) (eN (nLst aNil)))) (sSeq (sRet (eTup (aCons (eN (nLst (aStar (eVar 8) (aCons (eTup (aCons (eVar 3) (aCons (eBin gIx (eBin gIx (eVar 10) (eC (.int 0))) (eC (.int 0))) (aCons (eBin gIx (eBin gIx (eVar 10) (eC (.int 0))) (eC (.int 1))) aNil)))) aNil)))) (aCons (eC (.bl true)) aNil)))) sNil) sNil) (sSeq (sIf (bOf (eBin gNe (eVar 9) (eN (nLst aNil)))) (sSeq (sApp 8 (eTup (aCons (eVar 3) (aCons (eBin gIx (eBin gIx (eVar 9) (eC (.int 0))) (eC (.int 0))) (aCons (eBin gIx (eBin gIx (eVar 9) (eC (.int 0))) (eC (.int 1))) aNil))))) (sSeq (sApp 7 (eBin gIx (eBin gIx (eVar 9) (eC (.int 0))) (eC (.int 1)))) (sSeq (sApp 6 (eBin gIx (eVar 4) (eBin gIx (eBin gIx (eVar 9) (eC (.int 0))) (eC (.int 1))))) sNil))) sNil) sNil))))) (sSeq (sRet (eTup (aCons (eVar 8) (aCons (eC (.bl false)) aNil)))) sNil))))))
theorem sc_links_of : FnScope ["book", "pick", "order", "number", "holders", "standing", "reached", "seen", "found", "told", "last", ".0", "person", "pair"] ["book", "pick", "order"] (defScope (top 39)) := ⟨rfl, rfl, rfl, by decide +kernel, rfl, by decide +kernel, by decide +kernel⟩
theorem d_links_of (T : Txt mg)  {f : Addr} {fd : FuncData} (F : Fun K "links_of" "links_of" (top 39) f fd) (hb : L2.Binds K fd ["book", "pick", "order"] []) (hm : mg "links_of" = some (.ref f)) : Def P w K mg base 1 "links_of" 3 m_links_of := by
  refine mk_def F sc_links_of hb hm rfl fun cdv A outer s H E hr => ?_
  have nd := sc_links_of.nd
  exact (ds_cons (ds_set 4 nd (by rfl) (by first | exact Or.inl (by rfl) | exact Or.inr (by rfl)) (de_d (dd_dc (by rfl) nd (di_of (de_var 1)) (blkOk_by (own := [(".0", 11), ("number", 3)]) (by rfl)) (fun _ _ _ _ _ => (bg1 3 nd)) (tgr1 3) (by decide) (fun _ _ _ _ _ => dts_nil) (fun _ _ _ _ _ => (de_ix hr.u1 (de_ix hr.u1 (de_var 1) (de_var 3)) de_int)) (fun _ _ _ _ _ => (de_ix hr.u1 (de_ix hr.u1 (de_var 1) (de_var 3)) de_int))))) (ds_cons (ds_set 5 nd (by rfl) (by first | exact Or.inl (by rfl) | exact Or.inr (by rfl)) (de_sc (by rfl) nd (di_of (de_var 1)) (blkOk_by (own := [(".0", 11), ("number", 3)]) (by rfl)) (fun _ _ _ _ _ => (bg1 3 nd)) (tgr1 3) (by decide) (fun _ _ _ _ _ => dts_nil) (fun _ _ _ _ _ => (de_ix hr.u1 (de_ix hr.u1 (de_var 1) (de_var 3)) de_int)))) (ds_cons (ds_new 6 nd (by rfl) (by first | exact Or.inl (by rfl) | exact Or.inr (by rfl)) (dn_lc (by rfl) nd (di_rng (by rfl) T.range (da_cons (de_bin op_addD (de_gint (by rfl) T.MOST_NUMBER) de_int) da_nil)) (blkOk_by (own := [(".0", 11), ("person", 12)]) (by rfl)) (fun _ _ _ _ _ => (bg1 12 nd)) (tgr1 12) (by decide) (fun _ _ _ _ _ => (dts_one (dt_cmp (op_notInDD hr.u65) (de_var 12) (de_var 5) (by rfl)))) (fun _ _ _ _ _ => (de_var 12)))) (ds_cons (ds_tup2 7 8 (bg2 7 8 (by rfl) nd) (sa_o (dn_lst da_nil) (sa_o (dn_lst da_nil) sa_nil))) (ds_cons (ds_for PassesOwn.never (by rfl) (di_of (de_var 2)) (fs1 3 (bg1 3 nd)) (ds_cons (ds_lcO 9 (by rfl) nd (by rfl) (by rfl) (by rfl) (di_of (de_ix hr.u1 (de_var 0) (de_var 3))) (blkOk_by (own := [(".0", 11), ("pair", 13)]) (by rfl)) (fun _ _ _ _ _ => (bg1 13 nd)) (tgr1 13) (by decide) (fun _ _ _ _ _ => (dts_one (PW.pt (dw_and (dt_cmp (op_inDD hr.u65) (de_ix hr.u1 (de_var 13) de_int) (de_var 6) (by rfl)) (dw_and1 (dt_cmp (op_notInDD hr.u65) (de_ix hr.u1 (de_var 13) de_int) (de_var 7) (by rfl))))))) (fun _ _ _ _ _ => (de_var 13))) (ds_cons (ds_lcV 10 (by rfl) nd (by rfl) (by rfl) (by rfl) (di_of (de_var 9)) (blkOk_by (own := [(".0", 11), ("pair", 13)]) (by rfl)) (fun _ _ _ _ _ => (bg1 13 nd)) (tgr1 13) (by decide) (fun _ _ _ _ _ => (dts_one (dt_cmp (op_notInDD hr.u65) (de_ix hr.u1 (de_var 13) de_int) (de_var 4) (by rfl)))) (fun _ _ _ _ _ => (de_var 13))) (ds_cons (ds_if (dt_cmp (op_neDD hr.units) (de_var 10) (de_n (dn_lst da_nil)) (nomark _)) (ds_cons (ds_ret (de_tup (da_cons (de_n (dn_lst (da_star (de_var 8) (da_cons (de_tup (da_cons (de_var 3) (da_cons (de_ix hr.u1 (de_ix hr.u1 (de_var 10) de_int) de_int) (da_cons (de_ix hr.u1 (de_ix hr.u1 (de_var 10) de_int) de_int) da_nil)))) da_nil)))) (da_cons de_bl da_nil)))) ds_nil) ds_nil) (ds_cons (ds_if (dt_cmp (op_neDD hr.units) (de_var 9) (de_n (dn_lst da_nil)) (nomark _)) (ds_cons (ds_app 8 (by rfl) (by first | exact Or.inl (by rfl) | exact Or.inr (Or.inl (by rfl)) | exact Or.inr (Or.inr (by rfl))) (de_tup (da_cons (de_var 3) (da_cons (de_ix hr.u1 (de_ix hr.u1 (de_var 9) de_int) de_int) (da_cons (de_ix hr.u1 (de_ix hr.u1 (de_var 9) de_int) de_int) da_nil))))) (ds_cons (ds_app 7 (by rfl) (by first | exact Or.inl (by rfl) | exact Or.inr (Or.inl (by rfl)) | exact Or.inr (Or.inr (by rfl))) (de_ix hr.u1 (de_ix hr.u1 (de_var 9) de_int) de_int)) (ds_cons (ds_app 6 (by rfl) (by first | exact Or.inl (by rfl) | exact Or.inr (Or.inl (by rfl)) | exact Or.inr (Or.inr (by rfl))) (de_ix hr.u1 (de_var 4) (de_ix hr.u1 (de_ix hr.u1 (de_var 9) de_int) de_int))) ds_nil))) ds_nil) ds_nil))))) (ds_cons (ds_ret (de_tup (da_cons (de_var 8) (da_cons de_bl da_nil)))) ds_nil))))))
def m_path_of : List D → M D := runD 11 (sSeq (sAsg (.two 3 4) (eCall m_links_of (aCons (eVar 0) (aCons (eVar 1) (aCons (eVar 2) aNil))))) (sSeq (sIf (bNot (bOf (eVar 4))) (sSeq (sRet (eC .non)) sNil) sNil) (sSeq (sSet 5 (eD (nDc [8, 9] (iOf (eVar 1)) (tg1 9) bYes (eBin gIx (eBin gIx (eVar 1) (eVar 9)) (eC (.int 0))) (eBin gIx (eBin gIx (eVar 1) (eVar 9)) (eC (.int 1)))))) (sSeq (sSet 6 (eD (nDc [8, 10] (iOf (eVar 3)) (tg1 10) bYes (eBin gIx (eVar 10) (eC (.int 2))) (eVar 10)))) (sSeq (sSet 7 (eN (nLst (aCons (eBin gIx (eVar 3) (eUn gNeg (eC (.int 1)))) aNil)))) (sSeq (sWh 200 (bOf (eBin (gIn false) (eBin gIx (eBin gIx (eVar 7) (eC (.int 0))) (eC (.int 1))) (eVar 5))) (sSeq (sSet 7 (eBin gAdd (eN (nLst (aCons (eBin gIx (eVar 6) (eBin gIx (eVar 5) (eBin gIx (eBin gIx (eVar 7) (eC (.int 0))) (eC (.int 1))))) aNil))) (eVar 7))) sNil)) (sSeq (sRet (eVar 7)) sNil)))))))
theorem sc_path_of : FnScope ["book", "pick", "order", "links", "is_ended", "desks", "told", "found", ".0", "number", "link"] ["book", "pick", "order"] (defScope (top 40)) := ⟨rfl, rfl, rfl, by decide +kernel, rfl, by decide +kernel, by decide +kernel⟩
theorem d_path_of (T : Txt mg) (D_links_of : Def P w K mg base 1 "links_of" 3 m_links_of) {f : Addr} {fd : FuncData} (F : Fun K "path_of" "path_of" (top 40) f fd) (hb : L2.Binds K fd ["book", "pick", "order"] []) (hm : mg "path_of" = some (.ref f)) : Def P w K mg base 2 "path_of" 3 m_path_of := by
  refine mk_def F sc_path_of hb hm rfl fun cdv A outer s H E hr => ?_
  have nd := sc_path_of.nd
  exact (ds_cons (ds_asg (de_def D_links_of hr (by decide) (by rfl) (by rfl) (da_cons (de_var 0) (da_cons (de_var 1) (da_cons (de_var 2) da_nil))) (len_cons (len_cons (len_cons len_nil)))) (fs2 3 4 (bg2 3 4 (by rfl) nd))) (ds_cons (ds_if (dt_not (dt_val (de_var 4))) (ds_cons (ds_ret de_non) ds_nil) ds_nil) (ds_cons (ds_dcV 5 (by rfl) nd (by rfl) (by rfl) (by rfl) (di_of (de_var 1)) (blkOk_by (own := [(".0", 8), ("number", 9)]) (by rfl)) (fun _ _ _ _ _ => (bg1 9 nd)) (tgr1 9) (by decide) (fun _ _ _ _ _ => dts_nil) (fun _ _ _ _ _ => (de_ix hr.u1 (de_ix hr.u1 (de_var 1) (de_var 9)) de_int)) (fun _ _ _ _ _ => (de_ix hr.u1 (de_ix hr.u1 (de_var 1) (de_var 9)) de_int))) (ds_cons (ds_dcV 6 (by rfl) nd (by rfl) (by rfl) (by rfl) (di_of (de_var 3)) (blkOk_by (own := [(".0", 8), ("link", 10)]) (by rfl)) (fun _ _ _ _ _ => (bg1 10 nd)) (tgr1 10) (by decide) (fun _ _ _ _ _ => dts_nil) (fun _ _ _ _ _ => (de_ix hr.u1 (de_var 10) de_int)) (fun _ _ _ _ _ => (de_var 10))) (ds_cons (ds_set 7 nd (by rfl) (by first | exact Or.inl (by rfl) | exact Or.inr (by rfl)) (de_n (dn_lst (da_cons (de_ix hr.u1 (de_var 3) (de_neg de_int)) da_nil)))) (ds_cons (ds_while 200 PassesOwn.never (dt_cmp (op_inDD hr.u65) (de_ix hr.u1 (de_ix hr.u1 (de_var 7) de_int) de_int) (de_var 5) (by rfl)) (ds_cons (ds_set 7 nd (by rfl) (by first | exact Or.inl (by rfl) | exact Or.inr (by rfl)) (de_bin op_addD (de_n (dn_lst (da_cons (de_ix hr.u1 (de_var 6) (de_ix hr.u1 (de_var 5) (de_ix hr.u1 (de_ix hr.u1 (de_var 7) de_int) de_int))) da_nil))) (de_var 7))) ds_nil)) (ds_cons (ds_ret (de_var 7)) ds_nil)))))))
def m_grown_of : List D → M D := runD 11 (sSeq (sSet 3 (eCall m_path_of (aCons (eVar 0) (aCons (eVar 1) (aCons (eVar 2) aNil))))) (sSeq (sIf (bOf (eBin gIs (eVar 3) (eC .non))) (sSeq (sRet (eC .non)) sNil) sNil) (sSeq (sSet 4 (eN (nLc [6, 7] (iOf (eVar 3)) (tg1 7) bYes (eBin gIx (eVar 7) (eC (.int 1)))))) (sSeq (sSet 5 (eD (nDc [6, 8] (iOf (eVar 1)) (tg1 8) (bOf (eBin (gIn true) (eBin gIx (eBin gIx (eVar 1) (eVar 8)) (eC (.int 0))) (eVar 4))) (eVar 8) (eBin gIx (eVar 1) (eVar 8))))) (sSeq (sRet (eCall m_sorted_pick (aCons (eD (nDS2 (eVar 5) (eD (nDc [6, 8, 9, 10] (iOf (eVar 3)) (tg3 8 9 10) bYes (eVar 8) (eTup (aCons (eVar 9) (aCons (eVar 10) aNil))))))) aNil))) sNil)))))
theorem sc_grown_of : FnScope ["book", "pick", "order", "found", "persons", "kept", ".0", "link", "number", "person", "desk"] ["book", "pick", "order"] (defScope (top 41)) := ⟨rfl, rfl, rfl, by decide +kernel, rfl, by decide +kernel, by decide +kernel⟩
theorem d_grown_of (T : Txt mg) (D_path_of : Def P w K mg base 2 "path_of" 3 m_path_of) (D_sorted_pick : Def P w K mg base 1 "sorted_pick" 1 m_sorted_pick) {f : Addr} {fd : FuncData} (F : Fun K "grown_of" "grown_of" (top 41) f fd) (hb : L2.Binds K fd ["book", "pick", "order"] []) (hm : mg "grown_of" = some (.ref f)) : Def P w K mg base 3 "grown_of" 3 m_grown_of := by
  refine mk_def F sc_grown_of hb hm rfl fun cdv A outer s H E hr => ?_
  have nd := sc_grown_of.nd
  exact (ds_cons (ds_set 3 nd (by rfl) (by first | exact Or.inl (by rfl) | exact Or.inr (by rfl)) (de_def D_path_of hr (by decide) (by rfl) (by rfl) (da_cons (de_var 0) (da_cons (de_var 1) (da_cons (de_var 2) da_nil))) (len_cons (len_cons (len_cons len_nil))))) (ds_cons (ds_if (dt_cmp op_isD (de_var 3) de_non (nomark _)) (ds_cons (ds_ret de_non) ds_nil) ds_nil) (ds_cons (ds_set 4 nd (by rfl) (by first | exact Or.inl (by rfl) | exact Or.inr (by rfl)) (de_n (dn_lc (by rfl) nd (di_of (de_var 3)) (blkOk_by (own := [(".0", 6), ("link", 7)]) (by rfl)) (fun _ _ _ _ _ => (bg1 7 nd)) (tgr1 7) (by decide) (fun _ _ _ _ _ => dts_nil) (fun _ _ _ _ _ => (de_ix hr.u1 (de_var 7) de_int))))) (ds_cons (ds_dcV 5 (by rfl) nd (by rfl) (by rfl) (by rfl) (di_of (de_var 1)) (blkOk_by (own := [(".0", 6), ("number", 8)]) (by rfl)) (fun _ _ _ _ _ => (bg1 8 nd)) (tgr1 8) (by decide) (fun _ _ _ _ _ => (dts_one (dt_cmp (op_notInDD hr.u65) (de_ix hr.u1 (de_ix hr.u1 (de_var 1) (de_var 8)) de_int) (de_var 4) (by rfl)))) (fun _ _ _ _ _ => (de_var 8)) (fun _ _ _ _ _ => (de_ix hr.u1 (de_var 1) (de_var 8)))) (ds_cons (ds_ret (de_def D_sorted_pick hr (by decide) (by rfl) (by rfl) (da_cons (de_d (dd_star2 (de_var 5) (de_d (dd_dc (by rfl) nd (di_of (de_var 3)) (blkOk_by (own := [(".0", 6), ("number", 8), ("person", 9), ("desk", 10)]) (by rfl)) (fun _ _ _ _ _ => (bg3 8 9 10 (by rfl) nd)) (tgr3 8 9 10) (by decide) (fun _ _ _ _ _ => dts_nil) (fun _ _ _ _ _ => (de_var 8)) (fun _ _ _ _ _ => (de_tup (da_cons (de_var 9) (da_cons (de_var 10) da_nil)))))))) da_nil) (len_cons len_nil))) ds_nil)))))
def m_grow_of : List D → M D := runD 4 (sSeq (sPar [2, 3] (pO (nLst aNil) (pV (eCall m_sorted_pick (aCons (eVar 1) aNil)) pNil))) (sSeq (sWh 200 (bOf (eBin gIsNot (eVar 3) (eC .non))) (sSeq (sApp 2 (eVar 3)) (sSeq (sSet 3 (eCall m_grown_of (aCons (eVar 0) (aCons (eVar 3) (aCons (eCall m_unused_of (aCons (eVar 0) (aCons (eVar 3) aNil))) aNil))))) sNil))) (sSeq (sRet (eVar 2)) sNil)))
theorem sc_grow_of : FnScope ["book", "pick", "found", "more"] ["book", "pick"] (defScope (top 43)) := ⟨rfl, rfl, rfl, by decide +kernel, rfl, by decide +kernel, by decide +kernel⟩
theorem d_grow_of (T : Txt mg) (D_sorted_pick : Def P w K mg base 1 "sorted_pick" 1 m_sorted_pick) (D_unused_of : Def P w K mg base 1 "unused_of" 2 m_unused_of) (D_grown_of : Def P w K mg base 3 "grown_of" 3 m_grown_of) {f : Addr} {fd : FuncData} (F : Fun K "grow_of" "grow_of" (top 43) f fd) (hb : L2.Binds K fd ["book", "pick"] []) (hm : mg "grow_of" = some (.ref f)) : Def P w K mg base 4 "grow_of" 2 m_grow_of := by
  refine mk_def F sc_grow_of hb hm rfl fun cdv A outer s H E hr => ?_
  have nd := sc_grow_of.nd
  exact (ds_cons (ds_par2 2 3 (by rfl) nd (by rfl) (by rfl) (by decide) (by rfl) (by rfl) (sa_o (dn_lst da_nil) (sa_v (de_def D_sorted_pick hr (by decide) (by rfl) (by rfl) (da_cons (de_var 1) da_nil) (len_cons len_nil)) sa_nil)) (by rfl)) (ds_cons (ds_while 200 PassesOwn.never (dt_cmp op_isNotD (de_var 3) de_non (nomark _)) (ds_cons (ds_app 2 (by rfl) (by first | exact Or.inl (by rfl) | exact Or.inr (Or.inl (by rfl)) | exact Or.inr (Or.inr (by rfl))) (de_var 3)) (ds_cons (ds_set 3 nd (by rfl) (by first | exact Or.inl (by rfl) | exact Or.inr (by rfl)) (de_def D_grown_of hr (by decide) (by rfl) (by rfl) (da_cons (de_var 0) (da_cons (de_var 3) (da_cons (de_def D_unused_of hr (by decide) (by rfl) (by rfl) (da_cons (de_var 0) (da_cons (de_var 3) da_nil)) (len_cons (len_cons len_nil))) da_nil))) (len_cons (len_cons (len_cons len_nil))))) ds_nil))) (ds_cons (ds_ret (de_var 2)) ds_nil)))
def m_is_row : List D → M D := runD 4 (sSeq (sIf (bOr (bNot (bOf (eUn (gIsi isTup) (eVar 0)))) (bOf (eBin gNe (eCall gLen (aCons (eVar 0) aNil)) (eVar 1)))) (sSeq (sRet (eC (.bl false))) sNil) sNil) (sSeq (sRet (eAnd (eCall gAll (aCons (eN (nLc [2, 3] (iOf (eVar 0)) (tg1 3) bYes (eCall m_is_between (aCons (eVar 3) (aCons (eC (.int 0)) (aCons (eC (.int 7)) aNil)))))) aNil)) (eBin gEq (eLenSet (eVar 0)) (eVar 1)))) sNil))
theorem sc_is_row : FnScope ["thing", "many", ".0", "sign"] ["thing", "many"] (defScope (top 48)) := ⟨rfl, rfl, rfl, by decide +kernel, rfl, by decide +kernel, by decide +kernel⟩
theorem d_is_row (T : Txt mg) (D_is_between : Def P w K mg base 1 "is_between" 3 m_is_between) {f : Addr} {fd : FuncData} (F : Fun K "is_row" "is_row" (top 48) f fd) (hb : L2.Binds K fd ["thing", "many"] []) (hm : mg "is_row" = some (.ref f)) : Def P w K mg base 2 "is_row" 2 m_is_row := by
  refine mk_def F sc_is_row hb hm rfl fun cdv A outer s H E hr => ?_
  have nd := sc_is_row.nd
  exact (ds_cons (ds_if (PW.pt (dw_or (dt_not (dt_val (de_isi isi_tup (by rfl) T.isinstance (de_var 0) (pe_bltn (by rfl) T.tuple boot_tuple (by rfl))))) (dw_or1 (dt_cmp (op_neDD hr.units) (de_callB cr_lenD (by rfl) T.len boot_len (da_cons (de_var 0) da_nil)) (de_var 1) (nomark _))))) (ds_cons (ds_ret de_bl) ds_nil) ds_nil) (ds_cons (ds_ret (de_and (de_callB (cr_allD (by rfl)) (by rfl) T.all boot_all (da_cons (de_n (dn_lc (by rfl) nd (di_of (de_var 0)) (blkOk_by (own := [(".0", 2), ("sign", 3)]) (by rfl)) (fun _ _ _ _ _ => (bg1 3 nd)) (tgr1 3) (by decide) (fun _ _ _ _ _ => dts_nil) (fun _ _ _ _ _ => (de_def D_is_between hr (by decide) (by rfl) (by rfl) (da_cons (de_var 3) (da_cons de_int (da_cons (de_gint (by rfl) T.MOST_NUMBER) da_nil))) (len_cons (len_cons (len_cons len_nil))))))) da_nil)) (de_one (de_cmp (op_eqDD hr.units) (de_lenSet (by rfl) hr.units (by rfl) T.len (by rfl) T.set (de_var 0)) (de_var 1) (nomark _))))) ds_nil))
def m_tables_right : List D → M D := runD 3 (sSeq (sIf (bOr (bNot (bOf (eUn (gIsi isTup) (eVar 0)))) (bOr (bNot (bOf (eChain (gCmp fun i j => decide (i ≤ j)) (gCmp fun i j => decide (i ≤ j)) (eC (.int 1)) (eCall gLen (aCons (eVar 0) aNil)) (eC (.int 16))))) (bNot (bOf (eUn (gIsi isTup) (eBin gIx (eVar 0) (eC (.int 0)))))))) (sSeq (sRet (eC (.bl false))) sNil) sNil) (sSeq (sRet (eAnd (eBin (gCmp fun i j => decide (j < i)) (eCall gLen (aCons (eBin gIx (eVar 0) (eC (.int 0))) aNil)) (eC (.int 0))) (eCall gAll (aCons (eN (nLc [1, 2] (iOf (eVar 0)) (tg1 2) bYes (eCall m_is_row (aCons (eVar 2) (aCons (eCall gLen (aCons (eBin gIx (eVar 0) (eC (.int 0))) aNil)) aNil))))) aNil)))) sNil))
theorem sc_tables_right : FnScope ["thing", ".0", "row"] ["thing"] (defScope (top 49)) := ⟨rfl, rfl, rfl, by decide +kernel, rfl, by decide +kernel, by decide +kernel⟩
theorem d_tables_right (T : Txt mg) (D_is_row : Def P w K mg base 2 "is_row" 2 m_is_row) {f : Addr} {fd : FuncData} (F : Fun K "tables_right" "tables_right" (top 49) f fd) (hb : L2.Binds K fd ["thing"] []) (hm : mg "tables_right" = some (.ref f)) : Def P w K mg base 3 "tables_right" 1 m_tables_right := by
  refine mk_def F sc_tables_right hb hm rfl fun cdv A outer s H E hr => ?_
  have nd := sc_tables_right.nd
  exact (ds_cons (ds_if (PW.pt (dw_or (dt_not (dt_val (de_isi isi_tup (by rfl) T.isinstance (de_var 0) (pe_bltn (by rfl) T.tuple boot_tuple (by rfl))))) (dw_or (dt_not (dt_chain op_leD op_leD de_int (de_callB cr_lenD (by rfl) T.len boot_len (da_cons (de_var 0) da_nil)) (de_gint (by rfl) T.MOST_PLANS))) (dw_or1 (dt_not (dt_val (de_isi isi_tup (by rfl) T.isinstance (de_ix hr.u1 (de_var 0) de_int) (pe_bltn (by rfl) T.tuple boot_tuple (by rfl))))))))) (ds_cons (ds_ret de_bl) ds_nil) ds_nil) (ds_cons (ds_ret (de_and (de_cmp op_gtD (de_callB cr_lenD (by rfl) T.len boot_len (da_cons (de_ix hr.u1 (de_var 0) de_int) da_nil)) de_int (nomark _)) (de_one (de_callB (cr_allD (by rfl)) (by rfl) T.all boot_all (da_cons (de_n (dn_lc (by rfl) nd (di_of (de_var 0)) (blkOk_by (own := [(".0", 1), ("row", 2)]) (by rfl)) (fun _ _ _ _ _ => (bg1 2 nd)) (tgr1 2) (by decide) (fun _ _ _ _ _ => dts_nil) (fun _ _ _ _ _ => (de_def D_is_row hr (by decide) (by rfl) (by rfl) (da_cons (de_var 2) (da_cons (de_callB cr_lenD (by rfl) T.len boot_len (da_cons (de_ix hr.u1 (de_var 0) de_int) da_nil)) da_nil)) (len_cons (len_cons len_nil)))))) da_nil))))) ds_nil))
def m_need_table : List D → M D := runD 1 (sSeq (sIf (bNot (bOf (eCall m_tables_right (aCons (eVar 0) aNil)))) (sSeq sNever sNil) sNil) sNil)
theorem sc_need_table : FnScope ["table"] ["table"] (defScope (top 50)) := ⟨rfl, rfl, rfl, by decide +kernel, rfl, by decide +kernel, by decide +kernel⟩
theorem d_need_table (T : Txt mg) (D_tables_right : Def P w K mg base 3 "tables_right" 1 m_tables_right) {f : Addr} {fd : FuncData} (F : Fun K "need_table" "need_table" (top 50) f fd) (hb : L2.Binds K fd ["table"] []) (hm : mg "need_table" = some (.ref f)) : Def P w K mg base 4 "need_table" 1 m_need_table := by
  refine mk_def F sc_need_table hb hm rfl fun cdv A outer s H E hr => ?_
  have nd := sc_need_table.nd
  exact (ds_cons (ds_if (dt_not (dt_val (de_def D_tables_right hr (by decide) (by rfl) (by rfl) (da_cons (de_var 0) da_nil) (len_cons len_nil)))) (ds_cons ds_never ds_nil) ds_nil) ds_nil)
def m_table_of : List D → M D := runD 4 (sSeq (sIf (bOr (bOf (eBin gEq (eCall gLen (aCons (eBin gIx (eVar 0) (eC (.int 0))) aNil)) (eC (.int 0)))) (bNot (bOf (eCall gAll (aCons (eN (nLc [1, 2] (iOf (eVar 0)) (tg1 2) bYes (eBin gEq (eN (nLc [1, 3] (iOf (eVar 2)) (tg1 3) bYes (eBin gIx (eVar 3) (eC (.int 0))))) (eN (nRng (eCall gLen (aCons (eBin gIx (eVar 0) (eC (.int 0))) aNil))))))) aNil))))) (sSeq (sRet (eC .non)) sNil) sNil) (sSeq (sRet (eCall gTuple (aCons (eN (nLc [1, 2] (iOf (eVar 0)) (tg1 2) bYes (eCall gTuple (aCons (eN (nLc [1, 3] (iOf (eVar 2)) (tg1 3) bYes (eBin gIx (eVar 3) (eC (.int 1))))) aNil)))) aNil))) sNil))
theorem sc_table_of : FnScope ["book", ".0", "plan", "pair"] ["book"] (defScope (top 52)) := ⟨rfl, rfl, rfl, by decide +kernel, rfl, by decide +kernel, by decide +kernel⟩
theorem d_table_of (T : Txt mg)  {f : Addr} {fd : FuncData} (F : Fun K "table_of" "table_of" (top 52) f fd) (hb : L2.Binds K fd ["book"] []) (hm : mg "table_of" = some (.ref f)) : Def P w K mg base 1 "table_of" 1 m_table_of := by
  refine mk_def F sc_table_of hb hm rfl fun cdv A outer s H E hr => ?_
  have nd := sc_table_of.nd
  exact (ds_cons (ds_if (PW.pt (dw_or (dt_cmp (op_eqDD hr.units) (de_callB cr_lenD (by rfl) T.len boot_len (da_cons (de_ix hr.u1 (de_var 0) de_int) da_nil)) de_int (nomark _)) (dw_or1 (dt_not (dt_val (de_callB (cr_allD (by rfl)) (by rfl) T.all boot_all (da_cons (de_n (dn_lc (by rfl) nd (di_of (de_var 0)) (blkOk_by (own := [(".0", 1), ("plan", 2)]) (by rfl)) (fun _ _ _ _ _ => (bg1 2 nd)) (tgr1 2) (by decide) (fun _ _ _ _ _ => dts_nil) (fun _ _ _ _ _ => (de_cmp (op_eqDD hr.units) (de_n (dn_lc (by rfl) nd (di_of (de_var 2)) (blkOk_by (own := [(".0", 1), ("pair", 3)]) (by rfl)) (fun _ _ _ _ _ => (bg1 3 nd)) (tgr1 3) (by decide) (fun _ _ _ _ _ => dts_nil) (fun _ _ _ _ _ => (de_ix hr.u1 (de_var 3) de_int)))) (de_n (dn_listRg (by rfl) (by rfl) T.list (by rfl) T.range (de_callB cr_lenD (by rfl) T.len boot_len (da_cons (de_ix hr.u1 (de_var 0) de_int) da_nil)))) (nomark _))))) da_nil))))))) (ds_cons (ds_ret de_non) ds_nil) ds_nil) (ds_cons (ds_ret (de_callTy cr_tupleD (by rfl) T.tuple boot_tuple (da_cons (de_n (dn_lc (by rfl) nd (di_of (de_var 0)) (blkOk_by (own := [(".0", 1), ("plan", 2)]) (by rfl)) (fun _ _ _ _ _ => (bg1 2 nd)) (tgr1 2) (by decide) (fun _ _ _ _ _ => dts_nil) (fun _ _ _ _ _ => (de_callTy cr_tupleD (by rfl) T.tuple boot_tuple (da_cons (de_n (dn_lc (by rfl) nd (di_of (de_var 2)) (blkOk_by (own := [(".0", 1), ("pair", 3)]) (by rfl)) (fun _ _ _ _ _ => (bg1 3 nd)) (tgr1 3) (by decide) (fun _ _ _ _ _ => dts_nil) (fun _ _ _ _ _ => (de_ix hr.u1 (de_var 3) de_int)))) da_nil))))) da_nil))) ds_nil))
def m_cuts_right : List D → M D := runD 6 (sSeq (sIf (bOr (bNot (bOf (eUn (gIsi isDic) (eVar 1)))) (bOf (eBin gNe (eCall gLen (aCons (eVar 1) aNil)) (eCall gLen (aCons (eBin gIx (eVar 0) (eC (.int 0))) aNil))))) (sSeq (sRet (eC (.bl false))) sNil) sNil) (sSeq (sIf (bNot (bOf (eCall gAll (aCons (eN (nLc [4, 5] (iOf (eVar 1)) (tg1 5) bYes (eAnd (eCall m_is_between (aCons (eVar 5) (aCons (eC (.int 0)) (aCons (eBin gSub (eCall gLen (aCons (eVar 0) aNil)) (eC (.int 1))) aNil)))) (eCall m_is_between (aCons (eBin gIx (eVar 1) (eVar 5)) (aCons (eC (.int 0)) (aCons (eBin gSub (eCall gLen (aCons (eBin gIx (eVar 0) (eC (.int 0))) aNil)) (eC (.int 1))) aNil))))))) aNil)))) (sSeq (sRet (eC (.bl false))) sNil) sNil) (sSeq (sPar [2, 3] (pV (eN (nLc [4, 5] (iOf (eVar 1)) (tg1 5) bYes (eBin gIx (eBin gIx (eVar 0) (eVar 5)) (eBin gIx (eVar 1) (eVar 5))))) (pV (eN (nLc [4, 5] (iOf (eVar 1)) (tg1 5) bYes (eBin gIx (eVar 1) (eVar 5)))) pNil))) (sSeq (sRet (eAnd (eBin gEq (eLenSet (eVar 2)) (eCall gLen (aCons (eVar 1) aNil))) (eBin gEq (eLenSet (eVar 3)) (eCall gLen (aCons (eVar 1) aNil))))) sNil))))
theorem sc_cuts_right : FnScope ["table", "thing", "signs", "columns", ".0", "row"] ["table", "thing"] (defScope (top 53)) := ⟨rfl, rfl, rfl, by decide +kernel, rfl, by decide +kernel, by decide +kernel⟩
theorem d_cuts_right (T : Txt mg) (D_is_between : Def P w K mg base 1 "is_between" 3 m_is_between) {f : Addr} {fd : FuncData} (F : Fun K "cuts_right" "cuts_right" (top 53) f fd) (hb : L2.Binds K fd ["table", "thing"] []) (hm : mg "cuts_right" = some (.ref f)) : Def P w K mg base 2 "cuts_right" 2 m_cuts_right := by
  refine mk_def F sc_cuts_right hb hm rfl fun cdv A outer s H E hr => ?_
  have nd := sc_cuts_right.nd
  exact (ds_cons (ds_if (PW.pt (dw_or (dt_not (dt_val (de_isi isi_dic (by rfl) T.isinstance (de_var 1) (pe_bltn (by rfl) T.dict boot_dict (by rfl))))) (dw_or1 (dt_cmp (op_neDD hr.units) (de_callB cr_lenD (by rfl) T.len boot_len (da_cons (de_var 1) da_nil)) (de_callB cr_lenD (by rfl) T.len boot_len (da_cons (de_ix hr.u1 (de_var 0) de_int) da_nil)) (nomark _))))) (ds_cons (ds_ret de_bl) ds_nil) ds_nil) (ds_cons (ds_if (dt_not (dt_val (de_callB (cr_allD (by rfl)) (by rfl) T.all boot_all (da_cons (de_n (dn_lc (by rfl) nd (di_of (de_var 1)) (blkOk_by (own := [(".0", 4), ("row", 5)]) (by rfl)) (fun _ _ _ _ _ => (bg1 5 nd)) (tgr1 5) (by decide) (fun _ _ _ _ _ => dts_nil) (fun _ _ _ _ _ => (de_and (de_def D_is_between hr (by decide) (by rfl) (by rfl) (da_cons (de_var 5) (da_cons de_int (da_cons (de_bin op_subD (de_callB cr_lenD (by rfl) T.len boot_len (da_cons (de_var 0) da_nil)) de_int) da_nil))) (len_cons (len_cons (len_cons len_nil)))) (de_one (de_def D_is_between hr (by decide) (by rfl) (by rfl) (da_cons (de_ix hr.u1 (de_var 1) (de_var 5)) (da_cons de_int (da_cons (de_bin op_subD (de_callB cr_lenD (by rfl) T.len boot_len (da_cons (de_ix hr.u1 (de_var 0) de_int) da_nil)) de_int) da_nil))) (len_cons (len_cons (len_cons len_nil))))))))) da_nil)))) (ds_cons (ds_ret de_bl) ds_nil) ds_nil) (ds_cons (ds_par2 2 3 (by rfl) nd (by rfl) (by rfl) (by decide) (by rfl) (by rfl) (sa_v (de_n (dn_lc (by rfl) nd (di_of (de_var 1)) (blkOk_by (own := [(".0", 4), ("row", 5)]) (by rfl)) (fun _ _ _ _ _ => (bg1 5 nd)) (tgr1 5) (by decide) (fun _ _ _ _ _ => dts_nil) (fun _ _ _ _ _ => (de_ix hr.u1 (de_ix hr.u1 (de_var 0) (de_var 5)) (de_ix hr.u1 (de_var 1) (de_var 5)))))) (sa_v (de_n (dn_lc (by rfl) nd (di_of (de_var 1)) (blkOk_by (own := [(".0", 4), ("row", 5)]) (by rfl)) (fun _ _ _ _ _ => (bg1 5 nd)) (tgr1 5) (by decide) (fun _ _ _ _ _ => dts_nil) (fun _ _ _ _ _ => (de_ix hr.u1 (de_var 1) (de_var 5))))) sa_nil)) (by rfl)) (ds_cons (ds_ret (de_and (de_cmp (op_eqDD hr.units) (de_lenSet (by rfl) hr.units (by rfl) T.len (by rfl) T.set (de_var 2)) (de_callB cr_lenD (by rfl) T.len boot_len (da_cons (de_var 1) da_nil)) (nomark _)) (de_one (de_cmp (op_eqDD hr.units) (de_lenSet (by rfl) hr.units (by rfl) T.len (by rfl) T.set (de_var 3)) (de_callB cr_lenD (by rfl) T.len boot_len (da_cons (de_var 1) da_nil)) (nomark _))))) ds_nil))))
def m_moves_table : List D → M D := runD 2 (sSeq (sDrop (eCall m_need_dials (aCons (eVar 0) aNil))) (sSeq (sDrop (eCall m_need_moves (aCons (eVar 0) (aCons (eVar 1) aNil)))) (sSeq (sRet (eCall m_table_of (aCons (eCall m_book_by (aCons (eVar 0) (aCons (eVar 1) aNil))) aNil))) sNil)))
theorem sc_moves_table : FnScope ["dials", "moves"] ["dials", "moves"] (defScope (top 55)) := ⟨rfl, rfl, rfl, by decide +kernel, rfl, by decide +kernel, by decide +kernel⟩
theorem d_moves_table (T : Txt mg) (D_need_dials : Def P w K mg base 3 "need_dials" 1 m_need_dials) (D_need_moves : Def P w K mg base 4 "need_moves" 2 m_need_moves) (D_book_by : Def P w K mg base 3 "book_by" 2 m_book_by) (D_table_of : Def P w K mg base 1 "table_of" 1 m_table_of) {f : Addr} {fd : FuncData} (F : Fun K "moves_table" "moves_table" (top 55) f fd) (hb : L2.Binds K fd ["dials", "moves"] []) (hm : mg "moves_table" = some (.ref f)) : Def P w K mg base 5 "moves_table" 2 m_moves_table := by
  refine mk_def F sc_moves_table hb hm rfl fun cdv A outer s H E hr => ?_
  have nd := sc_moves_table.nd
  exact (ds_cons (ds_drop (de_def D_need_dials hr (by decide) (by rfl) (by rfl) (da_cons (de_var 0) da_nil) (len_cons len_nil))) (ds_cons (ds_drop (de_def D_need_moves hr (by decide) (by rfl) (by rfl) (da_cons (de_var 0) (da_cons (de_var 1) da_nil)) (len_cons (len_cons len_nil)))) (ds_cons (ds_ret (de_def D_table_of hr (by decide) (by rfl) (by rfl) (da_cons (de_def D_book_by hr (by decide) (by rfl) (by rfl) (da_cons (de_var 0) (da_cons (de_var 1) da_nil)) (len_cons (len_cons len_nil))) da_nil) (len_cons len_nil))) ds_nil)))
def m_is_cut : List D → M D := runD 2 (sSeq (sDrop (eCall m_need_table (aCons (eVar 0) aNil))) (sSeq (sRet (eCall m_cuts_right (aCons (eVar 0) (aCons (eVar 1) aNil)))) sNil))
theorem sc_is_cut : FnScope ["table", "thing"] ["table", "thing"] (defScope (top 56)) := ⟨rfl, rfl, rfl, by decide +kernel, rfl, by decide +kernel, by decide +kernel⟩
theorem d_is_cut (T : Txt mg) (D_need_table : Def P w K mg base 4 "need_table" 1 m_need_table) (D_cuts_right : Def P w K mg base 2 "cuts_right" 2 m_cuts_right) {f : Addr} {fd : FuncData} (F : Fun K "is_cut" "is_cut" (top 56) f fd) (hb : L2.Binds K fd ["table", "thing"] []) (hm : mg "is_cut" = some (.ref f)) : Def P w K mg base 5 "is_cut" 2 m_is_cut := by
  refine mk_def F sc_is_cut hb hm rfl fun cdv A outer s H E hr => ?_
  have nd := sc_is_cut.nd
  exact (ds_cons (ds_drop (de_def D_need_table hr (by decide) (by rfl) (by rfl) (da_cons (de_var 0) da_nil) (len_cons len_nil))) (ds_cons (ds_ret (de_def D_cuts_right hr (by decide) (by rfl) (by rfl) (da_cons (de_var 0) (da_cons (de_var 1) da_nil)) (len_cons (len_cons len_nil)))) ds_nil))
def m_need_even : List D → M D := runD 1 (sSeq (sDrop (eCall m_need_table (aCons (eVar 0) aNil))) (sSeq (sIf (bOf (eBin gNe (eCall gLen (aCons (eVar 0) aNil)) (eCall gLen (aCons (eBin gIx (eVar 0) (eC (.int 0))) aNil)))) (sSeq sNever sNil) sNil) sNil))
theorem sc_need_even : FnScope ["table"] ["table"] (defScope (top 59)) := ⟨rfl, rfl, rfl, by decide +kernel, rfl, by decide +kernel, by decide +kernel⟩
theorem d_need_even (T : Txt mg) (D_need_table : Def P w K mg base 4 "need_table" 1 m_need_table) {f : Addr} {fd : FuncData} (F : Fun K "need_even" "need_even" (top 59) f fd) (hb : L2.Binds K fd ["table"] []) (hm : mg "need_even" = some (.ref f)) : Def P w K mg base 5 "need_even" 1 m_need_even := by
  refine mk_def F sc_need_even hb hm rfl fun cdv A outer s H E hr => ?_
  have nd := sc_need_even.nd
  exact (ds_cons (ds_drop (de_def D_need_table hr (by decide) (by rfl) (by rfl) (da_cons (de_var 0) da_nil) (len_cons len_nil))) (ds_cons (ds_if (dt_cmp (op_neDD hr.units) (de_callB cr_lenD (by rfl) T.len boot_len (da_cons (de_var 0) da_nil)) (de_callB cr_lenD (by rfl) T.len boot_len (da_cons (de_ix hr.u1 (de_var 0) de_int) da_nil)) (nomark _)) (ds_cons ds_never ds_nil) ds_nil) ds_nil))
def m_parts_right : List D → M D := runD 6 (sSeq (sIf (bOr (bNot (bOf (eUn (gIsi2 isLst isTup) (eVar 1)))) (bOf (eBin gNe (eCall gLen (aCons (eVar 1) aNil)) (eCall gLen (aCons (eVar 0) aNil))))) (sSeq (sRet (eC (.bl false))) sNil) sNil) (sSeq (sIf (bNot (bOf (eCall gAll (aCons (eN (nLc [2, 3, 4] (iEnumDA (aCons (eVar 1) aNil)) (tg2 3 4) bYes (eAnd (eCall m_cuts_right (aCons (eVar 0) (aCons (eVar 4) aNil))) (eBin gEq (eBin gIx (eVar 4) (eC (.int 0))) (eVar 3))))) aNil)))) (sSeq (sRet (eC (.bl false))) sNil) sNil) (sSeq (sRet (eBin gEq (eLenSc2 [2, 4, 5] [5] (iOf (eVar 1)) (tg1 4) bYes (iOf (eVar 4)) (tg1 5) bYes (eTup (aCons (eVar 5) (aCons (eBin gIx (eVar 4) (eVar 5)) aNil)))) (eBin gMul (eCall gLen (aCons (eVar 0) aNil)) (eCall gLen (aCons (eVar 0) aNil))))) sNil)))
theorem sc_parts_right : FnScope ["table", "thing", ".0", "spot", "item", "row"] ["table", "thing"] (defScope (top 60)) := ⟨rfl, rfl, rfl, by decide +kernel, rfl, by decide +kernel, by decide +kernel⟩
theorem d_parts_right (T : Txt mg) (D_cuts_right : Def P w K mg base 2 "cuts_right" 2 m_cuts_right) {f : Addr} {fd : FuncData} (F : Fun K "parts_right" "parts_right" (top 60) f fd) (hb : L2.Binds K fd ["table", "thing"] []) (hm : mg "parts_right" = some (.ref f)) : Def P w K mg base 3 "parts_right" 2 m_parts_right := by
  refine mk_def F sc_parts_right hb hm rfl fun cdv A outer s H E hr => ?_
  have nd := sc_parts_right.nd
  exact (ds_cons (ds_if (PW.pt (dw_or (dt_not (dt_val (de_isi2 isi_lst isi_tup (by rfl) T.isinstance (de_var 1) (pe_bltn (by rfl) T.list boot_list (by rfl)) (pe_bltn (by rfl) T.tuple boot_tuple (by rfl))))) (dw_or1 (dt_cmp (op_neDD hr.units) (de_callB cr_lenD (by rfl) T.len boot_len (da_cons (de_var 1) da_nil)) (de_callB cr_lenD (by rfl) T.len boot_len (da_cons (de_var 0) da_nil)) (nomark _))))) (ds_cons (ds_ret de_bl) ds_nil) ds_nil) (ds_cons (ds_if (dt_not (dt_val (de_callB (cr_allD (by rfl)) (by rfl) T.all boot_all (da_cons (de_n (dn_lc (by rfl) nd (di_enumA (by rfl) T.enumerate (da_cons (de_var 1) da_nil)) (blkOk_by (own := [(".0", 2), ("spot", 3), ("item", 4)]) (by rfl)) (fun _ _ _ _ _ => (bg2 3 4 (by rfl) nd)) (tgr2 3 4) (by decide) (fun _ _ _ _ _ => dts_nil) (fun _ _ _ _ _ => (de_and (de_def D_cuts_right hr (by decide) (by rfl) (by rfl) (da_cons (de_var 0) (da_cons (de_var 4) da_nil)) (len_cons (len_cons len_nil))) (de_one (de_cmp (op_eqDD hr.units) (de_ix hr.u1 (de_var 4) de_int) (de_var 3) (nomark _))))))) da_nil)))) (ds_cons (ds_ret de_bl) ds_nil) ds_nil) (ds_cons (ds_ret (de_cmp (op_eqDD hr.units) (de_lenSc2 (vs1 := [5]) hr.units (by rfl) nd (by rfl) T.len (di_of (de_var 1)) (blkOk_by (own := [(".0", 2), ("item", 4), ("row", 5)]) (by rfl)) (by decide) (fun _ _ _ _ _ => (bg1 4 nd)) (tgr1 4) (by decide) (fun _ _ _ _ _ => dts_nil) (fun _ _ _ _ _ => (di_of (de_var 4))) (fun _ _ _ _ _ => (bg1 5 nd)) (tgr1 5) (by decide) (fun _ _ _ _ _ => dts_nil) (fun _ _ _ _ _ => (de_tup (da_cons (de_var 5) (da_cons (de_ix hr.u1 (de_var 4) (de_var 5)) da_nil))))) (de_bin op_mulD (de_callB cr_lenD (by rfl) T.len boot_len (da_cons (de_var 0) da_nil)) (de_callB cr_lenD (by rfl) T.len boot_len (da_cons (de_var 0) da_nil))) (nomark _))) ds_nil)))
def m_is_parting : List D → M D := runD 2 (sSeq (sDrop (eCall m_need_even (aCons (eVar 0) aNil))) (sSeq (sRet (eCall m_parts_right (aCons (eVar 0) (aCons (eVar 1) aNil)))) sNil))
theorem sc_is_parting : FnScope ["table", "thing"] ["table", "thing"] (defScope (top 61)) := ⟨rfl, rfl, rfl, by decide +kernel, rfl, by decide +kernel, by decide +kernel⟩
theorem d_is_parting (T : Txt mg) (D_need_even : Def P w K mg base 5 "need_even" 1 m_need_even) (D_parts_right : Def P w K mg base 3 "parts_right" 2 m_parts_right) {f : Addr} {fd : FuncData} (F : Fun K "is_parting" "is_parting" (top 61) f fd) (hb : L2.Binds K fd ["table", "thing"] []) (hm : mg "is_parting" = some (.ref f)) : Def P w K mg base 6 "is_parting" 2 m_is_parting := by
  refine mk_def F sc_is_parting hb hm rfl fun cdv A outer s H E hr => ?_
  have nd := sc_is_parting.nd
  exact (ds_cons (ds_drop (de_def D_need_even hr (by decide) (by rfl) (by rfl) (da_cons (de_var 0) da_nil) (len_cons len_nil))) (ds_cons (ds_ret (de_def D_parts_right hr (by decide) (by rfl) (by rfl) (da_cons (de_var 0) (da_cons (de_var 1) da_nil)) (len_cons (len_cons len_nil)))) ds_nil))
def m_mate : List D → M D := runD 8 (sSeq (sDrop (eCall m_need_even (aCons (eVar 0) aNil))) (sSeq (sIf (bNot (bOf (eCall m_parts_right (aCons (eVar 0) (aCons (eVar 1) aNil))))) (sSeq sNever sNil) sNil) (sSeq (sSet 2 (eN (nRng (eCall gLen (aCons (eVar 0) aNil))))) (sSeq (sRet (eCall gTuple (aCons (eN (nLc [3, 4] (iRng1D (aCons (eCall gLen (aCons (eVar 0) aNil)) aNil)) (tg1 4) bYes (eCall gTuple (aCons (eN (nLc [3, 5] (iOf (eVar 2)) (tg1 5) bYes (eBin gIx (eN (nLc [3, 6, 7] (iEnumDA (aCons (eVar 1) aNil)) (tg2 6 7) (bOf (eBin gEq (eBin gIx (eVar 7) (eVar 4)) (eVar 5))) (eVar 6))) (eC (.int 0))))) aNil)))) aNil))) sNil))))
theorem sc_mate : FnScope ["table", "parting", "columns", ".0", "row", "column", "k", "item"] ["table", "parting"] (defScope (top 62)) := ⟨rfl, rfl, rfl, by decide +kernel, rfl, by decide +kernel, by decide +kernel⟩
theorem d_mate (T : Txt mg) (D_need_even : Def P w K mg base 5 "need_even" 1 m_need_even) (D_parts_right : Def P w K mg base 3 "parts_right" 2 m_parts_right) {f : Addr} {fd : FuncData} (F : Fun K "mate" "mate" (top 62) f fd) (hb : L2.Binds K fd ["table", "parting"] []) (hm : mg "mate" = some (.ref f)) : Def P w K mg base 6 "mate" 2 m_mate := by
  refine mk_def F sc_mate hb hm rfl fun cdv A outer s H E hr => ?_
  have nd := sc_mate.nd
  exact (ds_cons (ds_drop (de_def D_need_even hr (by decide) (by rfl) (by rfl) (da_cons (de_var 0) da_nil) (len_cons len_nil))) (ds_cons (ds_if (dt_not (dt_val (de_def D_parts_right hr (by decide) (by rfl) (by rfl) (da_cons (de_var 0) (da_cons (de_var 1) da_nil)) (len_cons (len_cons len_nil))))) (ds_cons ds_never ds_nil) ds_nil) (ds_cons (ds_set 2 nd (by rfl) (by first | exact Or.inl (by rfl) | exact Or.inr (by rfl)) (de_n (dn_listRg (by rfl) (by rfl) T.list (by rfl) T.range (de_callB cr_lenD (by rfl) T.len boot_len (da_cons (de_var 0) da_nil))))) (ds_cons (ds_ret (de_callTy cr_tupleD (by rfl) T.tuple boot_tuple (da_cons (de_n (dn_lc (by rfl) nd (di_rng (by rfl) T.range (da_cons (de_callB cr_lenD (by rfl) T.len boot_len (da_cons (de_var 0) da_nil)) da_nil)) (blkOk_by (own := [(".0", 3), ("row", 4)]) (by rfl)) (fun _ _ _ _ _ => (bg1 4 nd)) (tgr1 4) (by decide) (fun _ _ _ _ _ => dts_nil) (fun _ _ _ _ _ => (de_callTy cr_tupleD (by rfl) T.tuple boot_tuple (da_cons (de_n (dn_lc (by rfl) nd (di_of (de_var 2)) (blkOk_by (own := [(".0", 3), ("column", 5)]) (by rfl)) (fun _ _ _ _ _ => (bg1 5 nd)) (tgr1 5) (by decide) (fun _ _ _ _ _ => dts_nil) (fun _ _ _ _ _ => (de_ix hr.u1 (de_n (dn_lc (by rfl) nd (di_enumA (by rfl) T.enumerate (da_cons (de_var 1) da_nil)) (blkOk_by (own := [(".0", 3), ("k", 6), ("item", 7)]) (by rfl)) (fun _ _ _ _ _ => (bg2 6 7 (by rfl) nd)) (tgr2 6 7) (by decide) (fun _ _ _ _ _ => (dts_one (dt_cmp (op_eqDD hr.units) (de_ix hr.u1 (de_var 7) (de_var 4)) (de_var 5) (nomark _)))) (fun _ _ _ _ _ => (de_var 6)))) de_int)))) da_nil))))) da_nil))) ds_nil))))
def m_closes : List D → M D := runD 5 (sSeq (sIf (bOr (bNot (bOf (eCall m_are_rising (aCons (eVar 2) (aCons (eCall gLen (aCons (eVar 1) aNil)) aNil))))) (bOf (eBin gNe (eCall gLen (aCons (eVar 2) aNil)) (eCall m_count_of (aCons (eVar 0) aNil))))) (sSeq (sRet (eC (.bl false))) sNil) sNil) (sSeq (sRet (eBin gEq (eCall m_sum_of (aCons (eVar 0) (aCons (eN (nLc [3, 4] (iOf (eVar 2)) (tg1 4) bYes (eBin gIx (eVar 1) (eVar 4)))) aNil))) (eCall m_nothing_of (aCons (eVar 0) aNil)))) sNil))
theorem sc_closes : FnScope ["dials", "moves", "thing", ".0", "number"] ["dials", "moves", "thing"] (defScope (top 65)) := ⟨rfl, rfl, rfl, by decide +kernel, rfl, by decide +kernel, by decide +kernel⟩
theorem d_closes (T : Txt mg) (D_count_of : Def P w K mg base 1 "count_of" 1 m_count_of) (D_are_rising : Def P w K mg base 2 "are_rising" 2 m_are_rising) (D_sum_of : Def P w K mg base 2 "sum_of" 2 m_sum_of) (D_nothing_of : Def P w K mg base 1 "nothing_of" 1 m_nothing_of) {f : Addr} {fd : FuncData} (F : Fun K "closes" "closes" (top 65) f fd) (hb : L2.Binds K fd ["dials", "moves", "thing"] []) (hm : mg "closes" = some (.ref f)) : Def P w K mg base 3 "closes" 3 m_closes := by
  refine mk_def F sc_closes hb hm rfl fun cdv A outer s H E hr => ?_
  have nd := sc_closes.nd
  exact (ds_cons (ds_if (PW.pt (dw_or (dt_not (dt_val (de_def D_are_rising hr (by decide) (by rfl) (by rfl) (da_cons (de_var 2) (da_cons (de_callB cr_lenD (by rfl) T.len boot_len (da_cons (de_var 1) da_nil)) da_nil)) (len_cons (len_cons len_nil))))) (dw_or1 (dt_cmp (op_neDD hr.units) (de_callB cr_lenD (by rfl) T.len boot_len (da_cons (de_var 2) da_nil)) (de_def D_count_of hr (by decide) (by rfl) (by rfl) (da_cons (de_var 0) da_nil) (len_cons len_nil)) (nomark _))))) (ds_cons (ds_ret de_bl) ds_nil) ds_nil) (ds_cons (ds_ret (de_cmp (op_eqDD hr.units) (de_def D_sum_of hr (by decide) (by rfl) (by rfl) (da_cons (de_var 0) (da_cons (de_n (dn_lc (by rfl) nd (di_of (de_var 2)) (blkOk_by (own := [(".0", 3), ("number", 4)]) (by rfl)) (fun _ _ _ _ _ => (bg1 4 nd)) (tgr1 4) (by decide) (fun _ _ _ _ _ => dts_nil) (fun _ _ _ _ _ => (de_ix hr.u1 (de_var 1) (de_var 4))))) da_nil)) (len_cons (len_cons len_nil))) (de_def D_nothing_of hr (by decide) (by rfl) (by rfl) (da_cons (de_var 0) da_nil) (len_cons len_nil)) (nomark _))) ds_nil))
def m_need_told : List D → M D := runD 2 (sSeq (sDrop (eCall m_need_dials (aCons (eVar 0) aNil))) (sSeq (sDrop (eCall m_need_moves (aCons (eVar 0) (aCons (eVar 1) aNil)))) sNil))
theorem sc_need_told : FnScope ["dials", "moves"] ["dials", "moves"] (defScope (top 66)) := ⟨rfl, rfl, rfl, by decide +kernel, rfl, by decide +kernel, by decide +kernel⟩
theorem d_need_told (T : Txt mg) (D_need_dials : Def P w K mg base 3 "need_dials" 1 m_need_dials) (D_need_moves : Def P w K mg base 4 "need_moves" 2 m_need_moves) {f : Addr} {fd : FuncData} (F : Fun K "need_told" "need_told" (top 66) f fd) (hb : L2.Binds K fd ["dials", "moves"] []) (hm : mg "need_told" = some (.ref f)) : Def P w K mg base 5 "need_told" 2 m_need_told := by
  refine mk_def F sc_need_told hb hm rfl fun cdv A outer s H E hr => ?_
  have nd := sc_need_told.nd
  exact (ds_cons (ds_drop (de_def D_need_dials hr (by decide) (by rfl) (by rfl) (da_cons (de_var 0) da_nil) (len_cons len_nil))) (ds_cons (ds_drop (de_def D_need_moves hr (by decide) (by rfl) (by rfl) (da_cons (de_var 0) (da_cons (de_var 1) da_nil)) (len_cons (len_cons len_nil)))) ds_nil))
def m_is_closing : List D → M D := runD 3 (sSeq (sDrop (eCall m_need_told (aCons (eVar 0) (aCons (eVar 1) aNil)))) (sSeq (sRet (eCall m_closes (aCons (eVar 0) (aCons (eVar 1) (aCons (eVar 2) aNil))))) sNil))
theorem sc_is_closing : FnScope ["dials", "moves", "thing"] ["dials", "moves", "thing"] (defScope (top 67)) := ⟨rfl, rfl, rfl, by decide +kernel, rfl, by decide +kernel, by decide +kernel⟩
theorem d_is_closing (T : Txt mg) (D_need_told : Def P w K mg base 5 "need_told" 2 m_need_told) (D_closes : Def P w K mg base 3 "closes" 3 m_closes) {f : Addr} {fd : FuncData} (F : Fun K "is_closing" "is_closing" (top 67) f fd) (hb : L2.Binds K fd ["dials", "moves", "thing"] []) (hm : mg "is_closing" = some (.ref f)) : Def P w K mg base 6 "is_closing" 3 m_is_closing := by
  refine mk_def F sc_is_closing hb hm rfl fun cdv A outer s H E hr => ?_
  have nd := sc_is_closing.nd
  exact (ds_cons (ds_drop (de_def D_need_told hr (by decide) (by rfl) (by rfl) (da_cons (de_var 0) (da_cons (de_var 1) da_nil)) (len_cons (len_cons len_nil)))) (ds_cons (ds_ret (de_def D_closes hr (by decide) (by rfl) (by rfl) (da_cons (de_var 0) (da_cons (de_var 1) (da_cons (de_var 2) da_nil))) (len_cons (len_cons (len_cons len_nil))))) ds_nil))
def m_closing_by : List D → M D := runD 3 (sSeq (sDrop (eCall m_need_told (aCons (eVar 0) (aCons (eVar 1) aNil)))) (sSeq (sIf (bOr (bNot (bOf (eCall m_picks_right (aCons (eCall m_book_by (aCons (eVar 0) (aCons (eVar 1) aNil))) (aCons (eVar 2) aNil))))) (bOf (eBin gNe (eCall gLen (aCons (eVar 2) aNil)) (eCall m_count_of (aCons (eVar 0) aNil))))) (sSeq sNever sNil) sNil) (sSeq (sRet (eCall gTuple (aCons (eCall gSorted (aCons (eVar 2) aNil)) aNil))) sNil)))
theorem sc_closing_by : FnScope ["dials", "moves", "pick"] ["dials", "moves", "pick"] (defScope (top 68)) := ⟨rfl, rfl, rfl, by decide +kernel, rfl, by decide +kernel, by decide +kernel⟩
theorem d_closing_by (T : Txt mg) (D_need_told : Def P w K mg base 5 "need_told" 2 m_need_told) (D_count_of : Def P w K mg base 1 "count_of" 1 m_count_of) (D_book_by : Def P w K mg base 3 "book_by" 2 m_book_by) (D_picks_right : Def P w K mg base 3 "picks_right" 2 m_picks_right) {f : Addr} {fd : FuncData} (F : Fun K "closing_by" "closing_by" (top 68) f fd) (hb : L2.Binds K fd ["dials", "moves", "pick"] []) (hm : mg "closing_by" = some (.ref f)) : Def P w K mg base 6 "closing_by" 3 m_closing_by := by
  refine mk_def F sc_closing_by hb hm rfl fun cdv A outer s H E hr => ?_
  have nd := sc_closing_by.nd
  exact (ds_cons (ds_drop (de_def D_need_told hr (by decide) (by rfl) (by rfl) (da_cons (de_var 0) (da_cons (de_var 1) da_nil)) (len_cons (len_cons len_nil)))) (ds_cons (ds_if (PW.pt (dw_or (dt_not (dt_val (de_def D_picks_right hr (by decide) (by rfl) (by rfl) (da_cons (de_def D_book_by hr (by decide) (by rfl) (by rfl) (da_cons (de_var 0) (da_cons (de_var 1) da_nil)) (len_cons (len_cons len_nil))) (da_cons (de_var 2) da_nil)) (len_cons (len_cons len_nil))))) (dw_or1 (dt_cmp (op_neDD hr.units) (de_callB cr_lenD (by rfl) T.len boot_len (da_cons (de_var 2) da_nil)) (de_def D_count_of hr (by decide) (by rfl) (by rfl) (da_cons (de_var 0) da_nil) (len_cons len_nil)) (nomark _))))) (ds_cons ds_never ds_nil) ds_nil) (ds_cons (ds_ret (de_callTy cr_tupleD (by rfl) T.tuple boot_tuple (da_cons (de_callB (cr_sortedD (by rfl)) (by rfl) T.sorted boot_sorted (da_cons (de_var 2) da_nil)) da_nil))) ds_nil)))
def m__law_is_whole : List D → M D := runD 1 (sSeq (sRet (eAnd (eUn (gIsi isInt) (eVar 0)) (eNot (eUn (gIsi isBl) (eVar 0))))) sNil)
theorem sc__law_is_whole : FnScope ["_law_item"] ["_law_item"] (defScope (top 75)) := ⟨rfl, rfl, rfl, by decide +kernel, rfl, by decide +kernel, by decide +kernel⟩
theorem d__law_is_whole (T : Txt mg)  {f : Addr} {fd : FuncData} (F : Fun K "_law_is_whole" "_law_is_whole" (top 75) f fd) (hb : L2.Binds K fd ["_law_item"] []) (hm : mg "_law_is_whole" = some (.ref f)) : Def P w K mg base 1 "_law_is_whole" 1 m__law_is_whole := by
  refine mk_def F sc__law_is_whole hb hm rfl fun cdv A outer s H E hr => ?_
  have nd := sc__law_is_whole.nd
  exact (ds_cons (ds_ret (de_and (de_isi isi_int (by rfl) T.isinstance (de_var 0) (pe_bltn (by rfl) T.int boot_int (by rfl))) (de_one (de_not (de_isi isi_bl (by rfl) T.isinstance (de_var 0) (pe_bltn (by rfl) T.bool boot_bool (by rfl))))))) ds_nil)
def m__law_is_below : List D → M D := runD 2 (sSeq (sRet (eAnd (eCall m__law_is_whole (aCons (eVar 0) aNil)) (eChain (gCmp fun i j => decide (i ≤ j)) (gCmp fun i j => decide (i < j)) (eC (.int 0)) (eVar 0) (eVar 1)))) sNil)
theorem sc__law_is_below : FnScope ["_law_item", "_law_many"] ["_law_item", "_law_many"] (defScope (top 76)) := ⟨rfl, rfl, rfl, by decide +kernel, rfl, by decide +kernel, by decide +kernel⟩
theorem d__law_is_below (T : Txt mg) (D__law_is_whole : Def P w K mg base 1 "_law_is_whole" 1 m__law_is_whole) {f : Addr} {fd : FuncData} (F : Fun K "_law_is_below" "_law_is_below" (top 76) f fd) (hb : L2.Binds K fd ["_law_item", "_law_many"] []) (hm : mg "_law_is_below" = some (.ref f)) : Def P w K mg base 2 "_law_is_below" 2 m__law_is_below := by
  refine mk_def F sc__law_is_below hb hm rfl fun cdv A outer s H E hr => ?_
  have nd := sc__law_is_below.nd
  exact (ds_cons (ds_ret (de_and (de_def D__law_is_whole hr (by decide) (by rfl) (by rfl) (da_cons (de_var 0) da_nil) (len_cons len_nil)) (de_one (de_chain op_leD op_ltD de_int (de_var 0) (de_var 1))))) ds_nil)
def m__law_is_pair : List D → M D := runD 1 (sSeq (sRet (eAnd (eUn (gIsi isTup) (eVar 0)) (eAnd (eBin gEq (eCall gLen (aCons (eVar 0) aNil)) (eC (.int 2))) (eAnd (eCall m__law_is_below (aCons (eBin gIx (eVar 0) (eC (.int 0))) (aCons (eC (.int 8)) aNil))) (eCall m__law_is_below (aCons (eBin gIx (eVar 0) (eC (.int 1))) (aCons (eC (.int 8)) aNil))))))) sNil)
theorem sc__law_is_pair : FnScope ["_law_item"] ["_law_item"] (defScope (top 77)) := ⟨rfl, rfl, rfl, by decide +kernel, rfl, by decide +kernel, by decide +kernel⟩
theorem d__law_is_pair (T : Txt mg) (D__law_is_below : Def P w K mg base 2 "_law_is_below" 2 m__law_is_below) {f : Addr} {fd : FuncData} (F : Fun K "_law_is_pair" "_law_is_pair" (top 77) f fd) (hb : L2.Binds K fd ["_law_item"] []) (hm : mg "_law_is_pair" = some (.ref f)) : Def P w K mg base 3 "_law_is_pair" 1 m__law_is_pair := by
  refine mk_def F sc__law_is_pair hb hm rfl fun cdv A outer s H E hr => ?_
  have nd := sc__law_is_pair.nd
  exact (ds_cons (ds_ret (de_and (de_isi isi_tup (by rfl) T.isinstance (de_var 0) (pe_bltn (by rfl) T.tuple boot_tuple (by rfl))) (de_and (de_cmp (op_eqDD hr.units) (de_callB cr_lenD (by rfl) T.len boot_len (da_cons (de_var 0) da_nil)) de_int (nomark _)) (de_and (de_def D__law_is_below hr (by decide) (by rfl) (by rfl) (da_cons (de_ix hr.u1 (de_var 0) de_int) (da_cons de_int da_nil)) (len_cons (len_cons len_nil))) (de_one (de_def D__law_is_below hr (by decide) (by rfl) (by rfl) (da_cons (de_ix hr.u1 (de_var 0) de_int) (da_cons de_int da_nil)) (len_cons (len_cons len_nil)))))))) ds_nil)
def m__law_are_apart : List D → M D := runD 3 (sSeq (sRet (eAnd (eBin gEq (eLenSet (eN (nLc [1, 2] (iOf (eVar 0)) (tg1 2) bYes (eBin gIx (eVar 2) (eC (.int 0)))))) (eCall gLen (aCons (eVar 0) aNil))) (eBin gEq (eLenSet (eN (nLc [1, 2] (iOf (eVar 0)) (tg1 2) bYes (eBin gIx (eVar 2) (eC (.int 1)))))) (eCall gLen (aCons (eVar 0) aNil))))) sNil)
theorem sc__law_are_apart : FnScope ["_law_several", ".0", "_law_pair"] ["_law_several"] (defScope (top 78)) := ⟨rfl, rfl, rfl, by decide +kernel, rfl, by decide +kernel, by decide +kernel⟩
theorem d__law_are_apart (T : Txt mg)  {f : Addr} {fd : FuncData} (F : Fun K "_law_are_apart" "_law_are_apart" (top 78) f fd) (hb : L2.Binds K fd ["_law_several"] []) (hm : mg "_law_are_apart" = some (.ref f)) : Def P w K mg base 1 "_law_are_apart" 1 m__law_are_apart := by
  refine mk_def F sc__law_are_apart hb hm rfl fun cdv A outer s H E hr => ?_
  have nd := sc__law_are_apart.nd
  exact (ds_cons (ds_ret (de_and (de_cmp (op_eqDD hr.units) (de_lenSet (by rfl) hr.units (by rfl) T.len (by rfl) T.set (de_n (dn_lc (by rfl) nd (di_of (de_var 0)) (blkOk_by (own := [(".0", 1), ("_law_pair", 2)]) (by rfl)) (fun _ _ _ _ _ => (bg1 2 nd)) (tgr1 2) (by decide) (fun _ _ _ _ _ => dts_nil) (fun _ _ _ _ _ => (de_ix hr.u1 (de_var 2) de_int))))) (de_callB cr_lenD (by rfl) T.len boot_len (da_cons (de_var 0) da_nil)) (nomark _)) (de_one (de_cmp (op_eqDD hr.units) (de_lenSet (by rfl) hr.units (by rfl) T.len (by rfl) T.set (de_n (dn_lc (by rfl) nd (di_of (de_var 0)) (blkOk_by (own := [(".0", 1), ("_law_pair", 2)]) (by rfl)) (fun _ _ _ _ _ => (bg1 2 nd)) (tgr1 2) (by decide) (fun _ _ _ _ _ => dts_nil) (fun _ _ _ _ _ => (de_ix hr.u1 (de_var 2) de_int))))) (de_callB cr_lenD (by rfl) T.len boot_len (da_cons (de_var 0) da_nil)) (nomark _))))) ds_nil)
def m__law_is_pick : List D → M D := runD 4 (sSeq (sIf (bOr (bNot (bOf (eUn (gIsi isDic) (eVar 1)))) (bOf (eBin gNe (eN (nLc [2, 3] (iOf (eVar 1)) (tg1 3) (bNot (bOf (eCall m__law_is_below (aCons (eVar 3) (aCons (eCall gLen (aCons (eVar 0) aNil)) aNil))))) (eC (.int 1)))) (eN (nLst aNil))))) (sSeq (sRet (eC (.bl false))) sNil) sNil) (sSeq (sIf (bOf (eBin gNe (eN (nLc [2, 3] (iOf (eVar 1)) (tg1 3) (bOr (bNot (bOf (eCall m__law_is_pair (aCons (eBin gIx (eVar 1) (eVar 3)) aNil)))) (bOf (eBin (gIn true) (eBin gIx (eVar 1) (eVar 3)) (eBin gIx (eVar 0) (eVar 3))))) (eC (.int 1)))) (eN (nLst aNil)))) (sSeq (sRet (eC (.bl false))) sNil) sNil) (sSeq (sRet (eCall m__law_are_apart (aCons (eN (nLc [2, 3] (iOf (eVar 1)) (tg1 3) bYes (eBin gIx (eVar 1) (eVar 3)))) aNil))) sNil)))
theorem sc__law_is_pick : FnScope ["_law_book", "_law_item", ".0", "_law_number"] ["_law_book", "_law_item"] (defScope (top 79)) := ⟨rfl, rfl, rfl, by decide +kernel, rfl, by decide +kernel, by decide +kernel⟩
theorem d__law_is_pick (T : Txt mg) (D__law_is_below : Def P w K mg base 2 "_law_is_below" 2 m__law_is_below) (D__law_is_pair : Def P w K mg base 3 "_law_is_pair" 1 m__law_is_pair) (D__law_are_apart : Def P w K mg base 1 "_law_are_apart" 1 m__law_are_apart) {f : Addr} {fd : FuncData} (F : Fun K "_law_is_pick" "_law_is_pick" (top 79) f fd) (hb : L2.Binds K fd ["_law_book", "_law_item"] []) (hm : mg "_law_is_pick" = some (.ref f)) : Def P w K mg base 4 "_law_is_pick" 2 m__law_is_pick := by
  refine mk_def F sc__law_is_pick hb hm rfl fun cdv A outer s H E hr => ?_
  have nd := sc__law_is_pick.nd
  exact (ds_cons (ds_if (PW.pt (dw_or (dt_not (dt_val (de_isi isi_dic (by rfl) T.isinstance (de_var 1) (pe_bltn (by rfl) T.dict boot_dict (by rfl))))) (dw_or1 (dt_cmp (op_neDD hr.units) (de_n (dn_lc (by rfl) nd (di_of (de_var 1)) (blkOk_by (own := [(".0", 2), ("_law_number", 3)]) (by rfl)) (fun _ _ _ _ _ => (bg1 3 nd)) (tgr1 3) (by decide) (fun _ _ _ _ _ => (dts_one (dt_not (dt_val (de_def D__law_is_below hr (by decide) (by rfl) (by rfl) (da_cons (de_var 3) (da_cons (de_callB cr_lenD (by rfl) T.len boot_len (da_cons (de_var 0) da_nil)) da_nil)) (len_cons (len_cons len_nil))))))) (fun _ _ _ _ _ => de_int))) (de_n (dn_lst da_nil)) (nomark _))))) (ds_cons (ds_ret de_bl) ds_nil) ds_nil) (ds_cons (ds_if (dt_cmp (op_neDD hr.units) (de_n (dn_lc (by rfl) nd (di_of (de_var 1)) (blkOk_by (own := [(".0", 2), ("_law_number", 3)]) (by rfl)) (fun _ _ _ _ _ => (bg1 3 nd)) (tgr1 3) (by decide) (fun _ _ _ _ _ => (dts_one (PW.pt (dw_or (dt_not (dt_val (de_def D__law_is_pair hr (by decide) (by rfl) (by rfl) (da_cons (de_ix hr.u1 (de_var 1) (de_var 3)) da_nil) (len_cons len_nil)))) (dw_or1 (dt_cmp (op_notInDD hr.u65) (de_ix hr.u1 (de_var 1) (de_var 3)) (de_ix hr.u1 (de_var 0) (de_var 3)) (by rfl))))))) (fun _ _ _ _ _ => de_int))) (de_n (dn_lst da_nil)) (nomark _)) (ds_cons (ds_ret de_bl) ds_nil) ds_nil) (ds_cons (ds_ret (de_def D__law_are_apart hr (by decide) (by rfl) (by rfl) (da_cons (de_n (dn_lc (by rfl) nd (di_of (de_var 1)) (blkOk_by (own := [(".0", 2), ("_law_number", 3)]) (by rfl)) (fun _ _ _ _ _ => (bg1 3 nd)) (tgr1 3) (by decide) (fun _ _ _ _ _ => dts_nil) (fun _ _ _ _ _ => (de_ix hr.u1 (de_var 1) (de_var 3))))) da_nil) (len_cons len_nil))) ds_nil)))
def m__law_places : List D → M D := runD 7 (sSeq (sSet 1 (eN (nLst (aCons (eTup aNil) aNil)))) (sSeq (sFor (iOf (eVar 0)) (.one 2) (sSeq (sSet 3 (eN (nLst aNil))) (sSeq (sFor (iOf (eVar 1)) (.one 4) (sSeq (sSet 3 (eBin gAdd (eVar 3) (eN (nLc [5, 6] (iRng1D (aCons (eVar 2) aNil)) (tg1 6) bYes (eBin gAdd (eVar 4) (eTup (aCons (eVar 6) aNil))))))) sNil)) (sSeq (sSet 1 (eVar 3)) sNil)))) (sSeq (sRet (eVar 1)) sNil)))
theorem sc__law_places : FnScope ["_law_dials_here", "_law_found", "_law_size_here", "_law_more", "_law_row", ".0", "_law_item"] ["_law_dials_here"] (defScope (top 81)) := ⟨rfl, rfl, rfl, by decide +kernel, rfl, by decide +kernel, by decide +kernel⟩
theorem d__law_places (T : Txt mg)  {f : Addr} {fd : FuncData} (F : Fun K "_law_places" "_law_places" (top 81) f fd) (hb : L2.Binds K fd ["_law_dials_here"] []) (hm : mg "_law_places" = some (.ref f)) : Def P w K mg base 1 "_law_places" 1 m__law_places := by
  refine mk_def F sc__law_places hb hm rfl fun cdv A outer s H E hr => ?_
  have nd := sc__law_places.nd
  exact (ds_cons (ds_set 1 nd (by rfl) (by first | exact Or.inl (by rfl) | exact Or.inr (by rfl)) (de_n (dn_lst (da_cons (de_tup da_nil) da_nil)))) (ds_cons (ds_for PassesOwn.never (by rfl) (di_of (de_var 0)) (fs1 2 (bg1 2 nd)) (ds_cons (ds_set 3 nd (by rfl) (by first | exact Or.inl (by rfl) | exact Or.inr (by rfl)) (de_n (dn_lst da_nil))) (ds_cons (ds_for PassesOwn.never (by rfl) (di_of (de_var 1)) (fs1 4 (bg1 4 nd)) (ds_cons (ds_set 3 nd (by rfl) (by first | exact Or.inl (by rfl) | exact Or.inr (by rfl)) (de_bin op_addD (de_var 3) (de_n (dn_lc (by rfl) nd (di_rng (by rfl) T.range (da_cons (de_var 2) da_nil)) (blkOk_by (own := [(".0", 5), ("_law_item", 6)]) (by rfl)) (fun _ _ _ _ _ => (bg1 6 nd)) (tgr1 6) (by decide) (fun _ _ _ _ _ => dts_nil) (fun _ _ _ _ _ => (de_bin op_addD (de_var 4) (de_tup (da_cons (de_var 6) da_nil)))))))) ds_nil)) (ds_cons (ds_set 1 nd (by rfl) (by first | exact Or.inl (by rfl) | exact Or.inr (by rfl)) (de_var 3)) ds_nil)))) (ds_cons (ds_ret (de_var 1)) ds_nil)))
def m__law_plus : List D → M D := runD 7 (sSeq (sRet (eCall gTuple (aCons (eN (nLc [3, 4, 5, 6] (iZip3D (aCons (eVar 1) (aCons (eVar 2) (aCons (eVar 0) aNil)))) (tg3 4 5 6) bYes (eBin gMod (eCall gInt1 (aCons (eBin gAdd (eVar 4) (eVar 5)) aNil)) (eVar 6)))) aNil))) sNil)
theorem sc__law_plus : FnScope ["_law_dials_here", "_law_one", "_law_other", ".0", "_law_here", "_law_there", "_law_size_here"] ["_law_dials_here", "_law_one", "_law_other"] (defScope (top 82)) := ⟨rfl, rfl, rfl, by decide +kernel, rfl, by decide +kernel, by decide +kernel⟩
theorem d__law_plus (T : Txt mg)  {f : Addr} {fd : FuncData} (F : Fun K "_law_plus" "_law_plus" (top 82) f fd) (hb : L2.Binds K fd ["_law_dials_here", "_law_one", "_law_other"] []) (hm : mg "_law_plus" = some (.ref f)) : Def P w K mg base 1 "_law_plus" 3 m__law_plus := by
  refine mk_def F sc__law_plus hb hm rfl fun cdv A outer s H E hr => ?_
  have nd := sc__law_plus.nd
  exact (ds_cons (ds_ret (de_callTy cr_tupleD (by rfl) T.tuple boot_tuple (da_cons (de_n (dn_lc (by rfl) nd (di_zip3 (by rfl) T.zip (da_cons (de_var 1) (da_cons (de_var 2) (da_cons (de_var 0) da_nil)))) (blkOk_by (own := [(".0", 3), ("_law_here", 4), ("_law_there", 5), ("_law_size_here", 6)]) (by rfl)) (fun _ _ _ _ _ => (bg3 4 5 6 (by rfl) nd)) (tgr3 4 5 6) (by decide) (fun _ _ _ _ _ => dts_nil) (fun _ _ _ _ _ => (de_bin op_modD (de_callTy cr_int1D (by rfl) T.int boot_int (da_cons (de_bin op_addD (de_var 4) (de_var 5)) da_nil)) (de_var 6))))) da_nil))) ds_nil)
def m__law_nothing : List D → M D := runD 1 (sSeq (sRet (eBin gMul (eTup (aCons (eC (.int 0)) aNil)) (eCall gLen (aCons (eVar 0) aNil)))) sNil)
theorem sc__law_nothing : FnScope ["_law_dials_here"] ["_law_dials_here"] (defScope (top 83)) := ⟨rfl, rfl, rfl, by decide +kernel, rfl, by decide +kernel, by decide +kernel⟩
theorem d__law_nothing (T : Txt mg)  {f : Addr} {fd : FuncData} (F : Fun K "_law_nothing" "_law_nothing" (top 83) f fd) (hb : L2.Binds K fd ["_law_dials_here"] []) (hm : mg "_law_nothing" = some (.ref f)) : Def P w K mg base 1 "_law_nothing" 1 m__law_nothing := by
  refine mk_def F sc__law_nothing hb hm rfl fun cdv A outer s H E hr => ?_
  have nd := sc__law_nothing.nd
  exact (ds_cons (ds_ret (de_bin op_mulD (de_tup (da_cons de_int da_nil)) (de_callB cr_lenD (by rfl) T.len boot_len (da_cons (de_var 0) da_nil)))) ds_nil)
def m__law_move_plan : List D → M D := runD 6 (sSeq (sSet 2 (eCall m__law_places (aCons (eVar 0) aNil))) (sSeq (sRet (eCall gTuple (aCons (eN (nLc [3, 4, 5] (iEnumDA (aCons (eVar 2) aNil)) (tg2 4 5) bYes (eTup (aCons (eVar 4) (aCons (eIndex (eVar 2) (eCall m__law_plus (aCons (eVar 0) (aCons (eVar 5) (aCons (eVar 1) aNil))))) aNil))))) aNil))) sNil))
theorem sc__law_move_plan : FnScope ["_law_dials_here", "_law_move_here", "_law_menu", ".0", "_law_spot", "_law_item"] ["_law_dials_here", "_law_move_here"] (defScope (top 84)) := ⟨rfl, rfl, rfl, by decide +kernel, rfl, by decide +kernel, by decide +kernel⟩
theorem d__law_move_plan (T : Txt mg) (D__law_places : Def P w K mg base 1 "_law_places" 1 m__law_places) (D__law_plus : Def P w K mg base 1 "_law_plus" 3 m__law_plus) {f : Addr} {fd : FuncData} (F : Fun K "_law_move_plan" "_law_move_plan" (top 84) f fd) (hb : L2.Binds K fd ["_law_dials_here", "_law_move_here"] []) (hm : mg "_law_move_plan" = some (.ref f)) : Def P w K mg base 2 "_law_move_plan" 2 m__law_move_plan := by
  refine mk_def F sc__law_move_plan hb hm rfl fun cdv A outer s H E hr => ?_
  have nd := sc__law_move_plan.nd
  exact (ds_cons (ds_set 2 nd (by rfl) (by first | exact Or.inl (by rfl) | exact Or.inr (by rfl)) (de_def D__law_places hr (by decide) (by rfl) (by rfl) (da_cons (de_var 0) da_nil) (len_cons len_nil))) (ds_cons (ds_ret (de_callTy cr_tupleD (by rfl) T.tuple boot_tuple (da_cons (de_n (dn_lc (by rfl) nd (di_enumA (by rfl) T.enumerate (da_cons (de_var 2) da_nil)) (blkOk_by (own := [(".0", 3), ("_law_spot", 4), ("_law_item", 5)]) (by rfl)) (fun _ _ _ _ _ => (bg2 4 5 (by rfl) nd)) (tgr2 4 5) (by decide) (fun _ _ _ _ _ => dts_nil) (fun _ _ _ _ _ => (de_tup (da_cons (de_var 4) (da_cons (de_index hr.u65 (de_var 2) (de_def D__law_plus hr (by decide) (by rfl) (by rfl) (da_cons (de_var 0) (da_cons (de_var 5) (da_cons (de_var 1) da_nil))) (len_cons (len_cons (len_cons len_nil))))) da_nil)))))) da_nil))) ds_nil))
def m__law_is_row : List D → M D := runD 4 (sSeq (sIf (bOr (bNot (bOf (eUn (gIsi isTup) (eVar 0)))) (bOr (bOf (eBin gNe (eCall gLen (aCons (eVar 0) aNil)) (eVar 1))) (bOf (eBin gNe (eN (nLc [2, 3] (iOf (eVar 0)) (tg1 3) (bNot (bOf (eCall m__law_is_below (aCons (eVar 3) (aCons (eC (.int 8)) aNil))))) (eC (.int 1)))) (eN (nLst aNil)))))) (sSeq (sRet (eC (.bl false))) sNil) sNil) (sSeq (sRet (eBin gEq (eLenSet (eVar 0)) (eVar 1))) sNil))
theorem sc__law_is_row : FnScope ["_law_item", "_law_many", ".0", "_law_sign"] ["_law_item", "_law_many"] (defScope (top 86)) := ⟨rfl, rfl, rfl, by decide +kernel, rfl, by decide +kernel, by decide +kernel⟩
theorem d__law_is_row (T : Txt mg) (D__law_is_below : Def P w K mg base 2 "_law_is_below" 2 m__law_is_below) {f : Addr} {fd : FuncData} (F : Fun K "_law_is_row" "_law_is_row" (top 86) f fd) (hb : L2.Binds K fd ["_law_item", "_law_many"] []) (hm : mg "_law_is_row" = some (.ref f)) : Def P w K mg base 3 "_law_is_row" 2 m__law_is_row := by
  refine mk_def F sc__law_is_row hb hm rfl fun cdv A outer s H E hr => ?_
  have nd := sc__law_is_row.nd
  exact (ds_cons (ds_if (PW.pt (dw_or (dt_not (dt_val (de_isi isi_tup (by rfl) T.isinstance (de_var 0) (pe_bltn (by rfl) T.tuple boot_tuple (by rfl))))) (dw_or (dt_cmp (op_neDD hr.units) (de_callB cr_lenD (by rfl) T.len boot_len (da_cons (de_var 0) da_nil)) (de_var 1) (nomark _)) (dw_or1 (dt_cmp (op_neDD hr.units) (de_n (dn_lc (by rfl) nd (di_of (de_var 0)) (blkOk_by (own := [(".0", 2), ("_law_sign", 3)]) (by rfl)) (fun _ _ _ _ _ => (bg1 3 nd)) (tgr1 3) (by decide) (fun _ _ _ _ _ => (dts_one (dt_not (dt_val (de_def D__law_is_below hr (by decide) (by rfl) (by rfl) (da_cons (de_var 3) (da_cons de_int da_nil)) (len_cons (len_cons len_nil))))))) (fun _ _ _ _ _ => de_int))) (de_n (dn_lst da_nil)) (nomark _)))))) (ds_cons (ds_ret de_bl) ds_nil) ds_nil) (ds_cons (ds_ret (de_cmp (op_eqDD hr.units) (de_lenSet (by rfl) hr.units (by rfl) T.len (by rfl) T.set (de_var 0)) (de_var 1) (nomark _))) ds_nil))
def m__law_is_table : List D → M D := runD 3 (sSeq (sIf (bOr (bNot (bOf (eUn (gIsi isTup) (eVar 0)))) (bOr (bNot (bOf (eChain (gCmp fun i j => decide (i ≤ j)) (gCmp fun i j => decide (i ≤ j)) (eC (.int 1)) (eCall gLen (aCons (eVar 0) aNil)) (eC (.int 16))))) (bOr (bNot (bOf (eUn (gIsi isTup) (eBin gIx (eVar 0) (eC (.int 0)))))) (bOf (eBin gEq (eBin gIx (eVar 0) (eC (.int 0))) (eTup aNil)))))) (sSeq (sRet (eC (.bl false))) sNil) sNil) (sSeq (sRet (eBin gEq (eN (nLc [1, 2] (iOf (eVar 0)) (tg1 2) (bNot (bOf (eCall m__law_is_row (aCons (eVar 2) (aCons (eCall gLen (aCons (eBin gIx (eVar 0) (eC (.int 0))) aNil)) aNil))))) (eC (.int 1)))) (eN (nLst aNil)))) sNil))
theorem sc__law_is_table : FnScope ["_law_item", ".0", "_law_row"] ["_law_item"] (defScope (top 87)) := ⟨rfl, rfl, rfl, by decide +kernel, rfl, by decide +kernel, by decide +kernel⟩
theorem d__law_is_table (T : Txt mg) (D__law_is_row : Def P w K mg base 3 "_law_is_row" 2 m__law_is_row) {f : Addr} {fd : FuncData} (F : Fun K "_law_is_table" "_law_is_table" (top 87) f fd) (hb : L2.Binds K fd ["_law_item"] []) (hm : mg "_law_is_table" = some (.ref f)) : Def P w K mg base 4 "_law_is_table" 1 m__law_is_table := by
  refine mk_def F sc__law_is_table hb hm rfl fun cdv A outer s H E hr => ?_
  have nd := sc__law_is_table.nd
  exact (ds_cons (ds_if (PW.pt (dw_or (dt_not (dt_val (de_isi isi_tup (by rfl) T.isinstance (de_var 0) (pe_bltn (by rfl) T.tuple boot_tuple (by rfl))))) (dw_or (dt_not (dt_chain op_leD op_leD de_int (de_callB cr_lenD (by rfl) T.len boot_len (da_cons (de_var 0) da_nil)) de_int)) (dw_or (dt_not (dt_val (de_isi isi_tup (by rfl) T.isinstance (de_ix hr.u1 (de_var 0) de_int) (pe_bltn (by rfl) T.tuple boot_tuple (by rfl))))) (dw_or1 (dt_cmp (op_eqDD hr.units) (de_ix hr.u1 (de_var 0) de_int) (de_tup da_nil) (nomark _))))))) (ds_cons (ds_ret de_bl) ds_nil) ds_nil) (ds_cons (ds_ret (de_cmp (op_eqDD hr.units) (de_n (dn_lc (by rfl) nd (di_of (de_var 0)) (blkOk_by (own := [(".0", 1), ("_law_row", 2)]) (by rfl)) (fun _ _ _ _ _ => (bg1 2 nd)) (tgr1 2) (by decide) (fun _ _ _ _ _ => (dts_one (dt_not (dt_val (de_def D__law_is_row hr (by decide) (by rfl) (by rfl) (da_cons (de_var 2) (da_cons (de_callB cr_lenD (by rfl) T.len boot_len (da_cons (de_ix hr.u1 (de_var 0) de_int) da_nil)) da_nil)) (len_cons (len_cons len_nil))))))) (fun _ _ _ _ _ => de_int))) (de_n (dn_lst da_nil)) (nomark _))) ds_nil))
def m__law_is_cut : List D → M D := runD 5 (sSeq (sIf (bOr (bNot (bOf (eUn (gIsi isDic) (eVar 1)))) (bOr (bOf (eBin gNe (eCall gLen (aCons (eVar 1) aNil)) (eCall gLen (aCons (eBin gIx (eVar 0) (eC (.int 0))) aNil)))) (bOf (eBin gNe (eN (nLc [3, 4] (iOf (eVar 1)) (tg1 4) (bNot (bOf (eCall m__law_is_below (aCons (eVar 4) (aCons (eCall gLen (aCons (eVar 0) aNil)) aNil))))) (eC (.int 1)))) (eN (nLst aNil)))))) (sSeq (sRet (eC (.bl false))) sNil) sNil) (sSeq (sIf (bOf (eBin gNe (eN (nLc [3, 4] (iOf (eVar 1)) (tg1 4) (bNot (bOf (eCall m__law_is_below (aCons (eBin gIx (eVar 1) (eVar 4)) (aCons (eCall gLen (aCons (eBin gIx (eVar 0) (eC (.int 0))) aNil)) aNil))))) (eC (.int 1)))) (eN (nLst aNil)))) (sSeq (sRet (eC (.bl false))) sNil) sNil) (sSeq (sSet 2 (eN (nLc [3, 4] (iOf (eVar 1)) (tg1 4) bYes (eBin gIx (eBin gIx (eVar 0) (eVar 4)) (eBin gIx (eVar 1) (eVar 4)))))) (sSeq (sRet (eAnd (eBin gEq (eLenSet (eVar 2)) (eCall gLen (aCons (eVar 1) aNil))) (eBin gEq (eLenSet (eN (nVals (eVar 1)))) (eCall gLen (aCons (eVar 1) aNil))))) sNil))))
theorem sc__law_is_cut : FnScope ["_law_told", "_law_item", "_law_signs", ".0", "_law_row"] ["_law_told", "_law_item"] (defScope (top 88)) := ⟨rfl, rfl, rfl, by decide +kernel, rfl, by decide +kernel, by decide +kernel⟩
theorem d__law_is_cut (T : Txt mg) (D__law_is_below : Def P w K mg base 2 "_law_is_below" 2 m__law_is_below) {f : Addr} {fd : FuncData} (F : Fun K "_law_is_cut" "_law_is_cut" (top 88) f fd) (hb : L2.Binds K fd ["_law_told", "_law_item"] []) (hm : mg "_law_is_cut" = some (.ref f)) : Def P w K mg base 3 "_law_is_cut" 2 m__law_is_cut := by
  refine mk_def F sc__law_is_cut hb hm rfl fun cdv A outer s H E hr => ?_
  have nd := sc__law_is_cut.nd
  exact (ds_cons (ds_if (PW.pt (dw_or (dt_not (dt_val (de_isi isi_dic (by rfl) T.isinstance (de_var 1) (pe_bltn (by rfl) T.dict boot_dict (by rfl))))) (dw_or (dt_cmp (op_neDD hr.units) (de_callB cr_lenD (by rfl) T.len boot_len (da_cons (de_var 1) da_nil)) (de_callB cr_lenD (by rfl) T.len boot_len (da_cons (de_ix hr.u1 (de_var 0) de_int) da_nil)) (nomark _)) (dw_or1 (dt_cmp (op_neDD hr.units) (de_n (dn_lc (by rfl) nd (di_of (de_var 1)) (blkOk_by (own := [(".0", 3), ("_law_row", 4)]) (by rfl)) (fun _ _ _ _ _ => (bg1 4 nd)) (tgr1 4) (by decide) (fun _ _ _ _ _ => (dts_one (dt_not (dt_val (de_def D__law_is_below hr (by decide) (by rfl) (by rfl) (da_cons (de_var 4) (da_cons (de_callB cr_lenD (by rfl) T.len boot_len (da_cons (de_var 0) da_nil)) da_nil)) (len_cons (len_cons len_nil))))))) (fun _ _ _ _ _ => de_int))) (de_n (dn_lst da_nil)) (nomark _)))))) (ds_cons (ds_ret de_bl) ds_nil) ds_nil) (ds_cons (ds_if (dt_cmp (op_neDD hr.units) (de_n (dn_lc (by rfl) nd (di_of (de_var 1)) (blkOk_by (own := [(".0", 3), ("_law_row", 4)]) (by rfl)) (fun _ _ _ _ _ => (bg1 4 nd)) (tgr1 4) (by decide) (fun _ _ _ _ _ => (dts_one (dt_not (dt_val (de_def D__law_is_below hr (by decide) (by rfl) (by rfl) (da_cons (de_ix hr.u1 (de_var 1) (de_var 4)) (da_cons (de_callB cr_lenD (by rfl) T.len boot_len (da_cons (de_ix hr.u1 (de_var 0) de_int) da_nil)) da_nil)) (len_cons (len_cons len_nil))))))) (fun _ _ _ _ _ => de_int))) (de_n (dn_lst da_nil)) (nomark _)) (ds_cons (ds_ret de_bl) ds_nil) ds_nil) (ds_cons (ds_lcV 2 (by rfl) nd (by rfl) (by rfl) (by rfl) (di_of (de_var 1)) (blkOk_by (own := [(".0", 3), ("_law_row", 4)]) (by rfl)) (fun _ _ _ _ _ => (bg1 4 nd)) (tgr1 4) (by decide) (fun _ _ _ _ _ => dts_nil) (fun _ _ _ _ _ => (de_ix hr.u1 (de_ix hr.u1 (de_var 0) (de_var 4)) (de_ix hr.u1 (de_var 1) (de_var 4))))) (ds_cons (ds_ret (de_and (de_cmp (op_eqDD hr.units) (de_lenSet (by rfl) hr.units (by rfl) T.len (by rfl) T.set (de_var 2)) (de_callB cr_lenD (by rfl) T.len boot_len (da_cons (de_var 1) da_nil)) (nomark _)) (de_one (de_cmp (op_eqDD hr.units) (de_lenSet (by rfl) hr.units (by rfl) T.len (by rfl) T.set (de_n (dn_vals (by rfl) (by rfl) T.list (de_var 1)))) (de_callB cr_lenD (by rfl) T.len boot_len (da_cons (de_var 1) da_nil)) (nomark _))))) ds_nil))))
def m__law_all_cuts : List D → M D := runD 10 (sSeq (sSet 1 (eN (nLst (aCons (eTup aNil) aNil)))) (sSeq (sFor (iOf (eVar 0)) (.one 2) (sSeq (sSet 3 (eN (nLst aNil))) (sSeq (sFor (iOf (eVar 1)) (.one 4) (sSeq (sSet 5 (eN (nLc [6, 7, 8] (iEnumDA (aCons (eVar 4) aNil)) (tg2 7 8) bYes (eBin gIx (eBin gIx (eVar 0) (eVar 7)) (eVar 8))))) (sSeq (sSet 3 (eBin gAdd (eVar 3) (eN (nLc [6, 9] (iRng1D (aCons (eCall gLen (aCons (eVar 2) aNil)) aNil)) (tg1 9) (bAnd (bOf (eBin (gIn true) (eVar 9) (eVar 4))) (bOf (eBin (gIn true) (eBin gIx (eVar 2) (eVar 9)) (eVar 5)))) (eBin gAdd (eVar 4) (eTup (aCons (eVar 9) aNil))))))) sNil))) (sSeq (sSet 1 (eVar 3)) sNil)))) (sSeq (sRet (eVar 1)) sNil)))
theorem sc__law_all_cuts : FnScope ["_law_told", "_law_found", "_law_row", "_law_more", "_law_columns", "_law_signs", ".0", "_law_spot", "_law_column", "_law_k"] ["_law_told"] (defScope (top 90)) := ⟨rfl, rfl, rfl, by decide +kernel, rfl, by decide +kernel, by decide +kernel⟩
theorem d__law_all_cuts (T : Txt mg)  {f : Addr} {fd : FuncData} (F : Fun K "_law_all_cuts" "_law_all_cuts" (top 90) f fd) (hb : L2.Binds K fd ["_law_told"] []) (hm : mg "_law_all_cuts" = some (.ref f)) : Def P w K mg base 1 "_law_all_cuts" 1 m__law_all_cuts := by
  refine mk_def F sc__law_all_cuts hb hm rfl fun cdv A outer s H E hr => ?_
  have nd := sc__law_all_cuts.nd
  exact (ds_cons (ds_set 1 nd (by rfl) (by first | exact Or.inl (by rfl) | exact Or.inr (by rfl)) (de_n (dn_lst (da_cons (de_tup da_nil) da_nil)))) (ds_cons (ds_for PassesOwn.never (by rfl) (di_of (de_var 0)) (fs1 2 (bg1 2 nd)) (ds_cons (ds_set 3 nd (by rfl) (by first | exact Or.inl (by rfl) | exact Or.inr (by rfl)) (de_n (dn_lst da_nil))) (ds_cons (ds_for PassesOwn.never (by rfl) (di_of (de_var 1)) (fs1 4 (bg1 4 nd)) (ds_cons (ds_set 5 nd (by rfl) (by first | exact Or.inl (by rfl) | exact Or.inr (by rfl)) (de_n (dn_lc (by rfl) nd (di_enumA (by rfl) T.enumerate (da_cons (de_var 4) da_nil)) (blkOk_by (own := [(".0", 6), ("_law_spot", 7), ("_law_column", 8)]) (by rfl)) (fun _ _ _ _ _ => (bg2 7 8 (by rfl) nd)) (tgr2 7 8) (by decide) (fun _ _ _ _ _ => dts_nil) (fun _ _ _ _ _ => (de_ix hr.u1 (de_ix hr.u1 (de_var 0) (de_var 7)) (de_var 8)))))) (ds_cons (ds_set 3 nd (by rfl) (by first | exact Or.inl (by rfl) | exact Or.inr (by rfl)) (de_bin op_addD (de_var 3) (de_n (dn_lc (by rfl) nd (di_rng (by rfl) T.range (da_cons (de_callB cr_lenD (by rfl) T.len boot_len (da_cons (de_var 2) da_nil)) da_nil)) (blkOk_by (own := [(".0", 6), ("_law_k", 9)]) (by rfl)) (fun _ _ _ _ _ => (bg1 9 nd)) (tgr1 9) (by decide) (fun _ _ _ _ _ => (dts_one (PW.pt (dw_and (dt_cmp (op_notInDD hr.u65) (de_var 9) (de_var 4) (by rfl)) (dw_and1 (dt_cmp (op_notInDD hr.u65) (de_ix hr.u1 (de_var 2) (de_var 9)) (de_var 5) (by rfl))))))) (fun _ _ _ _ _ => (de_bin op_addD (de_var 4) (de_tup (da_cons (de_var 9) da_nil)))))))) ds_nil))) (ds_cons (ds_set 1 nd (by rfl) (by first | exact Or.inl (by rfl) | exact Or.inr (by rfl)) (de_var 3)) ds_nil)))) (ds_cons (ds_ret (de_var 1)) ds_nil)))
def m__law_is_parting : List D → M D := runD 7 (sSeq (sIf (bOr (bAnd (bNot (bOf (eUn (gIsi isLst) (eVar 1)))) (bNot (bOf (eUn (gIsi isTup) (eVar 1))))) (bOf (eBin gNe (eCall gLen (aCons (eVar 1) aNil)) (eCall gLen (aCons (eVar 0) aNil))))) (sSeq (sRet (eC (.bl false))) sNil) sNil) (sSeq (sSet 2 (eN (nLst aNil))) (sSeq (sFor (iEnumDA (aCons (eVar 1) aNil)) (.two 3 4) (sSeq (sIf (bOr (bNot (bOf (eCall m__law_is_cut (aCons (eVar 0) (aCons (eVar 4) aNil))))) (bOf (eBin gNe (eBin gIx (eVar 4) (eC (.int 0))) (eVar 3)))) (sSeq (sRet (eC (.bl false))) sNil) sNil) (sSeq (sSet 2 (eBin gAdd (eVar 2) (eN (nLc [5, 6] (iOf (eVar 4)) (tg1 6) bYes (eTup (aCons (eVar 6) (aCons (eBin gIx (eVar 4) (eVar 6)) aNil))))))) sNil))) (sSeq (sRet (eBin gEq (eLenSet (eVar 2)) (eBin gMul (eCall gLen (aCons (eVar 0) aNil)) (eCall gLen (aCons (eVar 0) aNil))))) sNil))))
theorem sc__law_is_parting : FnScope ["_law_told", "_law_item", "_law_cells_here", "_law_spot", "_law_cut_here", ".0", "_law_row"] ["_law_told", "_law_item"] (defScope (top 91)) := ⟨rfl, rfl, rfl, by decide +kernel, rfl, by decide +kernel, by decide +kernel⟩
theorem d__law_is_parting (T : Txt mg) (D__law_is_cut : Def P w K mg base 3 "_law_is_cut" 2 m__law_is_cut) {f : Addr} {fd : FuncData} (F : Fun K "_law_is_parting" "_law_is_parting" (top 91) f fd) (hb : L2.Binds K fd ["_law_told", "_law_item"] []) (hm : mg "_law_is_parting" = some (.ref f)) : Def P w K mg base 4 "_law_is_parting" 2 m__law_is_parting := by
  refine mk_def F sc__law_is_parting hb hm rfl fun cdv A outer s H E hr => ?_
  have nd := sc__law_is_parting.nd
  exact (ds_cons (ds_if (PW.pt (dw_or (PW.pt (dw_and (dt_not (dt_val (de_isi isi_lst (by rfl) T.isinstance (de_var 1) (pe_bltn (by rfl) T.list boot_list (by rfl))))) (dw_and1 (dt_not (dt_val (de_isi isi_tup (by rfl) T.isinstance (de_var 1) (pe_bltn (by rfl) T.tuple boot_tuple (by rfl)))))))) (dw_or1 (dt_cmp (op_neDD hr.units) (de_callB cr_lenD (by rfl) T.len boot_len (da_cons (de_var 1) da_nil)) (de_callB cr_lenD (by rfl) T.len boot_len (da_cons (de_var 0) da_nil)) (nomark _))))) (ds_cons (ds_ret de_bl) ds_nil) ds_nil) (ds_cons (ds_set 2 nd (by rfl) (by first | exact Or.inl (by rfl) | exact Or.inr (by rfl)) (de_n (dn_lst da_nil))) (ds_cons (ds_for PassesOwn.never (by rfl) (di_enumA (by rfl) T.enumerate (da_cons (de_var 1) da_nil)) (fs2 3 4 (bg2 3 4 (by rfl) nd)) (ds_cons (ds_if (PW.pt (dw_or (dt_not (dt_val (de_def D__law_is_cut hr (by decide) (by rfl) (by rfl) (da_cons (de_var 0) (da_cons (de_var 4) da_nil)) (len_cons (len_cons len_nil))))) (dw_or1 (dt_cmp (op_neDD hr.units) (de_ix hr.u1 (de_var 4) de_int) (de_var 3) (nomark _))))) (ds_cons (ds_ret de_bl) ds_nil) ds_nil) (ds_cons (ds_set 2 nd (by rfl) (by first | exact Or.inl (by rfl) | exact Or.inr (by rfl)) (de_bin op_addD (de_var 2) (de_n (dn_lc (by rfl) nd (di_of (de_var 4)) (blkOk_by (own := [(".0", 5), ("_law_row", 6)]) (by rfl)) (fun _ _ _ _ _ => (bg1 6 nd)) (tgr1 6) (by decide) (fun _ _ _ _ _ => dts_nil) (fun _ _ _ _ _ => (de_tup (da_cons (de_var 6) (da_cons (de_ix hr.u1 (de_var 4) (de_var 6)) da_nil)))))))) ds_nil))) (ds_cons (ds_ret (de_cmp (op_eqDD hr.units) (de_lenSet (by rfl) hr.units (by rfl) T.len (by rfl) T.set (de_var 2)) (de_bin op_mulD (de_callB cr_lenD (by rfl) T.len boot_len (da_cons (de_var 0) da_nil)) (de_callB cr_lenD (by rfl) T.len boot_len (da_cons (de_var 0) da_nil))) (nomark _))) ds_nil))))
end
end Dv
end
section
set_option linter.all false
set_option maxRecDepth 100000
set_option maxHeartbeats 4000000
/-! R1: a def whose code object is told. -/
namespace Dv
open PySem PySem.Spec PyProof.Rows L2 Evl
structure FunC (K : PySem.W.Frag) (x qual : Str) (st : Stmt) (f : Addr) (fd : FuncData) (c : Addr) : Prop where
  ex : ∃ (oc : Value) (od : Option Addr) (kV doc pm : Value) (an : Option Addr) (ct : Value) (osl : Array (Option Value)),
    fd = PySem.W.fnOf x qual (defArgs st) (defBody st) (defScope st) .none kV doc pm an (.ref c) ct ∧ K.lookup f = some ⟨oc, od, .func fd, osl⟩ ∧ PySem.W.codeIn K (.ref c) qual = true
  kp : PySem.W.keepIn K (.ref f) = true
theorem FunC.fn {K : PySem.W.Frag} {x qual : Str} {st : Stmt} {f c : Addr} {fd : FuncData} (F : FunC K x qual st f fd c) : Fun K x qual st f fd := by
  obtain ⟨⟨oc, od, kV, doc, pm, an, ct, osl, h1, h2, h3⟩, k⟩ := F
  exact ⟨⟨oc, od, kV, doc, pm, an, .ref c, ct, osl, h1, h2, h3⟩, k⟩
section
variable {P : Program} {w : World} {K : PySem.W.Frag} {mg : Str → Option Value} {base : Heap} {C : Nat → Addr} {k n : Nat} {x qual : Str} {st : Stmt} {f c : Addr} {fd : FuncData} {N ps : List Str} {g : SEnv → M Ctl}
/-- .. called by keywords, too -/
structure DefE2 (P : Program) (w : World) (K : PySem.W.Frag) (mg : Str → Option Value) (base : Heap) (C : Nat → Addr) (k : Nat) (x p1 p2 : Str) (f : List D → M D) : Prop where
  ex : ∃ (fa : Addr) (fd : FuncData), FnOk P w K mg base (L2.CX P w) k fa fd [p1, p2] (spE ⟨P, w, K⟩ C 2 f) ∧ mg x = some (.ref fa) ∧ PySem.W.keepIn K (.ref fa) = true ∧ Binds K fd [p1, p2] [] ∧ ∀ u v : Value, bindArgs fd ⟨[], [(p2, v), (p1, u)]⟩ = pure [(p1, u), (p2, v)]
theorem DefE2.one {p1 p2 : Str} {f : List D → M D} (F : DefE2 P w K mg base C k x p1 p2 f) : DefE P w K mg base C k x 2 f := by
  obtain ⟨fa, fd, h1, h2, h3, h4, _⟩ := F.ex
  exact ⟨fa, fd, [p1, p2], rfl, h1, h2, h3, h4⟩
theorem mk_defEC2 {p1 p2 : Str} (F : FunC K x qual st f fd c) (S : FnScope N [p1, p2] (defScope st)) (hb : L2.Binds K fd [p1, p2] []) (hk : ∀ u v : Value, bindArgs fd ⟨[], [(p2, v), (p1, u)]⟩ = pure [(p1, u), (p2, v)]) (hm : mg x = some (.ref f))
    (h : ∀ (A : Around) (outer : List PySem.Env) (s : Shared) (H : Hp) (E : XK), Room k (A.deeper (envOfC qual (defScope st) s.heap.objs.size f (.ref c))) →
      PSs (cxOf (L2.CX P w) P w K mg base N qual (defScope st) f (.ref c) A outer s H E) (defBody st) (tSE ⟨P, w, K⟩ C E g)) :
    DefE2 P w K mg base C (k + 1) x p1 p2 (runD N.length g) := by
  have hkp := F.kp
  obtain ⟨oc, od, kV, doc, pm, an, ct, osl, rfl, lk, hcd⟩ := F.ex
  refine ⟨f, _, fn_of lk hcd S (fun vs H Q E h => ?_) (fun A outer s H vs Q E hr hq => ⟨_, h A outer s H E hr, fnE_start hq⟩), hm, hkp, hb, hk⟩
  rw [h.1]
  rfl
theorem mk_defEC (F : FunC K x qual st f fd c) (S : FnScope N ps (defScope st)) (hb : L2.Binds K fd ps []) (hm : mg x = some (.ref f)) (hn : ps.length = n)
    (h : ∀ (A : Around) (outer : List PySem.Env) (s : Shared) (H : Hp) (E : XK), Room k (A.deeper (envOfC qual (defScope st) s.heap.objs.size f (.ref c))) →
      PSs (cxOf (L2.CX P w) P w K mg base N qual (defScope st) f (.ref c) A outer s H E) (defBody st) (tSE ⟨P, w, K⟩ C E g)) :
    DefE P w K mg base C (k + 1) x n (runD N.length g) := by
  have hkp := F.kp
  obtain ⟨oc, od, kV, doc, pm, an, ct, osl, rfl, lk, hcd⟩ := F.ex
  refine ⟨f, _, ps, hn, fn_of lk hcd S (fun vs H Q E h => ?_) (fun A outer s H vs Q E hr hq => ⟨_, h A outer s H E hr, fnE_start hq⟩), hm, hkp, hb⟩
  rw [h.1, hn]
end
end Dv
end
section
set_option linter.all false
set_option maxRecDepth 100000
set_option maxHeartbeats 4000000
/-! Q0: try .. except X as n, where the suite may keep the exception: it is tracked from then on. -/
namespace Kept
open PySem PySem.Spec PyProof.Rows L2
/-- an exception of the class cls stands at a -/
def excO (a : Addr) (cls : Value) (d : Option Addr) : HO := .ext fun h => ∃ (oe : Obj) (vs : Array Value), h.get? a = some oe ∧ Zc cls d oe ∧ oe.data = .fields vs
section
variable {X : Cx} {pins : List (Addr × Obj)} {σ : L2.St} {H : Hp} {s : Shared}
theorem track {a : Addr} {cls : Value} {d : Option Addr} {oe : Obj} {vs : Array Value} (J : Inv X pins σ H s) (ha : s.heap.get? a = some oe) (z : Zc cls d oe) (hd : oe.data = .fields vs) (na : H a = none) (n0 : X.s_0.heap.get? a = none) (nL : a ≠ X.env.locals)
    (np : ∀ p ∈ X.pn ++ pins, p.1 ≠ a) : Inv X pins σ (upd H a (excO a cls d)) s := by
  have off : ∀ b u, H b = some u → upd H a (excO a cls d) b = some u := fun b u e => by
    rw [upd_ne (ne_of_none e na)]
    exact e
  refine ⟨J.ok, J.os, J.bare, ⟨J.base.keep, J.base.slot, fun b o e n hx => ?_, J.base.there, fun b xs e => off b _ (J.base.tups b xs e), fun b o u e => off b _ (J.base.frzs b o u e), fun b ps e => ?_⟩, J.loc, J.cell, ?_, fun y c e => ?_, fun p hp => ?_, fun b u e => ?_, J.len⟩
  · have ne : b ≠ a := fun q => by
      rw [q, n0] at e
      cases e
    rw [upd_ne ne]
    exact J.base.free b o e n hx
  · obtain ⟨m, q⟩ := J.base.tbls b ps e
    exact ⟨m, off b _ q⟩
  · rw [upd_ne (Ne.symm nL)]
    exact J.free
  · obtain ⟨v, o, ho, hv⟩ := J.cell y c e
    have ne : c ≠ a := fun q => by
      rw [q, ha] at ho
      cases ho
      rw [hd] at hv
      cases hv
    rw [upd_ne ne]
    exact J.freeC y c e
  · obtain ⟨h1, h2, h3⟩ := J.pin p hp
    exact ⟨h1, by rw [upd_ne (np p hp)]; exact h2, h3⟩
  · by_cases hb : b = a
    · subst hb
      rw [upd_same] at e
      cases e
      exact ⟨⟨oe, vs, ha, z, hd⟩, ⟨oe, ha⟩, fun _ _ ⟨o, v, q, r⟩ k => ⟨o, v, k o q, r⟩⟩
    · rw [upd_ne hb] at e
      exact (J.hok b u e).stay (fun c v _ q => q) (fun c q => off c _ q) fun c xs q => off c _ q
theorem inSuite (J : Inv X pins σ H s) (a : Addr) : Inv (X.suite a (X.pn ++ pins)) [] σ H s :=
  ⟨J.ok.suite _ _, J.os, J.bare, J.base, J.loc, J.cell, J.free, J.freeC, fun p hp => J.pin p (by rw [List.append_nil] at hp; exact hp), J.hok, J.len⟩
theorem offSuite {a : Addr} {pn' : List (Addr × Obj)} (J : Inv (X.suite a (X.pn ++ pins)) pn' σ H s) (ok : X.Ok) : Inv X pins σ H s :=
  ⟨ok, J.os, J.bare, J.base, J.loc, J.cell, J.free, J.freeC, fun p hp => J.pin p (List.mem_append_left _ hp), J.hok, J.len⟩
end
/-- what 'except x as n' wishes of an exception of the body, where every one is caught: slot i is n's -/
def wKept (K : PySem.W.Frag) (m : Nat) (c : Value) (i : Nat) (ts : Addr → Value → Option Addr → TS) (D : Ends) : WX := fun cls d σ H => PySem.W.exmOne K cls c = some true ∧
  ∀ a, H a = none → σ.length = m → ts a cls d { nx := fun σ' H' => D.nx (σ'.set i none) H', rt := D.rt, bk := fun σ' H' => D.bk (σ'.set i none) H', ct := fun σ' H' => D.ct (σ'.set i none) H' } (σ.set i (some (.ref a))) (upd H a (excO a cls d))
section
variable {X : Cx} {x n : Str} {c : Value} {i : Nat} {body suite : List Stmt} {b1 : Stmt} {np pos pos' : Pos} {tb : WX → TS} {ts : Addr → Value → Option Addr → TS}
theorem ps_try_kept (hs : X.stack = X.env :: X.outer) (hf : X.env.frame = some X.env.locals) (hex0 : X.ex = []) (nd : X.N.Nodup) (hi : X.N[i]? = some n) (ln : X.env.kindOf n = some .local) (hc : Names X x c)
    (hb : ∀ (W : WX) (pn : List (Addr × Obj)) (xe : Value → Shared → Prop), Takes (X.tr pn xe) W → PassesOwn (model X.prog X.w) X.A X.env xe → PSs (X.tr pn xe) body (tb W))
    (hu : ∀ (a : Addr) (cls : Value) (d : Option Addr) (pn : List (Addr × Obj)), PSs (X.suite a pn) (b1 :: suite) (ts a cls d)) :
    PS X (.Try body [.ExceptHandler (some (.Name x np)) (some n) (b1 :: suite) pos'] [] [] pos) (fun D σ H => tb (wKept X.K X.N.length c i ts D) D σ H) := by
  refine ⟨fun pins s σ H D J h => ?_⟩
  have ok := J.ok
  have fr : X.A.frames = some (X.env :: X.outer) := ok.frames.trans (by rw [hs])
  have loc : Loc X.env.scope n := Or.inl ln
  apply wpAny_Try_except
  have run := (hb (wKept X.K X.N.length c i ts D) (X.pn ++ pins) (fun e t => wpAny (model X.prog X.w) X.A (noteFrame e X.env) (fun _ t2 => wpAny (model X.prog X.w) X.A (setFlight e none) (fun _ t3 =>
      wpAny (model X.prog X.w) X.A (handleBy e X.env [.ExceptHandler (some (.Name x np)) (some n) (b1 :: suite) pos']) (SP X pins D) X.xe t3) X.xe t2) X.xe t) ?_ PassesOwn.looking).run [] s σ H D (J.toTry _) h
  · refine wpAny_mono run (fun fl t ht => ?_) fun _ _ q => q
    cases fl with
    | next =>
      obtain ⟨σ1, H1, J1, q⟩ := ht
      exact wpAny_execs_nil ⟨σ1, H1, J1.ofTry ok, q⟩
    | brk =>
      obtain ⟨σ1, H1, J1, q⟩ := ht
      exact ⟨σ1, H1, J1.ofTry ok, q⟩
    | cont =>
      obtain ⟨σ1, H1, J1, q⟩ := ht
      exact ⟨σ1, H1, J1.ofTry ok, q⟩
    | ret u =>
      obtain ⟨v, σ1, H1, J1, r, q⟩ := ht
      exact ⟨v, σ1, H1, J1.ofTry ok, r, q⟩
  · rintro u t ⟨a, B, t0, ps0, σ1, H1, cls, d, rfl, J0, grd, up, sky, na, os, ag, hx, yes⟩
    have J1 : Inv X pins σ1 H1 t0 := J0.ofTry ok
    have sky1 : Sky B (X.env :: X.outer) a (Zc cls d) X.env.locals t.heap := hs ▸ sky
    show wpAny (model X.prog X.w) X.A (noteFrame (.ref a) X.env) _ _ _
    apply Sky.land Zc.steady fr hf sky1
    intro h3 f3 up3
    have J3 : Inv X pins σ1 H1 { t with heap := h3 } := J1.landed grd f3.1 (up.trans up3) os ag
    obtain ⟨o3, v3, g3, z3, d3⟩ := f3.there
    have offFr : a ∉ frs (X.env :: X.outer) := fun m => by
      obtain ⟨_, o', e', nf⟩ := f3.2.2.1.mem m
      rw [g3] at e'
      cases e'
      exact nf _ d3
    have nL : a ≠ X.env.locals := fun q => offFr (List.mem_filterMap.mpr ⟨X.env, List.mem_cons_self, by rw [hf, q]⟩)
    have nF : a ∉ X.fs := fun m => by
      obtain ⟨e, he, q⟩ := List.mem_filterMap.mp m
      exact offFr (List.mem_filterMap.mpr ⟨e, List.mem_cons_of_mem _ he, q⟩)
    have new0 : t0.heap.get? a = none := by
      cases e : t0.heap.get? a with
      | none => rfl
      | some o =>
        have := grd a o e (show a ∉ frs (X.tr _ _).stack from hs ▸ offFr)
        rw [f3.2.1] at this
        cases this
    have n0 : X.s_0.heap.get? a = none := by
      cases e : X.s_0.heap.get? a with
      | none => rfl
      | some o =>
        by_cases hex : a ∈ X.ex
        · exact absurd hex (by rw [hex0]; exact fun z => nomatch z)
        · obtain ⟨o', e'⟩ := J1.base.there a o e hex
          rw [new0] at e'
          cases e'
    have np0 : ∀ p ∈ X.pn ++ pins, p.1 ≠ a := fun p hp q => by
      have := (J1.pin p hp).1
      rw [q, new0] at this
      cases this
    have S3 := J3.suite g3 d3 na nL nF
    refine wpAny_handleBy_cons (codeAny_handlers_test ?_) (by intro q; cases q)
    have look : PySem.W.Looks (model X.prog X.w) h3 (typeOf (.ref a)) cls := fun A Q E s k q => wpAny_typeOf_ref (k _ _ g3) (by rw [z3.1]; exact q)
    have ask := PySem.W.exm_one (M := model X.prog X.w) J3.kIn look hx
    have name : ∀ {Q E : Value → Shared → Prop}, Q c { t with heap := h3 } → wpAny (model X.prog X.w) (X.A.mark (some (.ref a))) (eval (.Name x np) X.env) Q E { t with heap := h3 } := fun {Q E} q => by
      obtain ⟨hg, hdb, hm | ⟨hm, hv, hnn⟩⟩ := hc
      · exact ld_glob (X := X.suite a ((a, o3) :: (X.pn ++ pins))) S3 hg hm q hdb
      · exact ld_blt (X := X.suite a ((a, o3) :: (X.pn ++ pins))) S3 hg hm hv q hnn hdb
    apply name
    apply ask.here
    apply codeAny_handlers_suite_as
    apply HandSPX.lands_againZ f3
    intro h4 f4 up4
    have J4 : Inv X pins σ1 H1 { t with heap := h4 } := J1.landed grd f4.1 ((up.trans up3).trans up4) os ag
    obtain ⟨o4, v4, g4, z4, d4⟩ := f4.there
    have S4 := inSuite (track J4 g4 z4 d4 na n0 nL np0) a
    refine store_ok (X := X.suite a (X.pn ++ pins)) (v := .ref a) S4 nd hi loc rfl (fun t5 S5 => ?_) (.inr ln)
    have fin : ∀ {σ6 : L2.St} {H6 : Hp} {t6 : Shared} {R : Shared → Prop}, Inv (X.suite a (X.pn ++ pins)) [] σ6 H6 t6 → (∀ t7, Inv X pins (σ6.set i none) H6 t7 → R t7) →
        wpAny (model X.prog X.w) X.A (do bindName X.env n .none; unbindBehindTheSuite X.env n pos') (fun _ t7 => R t7) X.xe t6 := fun S6 hr => gone_ok (offSuite S6 ok) nd hi ln hr
    refine wpAny_mono ((hu a cls d (X.pn ++ pins)).run [] t5 _ _ _ S5 (yes a na J1.len)) (fun fl t6 h6 => ?_) (fun _ _ q => q.elim)
    cases fl with
    | next =>
      obtain ⟨σ6, H6, S6, q6⟩ := h6
      exact fin S6 fun t7 J7 => ⟨_, _, J7, q6⟩
    | brk =>
      obtain ⟨σ6, H6, S6, q6⟩ := h6
      exact fin S6 fun t7 J7 => ⟨_, _, J7, q6⟩
    | cont =>
      obtain ⟨σ6, H6, S6, q6⟩ := h6
      exact fin S6 fun t7 J7 => ⟨_, _, J7, q6⟩
    | ret u =>
      obtain ⟨v6, σ6, H6, S6, r6, q6⟩ := h6
      exact fin S6 fun t7 J7 => ⟨_, _, _, J7, r6, q6⟩
end
end Kept
end
section
set_option linter.all false
set_option maxRecDepth 100000
set_option maxHeartbeats 4000000
/-! Q1: a lambda without parameters handed to a def that calls it and keeps what it raises; isinstance of that. -/
namespace Kept
open PySem PySem.Spec PyProof.Rows L2 LamX
/-- what the def makes of the lambda's reading -/
def TKept (K : PySem.W.Frag) (CS : Addr) : (XK → Hp → VK → Prop) → Hp → VK → Prop := fun tl H Q => ∀ R : VK, (∀ u H', Q .non H' → R u H') →
  tl (fun cls d H' => PySem.W.exmOne K cls (.ref CS) = some true ∧ ∀ a, H' a = none → Q (.ref a) (upd H' a (excO a cls d))) H R
section
variable {X : Cx}
theorem kept_gives {x a v e c q : Str} {sg : Scope} {g CS : Addr} {cdg : Value} {j : Nat} {p1 p2 p3 p4 p5 p6 p7 p8 p9 p10 p11 p12 p13 p14 : Pos} (hgc : sg.names.lookup c = some .globalImplicit) (hmc : X.mg c = some (.ref CS)) (hdc : (c == ("__debug__" : Str)) = false)
    (nd : [a, v, e].Nodup) (la : sg.names.lookup a = some .local) (lv : sg.names.lookup v = some .local) (le : sg.names.lookup e = some .local) (hdv : (v == ("__debug__" : Str)) = false) (hcv : (v == ("__classdict__" : Str)) = false) (hde : (e == ("__debug__" : Str)) = false) (hce : (e == ("__classdict__" : Str)) = false) :
    GivesTo X [a, v, e] x sg g cdg [.Assign [.Name v p1] (.Constant .none j p2) p3, .Try [.Expr (.Call (.Name a p4) [] [] p5) p6] [.ExceptHandler (some (.Name c p7)) (some e) [.Assign [.Name v p8] (.Name e p9) p10] p11] [] [] p12, .Return (some (.Name v p13)) p14] a q (TKept X.K CS) := by
  intro f b s H Q tl act hb h
  have hgl : Gl (cxOf C8.CX0 X.prog X.w X.K X.mg X.base [a, v, e] x sg g cdg X.A X.stack s H C8.E0).nox c := hgc
  refine ⟨_, pss_cons (ps_set (i := 1) nd rfl (.inl lv) pe_non rfl (.inr lv)) (pss_cons (ps_try_kept (X := (cxOf C8.CX0 X.prog X.w X.K X.mg X.base [a, v, e] x sg g cdg X.A X.stack s H C8.E0).nox) (i := 2) (c := .ref CS)
      (tb := fun W D σ H => ∃ Ech : XK, (∀ cls d σ' H', Ech cls d H' → W cls d σ' H') ∧ σ[0]? = some (some (.ref f)) ∧ H b = some (CodeO b q) ∧ tl Ech H fun _ H' => D.nx σ H')
      (ts := fun _ _ _ => tAsg (tVar 2) (gName 1)) rfl rfl rfl nd rfl le ⟨hgl, hdc, .inl hmc⟩ (fun W pn xe tk _ => ?_) (fun y cls d pn => pss_one (ps_set (i := 1) nd rfl (.inl lv) (pe_var (i := 2) rfl (.inl le) hde hce) rfl (.inr lv))))
    (pss_one (ps_ret (pe_var (i := 1) rfl (.inl lv) hdv hcv)))), ?_⟩
  · refine ⟨fun pins s' σ H' D I h' => ?_⟩
    obtain ⟨Ech, hW, h1, h2, h3⟩ := h'
    have hp := act W pn xe Ech p4 p5 tk hW
    have hq := pss_one (ps_expr (pos := p6) hp)
    exact hq.run pins s' σ H' D I ⟨h1, h2, h3⟩
  · refine ⟨fun cls d H' => PySem.W.exmOne X.K cls (.ref CS) = some true ∧ ∀ y, H' y = none → Q (.ref y) (upd H' y (excO y cls d)), fun cls d σ' H' ⟨e1, e2⟩ => ⟨e1, fun y ny hl => ⟨.ref y, ?_, .ref y, ?_, e2 y ny⟩⟩, rfl, hb, ?_⟩
    · have hl : σ'.length = 3 := hl
      exact List.getElem?_set_self (by omega)
    · have hl : σ'.length = 3 := hl
      show ((((σ'.set 2 (some (.ref y))).set 1 (some (.ref y))).set 2 none))[1]? = _
      rw [List.getElem?_set_ne (by omega), List.getElem?_set_self (by rw [List.length_set]; omega)]
    · exact h _ fun u H' hq => ⟨.non, rfl, hq⟩
end
end Kept
end
section
set_option linter.all false
set_option maxRecDepth 100000
set_option maxHeartbeats 4000000
/-! Q2: x(lambda: e): the rule, the table told in full. -/
namespace Kept
open PySem PySem.Spec PyProof.Rows L2 LamX
def tLamY (P : Addr) (q : Str) (TT : (XK → Hp → VK → Prop) → Hp → VK → Prop) (t : XK → TE) : TE := fun σ H Q => ∃ ps : Array Value, H P = some (.tbl ps) ∧ TriplesOk ps.toList ∧
  (∀ (pos : Pos) (cv : Value), codeAmong pos ps.toList = some cv → ∃ b, cv = .ref b ∧ H b = some (CodeO b q)) ∧ ∀ H1 b, LamY.Grew H H1 P ps b q → TT (fun E H' Q' => t E σ H' Q') H1 Q
section
variable {X : Cx} {TT : (XK → Hp → VK → Prop) → Hp → VK → Prop} {x a : Str} {g c P : Addr} {k : Nat} {st : Stmt} {fdg : FuncData} {Ng : List Str} {prm : Arguments} {bd : Expr} {sc : Scope} {t : XK → TE} {p lpos pos : Pos}
theorem pe_lamY (hg : Gl X x) (hm : X.mg x = some (.ref g)) (F : Fun X.K x x st g fdg) (hb : L2.Binds X.K fdg [a] []) (S : FnScope Ng [a] (defScope st)) (hN : Ng[0]? = some a) (hv : Vis (defScope st) a)
    (hG : ∀ cdv, GivesTo X Ng x (defScope st) g cdv (defBody st) a (X.env.qual ++ "<lambda>") TT) (tb : TabB X.base X.mg c P) (hcode : X.env.code = .ref c) (hr : Room (k + 2) X.A) (L : LamS X.env.scope sc) (hD : defaultsOf prm X.env = ([], []))
    (hbind : ∀ (q : Str) (cl : List (Str × Addr)) (pm cv ctv : Value), bindArgs (PySem.W.kla_fn "<lambda>" q prm bd sc cl pm cv ctv) ⟨[], []⟩ = pure [])
    (hbody : ∀ (A : Around) (outer : List Env) (s : Shared) (H : Hp) (E : XK) (f b : Addr), Room k (A.deeper (lamEnv X sc s.heap.objs.size f b)) → PE (lamCx X A outer s H E sc f b) bd (t E))
    (hdb : (x == ("__debug__" : Str)) = false := by decide) (hd : (a == ("__debug__" : Str)) = false := by decide) (hcd : (a == ("__classdict__" : Str)) = false := by decide) :
    PE X (.Call (.Name x p) [.Lambda prm bd sc lpos] [] pos) (tLamY P (X.env.qual ++ "<lambda>") TT t) := by
  obtain ⟨oc, od, kV, doc, pmg, an, cdv, ct, osl, rfl, lk, hcg⟩ := F.ex
  refine ⟨fun pins s σ H Q J h => ?_⟩
  obtain ⟨ps, hT, t3, hA, h⟩ := h
  apply wpAny_Call_Name_kw
  refine ld_glob J hg hm ?_ hdb
  refine PySem.W.callWith_K (h₀ := X.base) J.ok.mod.kin F.kp ?_ (by rfl) (by rfl)
  show wpAny _ _ (spliced ((false, eval (.Lambda prm bd sc lpos) X.env) :: backTo pos (starEach [] X.env))) _ _ s
  apply Calls.spliced_cons
  refine LamY.made J tb hcode hT t3 hA hD (L.has J.ok) fun f b pm ctv H1 s1 J1 gw hf nf nfr => ?_
  refine Calls.spliced_nil ⟨J1.kIn, ?_⟩
  have hco : H1 b = some (CodeO b (X.env.qual ++ "<lambda>")) := by
    rcases gw with ⟨rfl, e⟩ | ⟨_, _, rfl, _⟩
    · exact e
    · exact upd_same
  have rc : codeAny (model X.prog X.w) X.A (.call (.ref g) ⟨[.ref f], []⟩) (CR C8.CX0 X.stack X.prog X.w H1 s1 Q C8.E0) s1 := by
    refine run_ofS (N := Ng) (ps := [a]) (us := [.ref f]) (vs := [.ref f]) lk hcg S hr J1.env0 (hb s1 [.ref f] J1.kIn rfl) (.cons rfl .nil) rfl fun hr1 => ?_
    obtain ⟨t1, ht1, hq1⟩ := hG cdv f b s1 H1 Q (fun E H' Q' => t E σ H' Q') (fun W pn xe E p1 p2 tk hW => pe_act (i := 0) J1 L hf nf nfr (hbind _ _ _ _ _) tk hW hr1 (fun A outer s H hr2 => hbody A outer s H E f b hr2) hN hv hd hcd) hco (h H1 b gw)
    exact ⟨t1, ht1.nox, hq1⟩
  apply wpAny_call
  refine codeAny_mono rc fun r s2 hq => ?_
  cases r with
  | error e => exact (show False from hq).elim
  | ok fl =>
    cases fl with
    | ret u => exact J1.after hq
    | next => exact hq.elim
    | brk => exact hq.elim
    | cont => exact hq.elim
end
/-! ### isinstance of what was kept -/
/-- isinstance(x, C), x None or a kept exception -/
def rIsK (K : PySem.W.Frag) : List V → Hp → VK → Prop := fun xs H Q => ∃ (x c : V) (cv : Value) (b : Bool), xs = [x, c] ∧ ClsV c cv ∧ Q (.bl b) H ∧
  ((x = .non ∧ PySem.W.kitOne K (.type "NoneType") cv = some b) ∨ ∃ a D, x = .ref a ∧ ExcC K D ∧ H a = some (excO a (.ref D) none) ∧ PySem.W.kitOne K (.ref D) cv = some b)
theorem call_isK {X : Cx} : CallR X (.builtin "isinstance") (rIsK X.K) := by
  intro pins s σ H xs us Q J r h
  obtain ⟨x, c, cv, b, rfl, hc, q, h⟩ := h
  rcases h with ⟨rfl, e⟩ | ⟨a, D, rfl, C, hH, e⟩
  · exact call_isi pins s σ H _ _ Q J r ⟨.non, c, _, cv, b, rfl, hc, .base .non, e, q⟩
  · cases r with
    | cons rx rr =>
      cases rr with
      | cons rt rr =>
        cases rr
        cases rx
        have ec := hc.eq rt
        subst ec
        obtain ⟨oe, vs, hget, hz, hv⟩ := (J.hok a _ hH).1
        have inst : PySem.W.InstAt s.heap a oe D none := by
          obtain ⟨oc, od, oda, osl⟩ := oe
          obtain ⟨h1, h2⟩ := hz
          dsimp only at h1 h2 hv
          subst h1 h2 hv
          exact ⟨hget, rfl, rfl, trivial⟩
        exact PySem.W.kia_one (PySem.W.handS_kitx_exc C.hg C.hk C.hs C.hd C.ha C.hn C.ht C.hm) J.kIn inst e (fun z => nomatch z) fun tk => ⟨.bl b, H, J.kept (t' := tk) fun _ _ z => z, rfl, q⟩
end Kept
end
section
set_option linter.all false
set_option maxRecDepth 100000
set_option maxHeartbeats 4000000
/-! S0: a draw. -/
namespace Dv
open PySem PySem.Spec PyProof.Rows L2 Evl
/-- the state, H0 kept but for it -/
structure DS (Z : Zs) (H0 H : Hp) (ls cs : List Int) (x t : Int) : Prop where
  keep : ∀ a o, H0 a = some o → ¬ Z.has a → H a = some o
  hp : H Z.p = some (.dK (stKvs Z.l Z.c x t))
  hl : H Z.l = some (.lst (ls.map V.int))
  hc : H Z.c = some (.lst (cs.map V.int))
  tb : ∀ p ∈ tbl0, (∃ ps, H p.1 = some (.tbl ps)) ∧ H p.1 = H0 p.1
section
variable {Z : Zs} {H0 H : Hp} {ls cs : List Int} {x t : Int}
theorem stKvs_ne {l c : Addr} {x t : Int} {v : HO} (h : some (HO.dK (stKvs l c x t)) = some v) (w : List V) : v ≠ .lst w := fun z => by
  rw [z] at h
  cases h
theorem DS.pl (d : DS Z H0 H ls cs x t) : Z.p ≠ Z.l := fun z => by
  have := d.hp
  rw [z, d.hl] at this
  cases this
theorem DS.pc (d : DS Z H0 H ls cs x t) : Z.p ≠ Z.c := fun z => by
  have := d.hp
  rw [z, d.hc] at this
  cases this
theorem DS.alloc (d : DS Z H0 H ls cs x t) {q : Addr} {o : HO} (h : H q = none) : DS Z H0 (upd H q o) ls cs x t :=
  ⟨fun a u e n => Ex.new h a u (d.keep a u e n), Ex.new h _ _ d.hp, Ex.new h _ _ d.hl, Ex.new h _ _ d.hc, fun p hp => by
    obtain ⟨⟨ps, e⟩, e2⟩ := d.tb p hp
    have : p.1 ≠ q := fun z => by rw [z, h] at e; cases e
    rw [upd_ne this]
    exact ⟨⟨ps, e⟩, e2⟩⟩
theorem DS.tbNe (d : DS Z H0 H ls cs x t) {a : Addr} {o : HO} (h : H a = some o) (no : ∀ ps, o ≠ .tbl ps) (u : HO) : ∀ p ∈ tbl0, (∃ ps, upd H a u p.1 = some (.tbl ps)) ∧ upd H a u p.1 = H0 p.1 := fun p hp => by
  obtain ⟨⟨ps, e⟩, e2⟩ := d.tb p hp
  have : p.1 ≠ a := fun z => by rw [z, h] at e; exact no ps (Option.some.inj e)
  rw [upd_ne this]
  exact ⟨⟨ps, e⟩, e2⟩
theorem DS.kvs (d : DS Z H0 H ls cs x t) (on : Z.on = true) (y u : Int) : DS Z H0 (upd H Z.p (.dK (stKvs Z.l Z.c y u))) ls cs y u :=
  ⟨fun a o e n => by rw [upd_ne fun z => n (.inl ⟨on, .inl z⟩)]; exact d.keep a o e n, upd_same, by rw [upd_ne (Ne.symm d.pl)]; exact d.hl, by rw [upd_ne (Ne.symm d.pc)]; exact d.hc, d.tbNe d.hp (fun _ z => by cases z) _⟩
theorem DS.large (d : DS Z H0 H ls cs x t) (on : Z.on = true) (hlc : Z.l ≠ Z.c) (ms : List Int) : DS Z H0 (upd H Z.l (.lst (ms.map V.int))) ms cs x t :=
  ⟨fun a o e n => by rw [upd_ne fun z => n (.inl ⟨on, .inr (.inl z)⟩)]; exact d.keep a o e n, by rw [upd_ne d.pl]; exact d.hp, upd_same, by rw [upd_ne (Ne.symm hlc)]; exact d.hc, d.tbNe d.hl (fun _ z => by cases z) _⟩
theorem DS.gLeft (d : DS Z H0 H ls cs x t) : DGet H Z.p (.str "left") (some (.int x)) := .inl ⟨_, .inr "left", .inl d.hp, rfl, rfl⟩
theorem DS.gTurn (d : DS Z H0 H ls cs x t) : DGet H Z.p (.str "turn") (some (.int t)) := .inl ⟨_, .inr "turn", .inl d.hp, rfl, rfl⟩
theorem DS.gLarge (d : DS Z H0 H ls cs x t) : DGet H Z.p (.str "large") (some (.ref Z.l)) := .inl ⟨_, .inr "large", .inl d.hp, rfl, rfl⟩
theorem DS.gCells (d : DS Z H0 H ls cs x t) : DGet H Z.p (.str "cells") (some (.ref Z.c)) := .inl ⟨_, .inr "cells", .inl d.hp, rfl, rfl⟩
theorem DS.pLeft (d : DS Z H0 H ls cs x t) (y : Int) : DPut H Z.p (.str "left") (.int y) (upd H Z.p (.dK (stKvs Z.l Z.c y t))) := .inl ⟨_, .inr "left", d.hp, rfl, by show 4 < sizeLine; decide, rfl⟩
theorem DS.pTurn (d : DS Z H0 H ls cs x t) (y : Int) : DPut H Z.p (.str "turn") (.int y) (upd H Z.p (.dK (stKvs Z.l Z.c x y))) := .inl ⟨_, .inr "turn", d.hp, rfl, by show 4 < sizeLine; decide, rfl⟩
end
theorem dp_ints {K : PySem.W.Frag} {H : Hp} : ∀ ns : List Int, DpAll K H (ns.map V.int) (ns.map PyData.int)
  | [] => .nil
  | n :: r => .cons (.int n) (dp_ints r)
theorem lay_ints : ∀ ns : List Int, PyData.canLayAll0 (ns.map PyData.int) = true ∧ PyData.depthAll (ns.map PyData.int) = 0
  | [] => by simp [PyData.canLayAll0, PyData.depthAll]
  | n :: r => by
    obtain ⟨h1, h2⟩ := lay_ints r
    simp [PyData.canLayAll0, PyData.depthAll, PyData.canLay0, PyData.depth, h1, h2]
theorem shaped_ints (ns : List Int) : SeqAt.shaped (.list (ns.map PyData.int)) = true := by
  obtain ⟨h1, h2⟩ := lay_ints ns
  show (PyData.canLay0 (.list (ns.map PyData.int)) && decide (PyData.depth (.list (ns.map PyData.int)) ≤ 64)) = true
  simp [PyData.canLay0, PyData.depth, h1, h2]
theorem eqv_nil (ns : List Int) : PyData.eqv (.list (ns.map PyData.int)) (.list []) = ns.isEmpty := by
  cases ns <;> simp [PyData.eqv, PyData.eqvAll]
/-- xs != [] -/
theorem ne_nil {K : PySem.W.Frag} {H : Hp} {Q : VK} {l : Addr} {ns : List Int} (h : H l = some (.lst (ns.map V.int))) {q : Addr} (hq : H q = some (.lst [])) (k : Q (.bl (!ns.isEmpty)) H) : rNeD K (.ref l) (.ref q) H Q :=
  ⟨.list (ns.map .int), .list [], .lst (SqL.of h) (dp_ints ns), .lst (SqL.of hq) .nil, shaped_ints ns, shaped_ints [], by rw [eqv_nil]; exact k⟩
theorem sc_draw : FnScope ["_law_state", "_law_size_here", "_law_found", "_law_turn", "_law_cell", "_law_mixed_here"] ["_law_state", "_law_size_here"] (defScope (top 71)) := ⟨rfl, rfl, rfl, by decide +kernel, rfl, by decide +kernel, by decide +kernel⟩
/-- a whole number of a whole number -/
def rInt1 : List V → Hp → VK → Prop := fun xs H Q => (∃ i, xs = [V.int i] ∧ Q (V.int i) H) ∨ ∃ k, xs = [V.bl k] ∧ Q (V.int (if k = true then 1 else 0)) H
def rLen (K : PySem.W.Frag) : List V → Hp → VK → Prop := fun xs H Q => ∃ p ys, xs = [V.ref p] ∧ (SqL K H p ys ∨ SqT K H p ys) ∧ Q (V.int ys.length) H
def rMod := rI (fun _ j => 0 < j) fun i j => V.int (i % j)
def rAdd := rI0 fun i j => V.int (i + j)
def tInt (a : TE) : TE := tCB rInt1 (tCons a tNil)
def tSt (k : String) : TE := tDGet (tVar 0) (tC (V.str (Str.ofString k)))
def tl5 : TS :=
  tSeq (tAsg (tOp rMod (tInt (tOp (rI CPow fun i j => V.int (i ^ j.toNat)) (tOp rAdd (tOp rAdd (tOp rMod (tInt (tVar 4)) (tC (V.int 2147483563))) (tOp (rI CMul fun i j => V.int (i * j)) (tC (V.int 40692)) (tVar 3))) (tC (V.int 24681))) (tC (V.int 3)))) (tC (V.int 2147483629))) (gName 5))
            (tRet (tOp rMod (tInt (tOp (rI CDiv fun i j => V.int (i / j)) (tOp rMod (tInt (tOp (rI CPow fun i j => V.int (i ^ j.toNat)) (tOp rAdd (tVar 5) (tOp (rI CMul fun i j => V.int (i * j)) (tC (V.int 104917)) (tVar 3))) (tC (V.int 5)))) (tC (V.int 2147483579))) (tC (V.int 29)))) (tVar 1)))
/-- what stands behind the loop of a draw -/
def tlD (K : PySem.W.Frag) : TS :=
  tSeq (tIfS (tTest (tOp (rI0 fun i j => V.bl (decide (j < i))) (tSt "left") (tC (V.int 0))))
      (tSeq (tAsg (tOp rMod (tInt (tSt "left")) (tVar 1)) (gName 2))
        (tSeq (sDPut (tVar 0) (tC (V.str (Str.ofString "left"))) (tOp (rI CDiv fun i j => V.int (i / j)) (tSt "left") (tVar 1))) (tRet (tVar 2)))) tNext)
    (tSeq (tAsg (tOp rAdd (tSt "turn") (tC (V.int 1))) (gName 3))
      (tSeq (sDPut (tVar 0) (tC (V.str (Str.ofString "turn"))) (tVar 3))
        (tSeq (tAsg (tIf (tTest (tOp (rNeD K) (tSt "cells") (tLst tNil)))
            (tOp (rIxL K) (tSt "cells") (tOp rMod (tInt (tVar 3)) (tCB (rLen K) (tCons (tSt "cells") tNil)))) (tC (V.int 0))) (gName 4))
          tl5)))
/-- a draw -/
def m__law_draw : List D → M D
  | [.st, .int k] => match k with
    | .ofNat n => .ask n fun i => .ret (.int (i : Nat))
    | _ => .bad
  | _ => .bad
theorem DS.gr {Z : Zs} {W : Wd} {H' : Hp} {ls cs : List Int} {x t : Int} (g : Gd Z W) (on : Z.on = true) (d : DS Z W.H H' ls cs x t) (hlc : Z.l ≠ Z.c) (ht : 0 ≤ t) (htn : t + (W.n - 1 : Nat) ≤ 1000000) (hx : 0 ≤ x) (hls : ∀ i ∈ ls, 0 ≤ i) (hcl : cs.length ≤ 1000) (hll : ls.length ≤ 1000) : Gr Z W ⟨W.F, H', W.n - 1⟩ := by
  refine ⟨Ex.refl _, d.keep, fun a e e' => absurd e e', ⟨fun a o e => d.keep a o (g.sub a o e) fun z => ?_, fun _ => ⟨ls, cs, x, t, d.hp, d.hl, d.hc, hlc, ht, htn, hx, hls, hcl, hll⟩, g.zf, fun p hp => (g.tab p hp).mono (Ex.refl _) (d.tb p hp).2⟩⟩
  have := g.zf a z
  rw [this] at e
  cases e
section
variable {P : Program} {w : World} {K : PySem.W.Frag} {mg : Str → Option Value} {base : Heap}
theorem d__law_draw (T : Txt mg) {f : Addr} {fd : FuncData} (F : Fun K "_law_draw" "_law_draw" (top 71) f fd) (hb : L2.Binds K fd ["_law_state", "_law_size_here"] []) (hm : mg "_law_draw" = some (.ref f)) : Def P w K mg base 1 "_law_draw" 2 m__law_draw := by
  refine ⟨f, fd, _, rfl, F.ok sc_draw (fun vs H Q E h => h.1) (fun cdv A outer s H vs Q E hr hq => ?_), hm, F.kp, hb⟩
  have nd := sc_draw.nd
  have hu := hr.u1
  have lc : ∀ {sc : Scope} {x : Str}, sc.names.lookup x = some .local → Loc sc x := fun h => .inl h
  refine ⟨_, pss_cons (ps_while PassesOwn.never (PW.pt (pw_and (pt_cmpR op_eq (pe_dget hu (pv 0) pe_str (by intro _ _; rfl)) pe_int (nomark _)) (pw_and1 (pt_cmpR (op_neD hr.units) (pe_dget hu (pv 0) pe_str (by intro _ _; rfl)) (pe_lst pa_nil) (nomark _)))))
      (pss_one (ps_dput hu (pv 0) pe_str (pe_bm PySem.F.plainAttrs_list PySem.F.slot_list_pop PySem.F.type_list_pop mt_popAt (pe_dget hu (pv 0) pe_str (by intro _ _; rfl)) (pa_cons pe_int pa_nil)) (by rfl))))
    (pss_cons (ps_if (pt_cmpR op_gt (pe_dget hu (pv 0) pe_str (by intro _ _; rfl)) pe_int (nomark _))
      (pss_cons (ps_set (i := 2) nd rfl (.inl rfl) (pe_op op_mod (pe_callTy call_int1 rfl T.int boot_int (pa_cons (pe_dget hu (pv 0) pe_str (by intro _ _; rfl)) pa_nil)) (pv 1)))
        (pss_cons (ps_dput hu (pv 0) pe_str (pe_op op_fdiv (pe_dget hu (pv 0) pe_str (by intro _ _; rfl)) (pv 1)) (by rfl)) (pss_one (ps_ret (pv 2))))) pss_nil)
    (pss_cons (ps_set (i := 3) nd rfl (.inl rfl) (pe_op op_add (pe_dget hu (pv 0) pe_str (by intro _ _; rfl)) pe_int))
    (pss_cons (ps_dput hu (pv 0) pe_str (pv 3) (by rfl))
    (pss_cons (ps_set (i := 4) nd rfl (.inl rfl) (pe_ifExp (pt_cmpR (op_neD hr.units) (pe_dget hu (pv 0) pe_str (by intro _ _; rfl)) (pe_lst pa_nil) (nomark _))
      (pe_ix ix_list (pe_dget hu (pv 0) pe_str (by intro _ _; rfl)) (pe_op op_mod (pe_callTy call_int1 rfl T.int boot_int (pa_cons (pv 3) pa_nil)) (pe_callB call_len_seq rfl T.len boot_len (pa_cons (pe_dget hu (pv 0) pe_str (by intro _ _; rfl)) pa_nil))) (by intro _ _; rfl)) pe_int))
    (pss_cons (ps_set (i := 5) nd rfl (.inl rfl) (pe_op op_mod (pe_callTy call_int1 rfl T.int boot_int (pa_cons (pe_op op_pow (pe_op op_add (pe_op op_add (pe_op op_mod (pe_callTy call_int1 rfl T.int boot_int (pa_cons (pv 4) pa_nil)) pe_int) (pe_op op_mul pe_int (pv 3))) pe_int) pe_int) pa_nil)) pe_int))
    (pss_one (ps_ret (pe_op op_mod (pe_callTy call_int1 rfl T.int boot_int (pa_cons (pe_op op_fdiv (pe_op op_mod (pe_callTy call_int1 rfl T.int boot_int (pa_cons (pe_op op_pow (pe_op op_add (pv 5) (pe_op op_mul pe_int (pv 3))) pe_int) pa_nil)) pe_int) pe_int) pa_nil)) (pv 1))))))))), ?_⟩
  obtain ⟨hlv, Z, W, ds, hW, g, r, hw⟩ := hq
  subst hW
  unfold m__law_draw at hw
  split at hw
  · rename_i k
    obtain ⟨v1, v2, rfl, r1, r2⟩ := rep2 r
    cases r2
    split at hw
    · rename_i n
      obtain ⟨hk0, hk1, hn0, hw⟩ := hw
      cases r1 with
      | st on =>
      obtain ⟨ls0, cs, x0, t, h1, h2, h3, hlc, ht, htn, hx0, hls0, hcl, hll0⟩ := g.st on
      -- the end, at an answer below the size
      have fin : ∀ (H' : Hp) (ls : List Int) (x u i : Int), DS Z W.H H' ls cs x u → (u = t ∨ u = t + 1) → 0 ≤ x → (∀ i ∈ ls, 0 ≤ i) → ls.length ≤ 1000 → 0 ≤ i → i < (n : Int) → Q (.int i) H' := fun H' ls x u i d hu hx hls hll hi0 hin => by
        obtain ⟨j, rfl⟩ := Int.eq_ofNat_of_zero_le hi0
        refine hw j (by omega) _ _ _ (d.gr g on hlc (by omega) ?_ hx hls hcl hll) (.int _)
        have : ((W.n - 1 : Nat) : Int) = W.n - 1 := by omega
        rcases hu with rfl | rfl <;> omega
      have hnp : (0 : Int) < (n : Int) := by omega
      refine ⟨fun m σ H' => σ = [some (.ref Z.p), some (.int (n : Nat)), none, none, none, none] ∧ ∃ ls x, DS Z W.H H' ls cs x t ∧ m = ls.length ∧ 0 ≤ x ∧ (∀ i ∈ ls, 0 ≤ i) ∧ ls.length ≤ 1000,
        ⟨_, rfl, ls0, x0, ⟨fun a o e _ => e, h1, h2, h3, fun p hp => ⟨let ⟨ps, e, _⟩ := g.tab p hp; ⟨ps, e⟩, rfl⟩⟩, rfl, hx0, hls0, hll0⟩, ?_⟩
      rintro m σ H' ⟨rfl, ls, x, d, rfl, hx, hls, hll⟩
      -- behind the loop
      have rest : ∀ H', DS Z W.H H' ls cs x t → tlD K { nx := fun x H' => Q V.non H', rt := Q } [some (.ref Z.p), some (.int (n : Nat)), none, none, none, none] H' := fun H' d => by
        refine ⟨.ref Z.p, rfl, Z.p, .int x, rfl, d.gLeft, x, 0, rfl, rfl, _, rfl, ?_⟩
        by_cases hxp : 0 < x
        · rw [show decide (0 < x) = true from decide_eq_true hxp]
          simp only [if_true]
          refine ⟨.ref Z.p, rfl, Z.p, .int x, rfl, d.gLeft, .inl ⟨x, rfl, .int (n : Nat), rfl, x, (n : Nat), rfl, rfl, hnp, ?_⟩⟩
          refine ⟨.ref Z.p, rfl, Z.p, .int x, rfl, d.gLeft, .int (n : Nat), rfl, x, (n : Nat), rfl, rfl, ?_, .ref Z.p, rfl, Z.p, _, rfl, d.pLeft (x / (n : Int)), .int (x % (n : Int)), rfl, ?_⟩
          · exact ⟨by omega, by omega⟩
          exact fin _ ls _ t _ (d.kvs on _ _) (.inl rfl) (Int.ediv_nonneg hx (by omega)) hls hll (Int.emod_nonneg _ (by omega)) (Int.emod_lt_of_pos _ hnp)
        · rw [show decide (0 < x) = false from decide_eq_false hxp]
          have fin5 : ∀ (H' : Hp) (c : Int), DS Z W.H H' ls cs x (t + 1) → tl5 { nx := fun x H' => Q V.non H', rt := Q } [some (.ref Z.p), some (.int (n : Nat)), none, some (.int (t + 1)), some (.int c), none] H' := fun H' c d => by
            have m1 := Int.emod_nonneg c (b := 2147483563) (by omega)
            have m2 := Int.emod_lt_of_pos c (b := 2147483563) (by omega)
            refine ⟨.int c, rfl, .inl ⟨c, rfl, c, 2147483563, rfl, rfl, (by omega : (0 : Int) < 2147483563), ?_⟩⟩
            refine ⟨.int (t + 1), rfl, 40692, t + 1, rfl, rfl, .inl ⟨by omega, by omega⟩, _, _, rfl, rfl, _, _, rfl, rfl, _, _, rfl, rfl, ⟨by omega, by omega, ?_⟩, .inl ⟨_, rfl, _, 2147483629, rfl, rfl, (by omega : (0 : Int) < 2147483629), ?_⟩⟩
            · omega
            generalize hb5 : (c % 2147483563 + 40692 * (t + 1) + 24681) ^ (3 : Int).toNat = b
            have m3 := Int.emod_nonneg b (b := 2147483629) (by omega)
            have m4 := Int.emod_lt_of_pos b (b := 2147483629) (by omega)
            refine ⟨_, rfl, .int (t + 1), rfl, 104917, t + 1, rfl, rfl, .inl ⟨by omega, by omega⟩, _, _, rfl, rfl, _, 5, rfl, rfl, ⟨by omega, by omega, ?_⟩, .inl ⟨_, rfl, _, 2147483579, rfl, rfl, (by omega : (0 : Int) < 2147483579), ?_⟩⟩
            · omega
            refine ⟨_, 29, rfl, rfl, ⟨by omega, by omega⟩, .inl ⟨_, rfl, .int (n : Nat), rfl, _, (n : Nat), rfl, rfl, hnp, ?_⟩⟩
            exact fin _ ls x (t + 1) _ d (.inr rfl) hx hls hll (Int.emod_nonneg _ (by omega)) (Int.emod_lt_of_pos _ hnp)
          refine ⟨.ref Z.p, rfl, Z.p, .int t, rfl, d.gTurn, t, 1, rfl, rfl, .int (t + 1), rfl, .ref Z.p, rfl, Z.p, _, rfl, d.pTurn (t + 1), ?_⟩
          have d := d.kvs on x (t + 1)
          refine ⟨.ref Z.p, rfl, Z.p, .ref Z.c, rfl, d.gCells, Nat.zero_le _, fun q hq => ne_nil (d.alloc hq).hc upd_same ⟨_, rfl, ?_⟩⟩
          have d := d.alloc (o := .lst []) hq
          cases cs with
          | nil => exact fin5 _ 0 d
          | cons c0 cs' =>
            have hpos : (0 : Int) < (((c0 :: cs').map V.int).length : Nat) := by simp only [List.length_map, List.length_cons]; omega
            refine ⟨.ref Z.p, rfl, Z.p, .ref Z.c, rfl, d.gCells, .int (t + 1), rfl, .inl ⟨t + 1, rfl, .ref Z.p, rfl, Z.p, .ref Z.c, rfl, d.gCells, Z.c, _, rfl, .inl (SqL.of d.hc), t + 1, _, rfl, rfl, hpos, ?_⟩⟩
            have m1 := Int.emod_nonneg (t + 1) (b := (((c0 :: cs').map V.int).length : Nat)) (by omega)
            have m2 := Int.emod_lt_of_pos (t + 1) hpos
            obtain ⟨j, hj⟩ := Int.eq_ofNat_of_zero_le m1
            have hjl : j < (c0 :: cs').length := by rw [List.length_map] at m2 hj; omega
            refine ⟨Z.c, _, _, .int ((c0 :: cs')[j]), rfl, rfl, SqL.of d.hc, ?_, fin5 _ _ d⟩
            show atI _ ((t + 1) % _) = _
            rw [hj]
            simp only [List.length_map, List.length_cons] at hjl
            simp only [atI, ixN, List.length_map, List.length_cons, Int.natCast_nonneg, if_true, Int.toNat_natCast]
            rw [if_pos (by omega)]
            show ((c0 :: cs').map V.int)[j]? = _
            rw [List.getElem?_map, List.getElem?_eq_getElem]
            rfl
      refine ⟨.ref Z.p, rfl, Z.p, .int x, rfl, d.gLeft, rfl, _, rfl, ?_⟩
      by_cases hxz : x = 0
      · subst hxz
        rw [show decide (V.int 0 = V.int 0) = true from decide_eq_true rfl]
        simp only [if_true]
        refine ⟨.ref Z.p, rfl, Z.p, .ref Z.l, rfl, d.gLarge, Nat.zero_le _, fun q hq => ne_nil (d.alloc hq).hl upd_same ⟨_, rfl, ?_⟩⟩
        cases ls with
        | nil => exact rest _ (d.alloc hq)
        | cons y ls =>
          have hy := hls y List.mem_cons_self
          have d1 := d.alloc (o := .lst []) hq
          refine ⟨fun σ H' => σ = [some (.ref Z.p), some (.int (n : Nat)), none, none, none, none] ∧ DS Z W.H H' ls cs y t, fun σ' H' ⟨e1, e2⟩ => ⟨ls.length, Nat.lt_succ_self _, e1, ls, y, e2, rfl, hy, fun i hi => hls i (List.mem_cons_of_mem _ hi), Nat.le_of_succ_le hll⟩, ?_⟩
          refine ⟨.ref Z.p, rfl, Z.p, .ref Z.l, rfl, d1.gLarge, .inl ⟨rfl, _, SqL.of d1.hl⟩, Z.l, _, 0, 0, .int y, rfl, rfl, d1.hl, by decide, by decide, ?_, rfl, ?_⟩
          · exact seqIndex_of (k := 0) (by omega) (by simp only [List.length_map, List.length_cons]; omega)
          · have d2 : DS Z W.H (upd (upd H' q (.lst [])) Z.l (.lst (ls.map V.int))) ls cs 0 t := d1.large on hlc ls
            refine ⟨.ref Z.p, rfl, Z.p, _, rfl, d2.pLeft y, rfl, d2.kvs on y t⟩
      · rw [show decide (V.int x = V.int 0) = false from decide_eq_false fun z => hxz (V.int.inj z)]
        exact rest _ d
    · exact hw.elim
  · exact hw.elim
end
end Dv
end
section
set_option linter.all false
set_option maxRecDepth 100000
set_option maxHeartbeats 4000000
/-! S1: xs.append(ys.pop(e)), both own. -/
namespace Dv
open PySem PySem.Spec PyProof.Rows L2 Evl
def sAppPop (i j : Nat) (fa : EnvD → M D) : SEnv → M Ctl := fun se => match se[i]?, se[j]? with
  | some (.o xs), some (.o ys) => do
    let d ← fa (lendO se)
    match d with
    | .int k => match (decide (i ≠ j) && decide (0 ≤ k) && decide (k < ys.length) && decide (ys.length ≤ 1000) && decide (xs.length ≤ 1000)), ys[k.toNat]? with
      | true, some y => .ret (.nx ((se.set j (.o (ys.eraseIdx k.toNat))).set i (.o (xs ++ [y]))))
      | _, _ => .bad
    | _ => .bad
  | _, _ => .bad
section
variable {X : Cx} {pos pos' p p2 apos cpos apos2 cpos2 : Pos} {x x2 : Str} {e : Expr} {fa : EnvD → M D}
theorem appPop_r {i j : Nat} {Dn : Ends} {σ : L2.St} {H : Hp} (q : tS (gx X) (sAppPop i j fa) Dn σ H) : tDrop (tBM X.K "list" rAppend (tVar i) (tCons (tBM X.K "list" rPopAt (tVar j) (tCons (tD (gx X) fa) tNil)) tNil)) Dn σ H := by
  obtain ⟨Z, W0, se, W, rfl, S, q⟩ := q
  unfold sAppPop at q
  split at q
  · rename_i xs ys hi hj
    obtain ⟨p, h1, h2, h3, vs, h4, h5⟩ := S.own i _ hi rfl
    obtain ⟨r, k1, k2, k3, us, k4, k5⟩ := S.own j _ hj rfl
    refine ⟨.ref p, h1, .inl ⟨rfl, vs, SqL.of h4⟩, ?_⟩
    refine ⟨.ref r, k1, .inl ⟨rfl, us, SqL.of k4⟩, ?_⟩
    refine ⟨Z, _, ⟨FB se σ W, W.H, W.n⟩, rfl, S.envO, M.wp_mono (fun n1 d q1 v F1 H1 g1 r1 => ?_) (wp_then q)⟩
    have hH1 : H1 p = some (.lst vs) := g1.hh p _ h4 (S.nz h3)
    have kH1 : H1 r = some (.lst us) := g1.hh r _ k4 (S.nz k3)
    split at q1
    · rename_i k
      cases r1
      split at q1
      · rename_i y hc hy
        simp only [Bool.and_eq_true, decide_eq_true_eq] at hc
        obtain ⟨⟨⟨⟨c1, c2⟩, c3⟩, c4⟩, c5⟩ := hc
        have S1 := S.stepO g1
        have hlen := h5.length
        have klen := k5.length
        obtain ⟨w, hw, rw'⟩ := (k5.mono (S.exO g1)).get hy
        have hne : p ≠ r := fun z => by
          subst z
          exact S.dis i j _ _ p c1 hi hj rfl rfl h1 k1
        refine ⟨r, us, k, k.toNat, w, rfl, rfl, kH1, by omega, by omega, seqIndex_of c2 (by rw [klen]; exact c3), hw, ?_⟩
        have S2 := S1.poke (sl' := .o (ys.eraseIdx k.toNat)) (o := .lst (us.eraseIdx k.toNat)) hj rfl k1 rfl ⟨_, upd_same, (k5.mono (S.exO g1)).eraseIdx _⟩
        refine ⟨p, vs, w, rfl, rfl, by rw [upd_ne hne]; exact hH1, ?_, ?_⟩
        · rw [hlen]
          exact Nat.lt_of_le_of_lt c5 (by decide)
        · have hi2 : (se.set j (.o (ys.eraseIdx k.toNat)))[i]? = some (.o xs) := by rw [List.getElem?_set_ne (Ne.symm c1)]; exact hi
          exact q1 _ _ _ (S2.poke hi2 rfl h1 (sl' := .o (xs ++ [y])) (o := .lst (vs ++ [w])) rfl ⟨_, upd_same, (h5.mono (S.exO g1)).append (.cons rw' .nil)⟩) (S.exO g1)
      · exact q1.elim
    · exact q1.elim
  · exact q.elim
theorem ds_appPop (i j : Nat) (hN : X.N[i]? = some x) (hv : Vis X.env.scope x) (hN2 : X.N[j]? = some x2) (hv2 : Vis X.env.scope x2) (he : PE X e (tD (gx X) fa)) (hd : (x == ("__debug__" : Str)) = false := by decide) (hcd : (x == ("__classdict__" : Str)) = false := by decide)
    (hd2 : (x2 == ("__debug__" : Str)) = false := by decide) (hcd2 : (x2 == ("__classdict__" : Str)) = false := by decide)
    (m : M1 X (.Name x p) "append" apos (.Call (.Attribute (.Name x2 p2) "pop" apos2) [e] [] cpos2) cpos) (m2 : M1 X (.Name x2 p2) "pop" apos2 e cpos2)
    (hs : swapsWith (.Call (.Attribute (.Name x p) "append" apos) [.Call (.Attribute (.Name x2 p2) "pop" apos2) [e] [] cpos2] [] cpos) none pos.line X.env = pure false := by rfl)
    (hb : attributeBase (.Name x p) "append" X.env (eval (.Name x p) X.env) = eval (.Name x p) X.env := by rfl) (hb2 : attributeBase (.Name x2 p2) "pop" X.env (eval (.Name x2 p2) X.env) = eval (.Name x2 p2) X.env := by rfl)
    (hst : starEach [e] X.env = (false, eval e X.env) :: starEach [] X.env := by rfl) (hst1 : starEach [.Call (.Attribute (.Name x2 p2) "pop" apos2) [e] [] cpos2] X.env = (false, eval (.Call (.Attribute (.Name x2 p2) "pop" apos2) [e] [] cpos2) X.env) :: starEach [] X.env := by rfl) :
    PS X (.Expr (.Call (.Attribute (.Name x p) "append" apos) [.Call (.Attribute (.Name x2 p2) "pop" apos2) [e] [] cpos2] [] cpos) pos) (tS (gx X) (sAppPop i j fa)) :=
  (ps_expr (pe_bm PySem.F.plainAttrs_list PySem.F.slot_list_append PySem.F.type_list_append mt_append (pe_var hN hv hd hcd)
    (pa_cons (pe_bm PySem.F.plainAttrs_list PySem.F.slot_list_pop PySem.F.type_list_pop mt_popAt (pe_var hN2 hv2 hd2 hcd2) (pa_cons he pa_nil hst) hb2 m2.few m2.line hst) pa_nil hst1) hb m.few m.line hst1) hs).weak fun _ _ _ q => appPop_r q
end
def LenOf (fs : EnvD → M (List D)) (n : Nat) : Prop := ∀ env m (Q : Nat → List D → Prop), (fs env).wp m Q → (fs env).wp m fun k ds => ds.length = n ∧ Q k ds
theorem lenN : LenOf aNil 0 := len_nil
theorem lenC {fa : EnvD → M D} {fs : EnvD → M (List D)} {n : Nat} (h : LenOf fs n) : LenOf (aCons fa fs) (n + 1) := len_cons h
theorem de_defL {X : Cx} {e : Expr} {es : List Expr} {x : Str} {p pos : Pos} {k j n : Nat} {f : List D → M D} {fs : EnvD → M (List D)} (F : Def X.prog X.w X.K X.mg X.base k x n f) (hr : Room j X.A) (hk : k ≤ j) (hg : Gl X x) (hl : (e :: es).length = n) (ha : PA X (e :: es) (tDA (gx X) fs)) (hlen : LenOf fs n)
    (he : starEach (e :: es) X.env = (false, eval e X.env) :: starEach es X.env := by rfl) (hpl : (backTo pos (starEach es X.env)).any (·.1) = false := by rfl) (hdb : (x == ("__debug__" : Str)) = false := by decide) : PE X (.Call (.Name x p) (e :: es) [] pos) (tD (gx X) (eCall f fs)) := de_def F hr hk hg hl ha hlen he hpl hdb
end Dv
end
section
set_option linter.all false
set_option maxRecDepth 100000
set_option maxHeartbeats 4000000
/-! Q3: isinstance(kept(lambda: f(..)), C): a truth value. -/
namespace Dv
open PySem PySem.Spec PyProof.Rows L2 Evl Kept
/-- which error, if any -/
def catch_ : M D → M (Option Nat)
  | .ret _ => .ret none
  | .ask k f => .ask k fun i => catch_ (f i)
  | .err c => match c with
    | 1 => .ret (some 1)
    | 2 => .ret (some 2)
    | _ => .bad
  | .bad => .bad
def eCaught (cB : Nat) (f : List D → M D) (fs : EnvD → M (List D)) : EnvD → M D := fun env => do
  let ds ← fs env
  let o ← catch_ (f ds)
  match o with
  | some c => .ret (.bl (Nat.beq c cB))
  | none => .ret (.bl false)
theorem catch_wp {Q : Nat → Option Nat → Prop} : ∀ {m : M D} {n : Nat}, (catch_ m).wp n Q → m.wpE n (fun n' _ => Q n' none) (fun n' c => (c = 1 ∨ c = 2) ∧ Q n' (some c))
  | .ret a, n, h => h
  | .ask k f, n, ⟨h1, h2, h3, h⟩ => ⟨h1, h2, h3, fun i hi => catch_wp (h i hi)⟩
  | .err c, n, h => by
    unfold catch_ at h
    split at h
    · exact ⟨.inl rfl, h⟩
    · exact ⟨.inr rfl, h⟩
    · exact h.elim
  | .bad, n, h => h
/-- what is known of the two classes and their base -/
structure ExKit (K : PySem.W.Frag) (mg : Str → Option Value) (C : Nat → Addr) (CS : Addr) : Prop where
  dials : ExCls K mg "BadDials" (C 1)
  cut : ExCls K mg "BadCut" (C 2)
  base : mg "PickError" = some (.ref CS)
  x1 : PySem.W.exmOne K (.ref (C 1)) (.ref CS) = some true
  x2 : PySem.W.exmOne K (.ref (C 2)) (.ref CS) = some true
  n1 : PySem.W.kitOne K (.type "NoneType") (.ref (C 1)) = some false
  n2 : PySem.W.kitOne K (.type "NoneType") (.ref (C 2)) = some false
  k11 : PySem.W.kitOne K (.ref (C 1)) (.ref (C 1)) = some true
  k12 : PySem.W.kitOne K (.ref (C 1)) (.ref (C 2)) = some false
  k21 : PySem.W.kitOne K (.ref (C 2)) (.ref (C 1)) = some false
  k22 : PySem.W.kitOne K (.ref (C 2)) (.ref (C 2)) = some true
section
variable {X : Cx} {C : Nat → Addr} {CS : Addr}
theorem caught_r {P : Addr} {q : Str} {n cB : Nat} {f : List D → M D} {fs : EnvD → M (List D)} (ek : ExKit X.K X.mg C CS) (hcB : cB = 1 ∨ cB = 2) (hm : (P, q) ∈ tbl0) (hu : ∀ p ∈ tbl0, p.1 = P → p.2 = q) (hlen : LenOf fs n)
    {σ : L2.St} {H : Hp} {Q : VK} (h : tD (gx X) (eCaught cB f fs) σ H Q) :
    tCB (rIsK X.K) (tCons (tLamY P q (TKept X.K CS) fun E => tCall (spE (gx X) C n f) [] E (tDA (gx X) fs)) (tCons (tC (.ref (C cB))) tNil)) σ H Q := by
  obtain ⟨Z, env, W, rfl, ok, h⟩ := h
  obtain ⟨ps, hT, t3, hA⟩ := ok.gd.tab _ hm
  refine ⟨ps, hT, t3, fun pos cv hc => ?_, fun H1 b gw R hR => ?_⟩
  · obtain ⟨b, e1, e2⟩ := hA pos cv hc
    exact ⟨b, e1, ok.gd.sub _ _ e2⟩
  obtain ⟨F1, g1⟩ := Gr.grew ok.gd hm hu hT hA gw
  refine ⟨Z, env, ⟨F1, H1, W.n⟩, rfl, ok.step g1, M.wp_mono (fun n2 ds h2 vs F2 H2 g2 r2 => ?_) (hlen _ _ _ (wp_then h))⟩
  obtain ⟨hl, h2⟩ := h2
  have g12 := g1.trans g2
  refine ⟨by rw [List.append_nil, r2.length]; exact hl, Z, ⟨F2, H2, n2⟩, ds, rfl, g2.gd, by rw [List.append_nil]; exact r2, M.wpE_mono (fun n3 d h3 v F3 H3 g3 r3 => ?_) (fun n3 c h3 F3 H3 g3 => ?_) (catch_wp (wp_then h2))⟩
  · refine hR v H3 ⟨.non, .ref (C cB), .ref (C cB), false, rfl, .own _, h3 (.bl false) F3 H3 (g12.trans g3) (.bl false), .inl ⟨rfl, ?_⟩⟩
    rcases hcB with rfl | rfl
    · exact ek.n1
    · exact ek.n2
  · obtain ⟨hc, h3⟩ := h3
    refine ⟨?_, fun a na => ⟨.ref a, .ref (C cB), .ref (C cB), Nat.beq c cB, rfl, .own _, ?_, .inr ⟨a, C c, rfl, ?_, upd_same, ?_⟩⟩⟩
    · rcases hc with rfl | rfl
      · exact ek.x1
      · exact ek.x2
    · have g3' := (g12.trans g3)
      exact h3 (.bl (Nat.beq c cB)) F3 _ (g3'.trans (Gr.allocH g3'.gd na)) (.bl _)
    · rcases hc with rfl | rfl
      · exact ek.dials.is
      · exact ek.cut.is
    · rcases hc with rfl | rfl <;> rcases hcB with rfl | rfl
      · exact ek.k11
      · exact ek.k12
      · exact ek.k21
      · exact ek.k22
end
end Dv
end
section
set_option linter.all false
set_option maxRecDepth 100000
set_option maxHeartbeats 4000000
namespace Dv
open PySem PySem.Spec PyProof.Rows L2 Evl
section
variable {P : Program} {w : World} {K : PySem.W.Frag} {mg : Str → Option Value} {base : Heap} {C : Nat → Addr}
def m_need_dialsE : List D → M D := runD 1 (sSeq (sIfE (bNot (bOf (eCall m_are_dials (aCons (eVar 0) aNil)))) (sSeq (sErr 1) sNil) sNil) sNil)
theorem sc_need_dialsE : FnScope ["dials"] ["dials"] (defScope (top 20)) := ⟨rfl, rfl, rfl, by decide +kernel, rfl, by decide +kernel, by decide +kernel⟩
theorem e_need_dials (T : Txt mg) (D_are_dials : Def P w K mg base 2 "are_dials" 1 m_are_dials)  (X_BadDials : ExCls K mg "BadDials" (C 1)) {f : Addr} {fd : FuncData} (F : Fun K "need_dials" "need_dials" (top 20) f fd) (hb : L2.Binds K fd ["dials"] []) (hm : mg "need_dials" = some (.ref f)) : DefE P w K mg base C 3 "need_dials" 1 m_need_dialsE := by
  refine mk_defE (N := ["dials"]) F sc_need_dialsE hb hm rfl fun cdv A outer s H E hr => ?_
  have nd := sc_need_dialsE.nd
  exact (xs_cons (xs_if (dt_not (dt_val (de_defL D_are_dials hr (by decide) (by rfl) (by rfl) (da_cons (de_var 0) da_nil) (lenC lenN)))) (xs_cons (xs_raise (takes_of rfl rfl rfl rfl) (by rfl) X_BadDials (by rfl)) xs_nil) xs_nil) xs_nil)
def m_parting_byE : List D → M D := runD 8 (sSeq (sDropE m_need_dialsE (aCons (eVar 0) aNil)) (sSeq (sNE (sSet 2 (eCall m_places_of (aCons (eVar 0) aNil)))) (sSeq (sNE (sSet 3 (eCall m_table_of (aCons (eCall m_book_by (aCons (eVar 0) (aCons (eVar 2) aNil))) aNil)))) (sSeq (sIfE (bNot (bOf (eCall m_cuts_right (aCons (eVar 3) (aCons (eVar 1) aNil))))) (sSeq (sErr 2) sNil) sNil) (sSeq (sNE (sNew 4 (nLst aNil))) (sSeq (sNE (sFor (iOf (eVar 2)) (.one 5) (sSeq (sApp 4 (eD (nDc [6, 7] (iRng1D (aCons (eCall m_count_of (aCons (eVar 0) aNil)) aNil)) (tg1 7) bYes (eVar 7) (eIndex (eVar 2) (eCall m_plus_of (aCons (eVar 0) (aCons (eBin gIx (eVar 2) (eBin gIx (eVar 1) (eVar 7))) (aCons (eVar 5) aNil)))))))) sNil))) (sSeq (sNE (sRet (eN (nSortK 0 (eVar 4))))) sNil)))))))
theorem sc_parting_byE : FnScope ["dials", "cut", "menu", "table", "found", "place", ".0", "row"] ["dials", "cut"] (defScope (top 63)) := ⟨rfl, rfl, rfl, by decide +kernel, rfl, by decide +kernel, by decide +kernel⟩
theorem e_parting_by (T : Txt mg) (D_places_of : Def P w K mg base 1 "places_of" 1 m_places_of) (D_book_by : Def P w K mg base 3 "book_by" 2 m_book_by) (D_table_of : Def P w K mg base 1 "table_of" 1 m_table_of) (D_cuts_right : Def P w K mg base 2 "cuts_right" 2 m_cuts_right) (D_count_of : Def P w K mg base 1 "count_of" 1 m_count_of) (D_plus_of : Def P w K mg base 1 "plus_of" 3 m_plus_of) (E_need_dials : DefE P w K mg base C 3 "need_dials" 1 m_need_dialsE) (X_BadCut : ExCls K mg "BadCut" (C 2)) {f c Pt : Addr} {fd : FuncData} (F : FunC K "parting_by" "parting_by" (top 63) f fd c) (tb : LamX.TabB base mg c Pt) (hP : (Pt, ("parting_by" : Str) ++ ".<locals>." ++ "<lambda>") ∈ tbl0) (hu : ∀ p ∈ tbl0, p.1 = Pt → p.2 = ("parting_by" : Str) ++ ".<locals>." ++ "<lambda>") (hb : L2.Binds K fd ["dials", "cut"] []) (hk : ∀ u v : Value, bindArgs fd ⟨[], [(("cut" : Str), v), (("dials" : Str), u)]⟩ = pure [(("dials" : Str), u), (("cut" : Str), v)]) (hm : mg "parting_by" = some (.ref f)) : DefE2 P w K mg base C 4 "parting_by" "dials" "cut" m_parting_byE := by
  refine mk_defEC2 (N := ["dials", "cut", "menu", "table", "found", "place", ".0", "row"]) F sc_parting_byE hb hk hm fun A outer s H E hr => ?_
  have nd := sc_parting_byE.nd
  exact (xs_cons (xs_call E_need_dials (takes_of rfl rfl rfl rfl) hr (by decide) (by rfl) (da_cons (de_var 0) da_nil) (lenC lenN)) (xs_cons (xs_of (ds_set 2 nd (by rfl) (by first | exact Or.inl (by rfl) | exact Or.inr (by rfl)) (de_defL D_places_of hr (by decide) (by rfl) (by rfl) (da_cons (de_var 0) da_nil) (lenC lenN)))) (xs_cons (xs_of (ds_set 3 nd (by rfl) (by first | exact Or.inl (by rfl) | exact Or.inr (by rfl)) (de_defL D_table_of hr (by decide) (by rfl) (by rfl) (da_cons (de_defL D_book_by hr (by decide) (by rfl) (by rfl) (da_cons (de_var 0) (da_cons (de_var 2) da_nil)) (lenC (lenC lenN))) da_nil) (lenC lenN)))) (xs_cons (xs_if (dt_not (dt_val (de_defL D_cuts_right hr (by decide) (by rfl) (by rfl) (da_cons (de_var 3) (da_cons (de_var 1) da_nil)) (lenC (lenC lenN))))) (xs_cons (xs_raise (takes_of rfl rfl rfl rfl) (by rfl) X_BadCut (by rfl)) xs_nil) xs_nil) (xs_cons (xs_of (ds_new 4 nd (by rfl) (by first | exact Or.inl (by rfl) | exact Or.inr (by rfl)) (dn_lst da_nil))) (xs_cons (xs_of (ds_for (passes_of rfl) (by rfl) (di_of (de_var 2)) (fs1 5 (bg1 5 nd)) (ds_cons (ds_app 4 (by rfl) (by first | exact Or.inl (by rfl) | exact Or.inr (Or.inl (by rfl)) | exact Or.inr (Or.inr (by rfl))) (de_d (dd_dc (by rfl) nd (di_rng (by rfl) T.range (da_cons (de_defL D_count_of hr (by decide) (by rfl) (by rfl) (da_cons (de_var 0) da_nil) (lenC lenN)) da_nil)) (blkOk_by (own := [(".0", 6), ("row", 7)]) (by rfl)) (fun _ _ _ _ _ => (bg1 7 nd)) (tgr1 7) (by decide) (fun _ _ _ _ _ => dts_nil) (fun _ _ _ _ _ => (de_var 7)) (fun _ _ _ _ _ => (de_index hr.u65 (de_var 2) (de_defL D_plus_of hr (by decide) (by rfl) (by rfl) (da_cons (de_var 0) (da_cons (de_ix hr.u1 (de_var 2) (de_ix hr.u1 (de_var 1) (de_var 7))) (da_cons (de_var 5) da_nil))) (lenC (lenC (lenC lenN))))))))) ds_nil))) (xs_cons (xs_of (ds_ret (de_n (dn_sortK (by rfl) (by rfl) T.sorted (de_var 4) ⟨by intros; rfl, by rfl, by rfl, by rfl, by rfl, by decide +kernel, by decide +kernel, by decide⟩ tb rfl hP hu hr.u65 hr.depth (by rfl))))) xs_nil)))))))
end
end Dv
end
section
set_option linter.all false
set_option maxRecDepth 100000
set_option maxHeartbeats 4000000
/-! Q4: isinstance(_law_caught(lambda: parting_by(a, b)), C). -/
namespace Dv
open PySem PySem.Spec PyProof.Rows L2 Evl Kept
open LamX (GivesTo)
theorem sc_caught : FnScope ["_law_work", "_law_caught_here", "error"] ["_law_work"] (defScope (top 74)) := ⟨rfl, rfl, rfl, by decide +kernel, rfl, by decide +kernel, by decide +kernel⟩
theorem gives_caught {X : Cx} {g CS : Addr} {cdv : Value} {q : Str} (hm : X.mg "PickError" = some (.ref CS)) : GivesTo X ["_law_work", "_law_caught_here", "error"] "_law_caught" (defScope (top 74)) g cdv (defBody (top 74)) "_law_work" q (TKept X.K CS) :=
  kept_gives (a := "_law_work") (v := "_law_caught_here") (e := "error") (c := "PickError") (sg := defScope (top 74)) (by rfl) hm (by decide) (by decide +kernel) (by rfl) (by rfl) (by rfl) (by decide) (by decide) (by decide) (by decide)
/-- what stands of _law_caught -/
structure CaughtAt (K : PySem.W.Frag) (mg : Str → Option Value) : Prop where
  ex : ∃ (g : Addr) (fd : FuncData), Fun K "_law_caught" "_law_caught" (top 74) g fd ∧ L2.Binds K fd ["_law_work"] [] ∧ mg "_law_caught" = some (.ref g)
section
variable {X : Cx} {C : Nat → Addr} {CS c P : Addr} {prm : Arguments} {sc : Scope} {e : Expr} {es : List Expr} {fs : EnvD → M (List D)} {cn : Str} {cB k j : Nat} {p0 p1 p2 p3 p4 p5 p lpos : Pos}
theorem de_caught (ek : ExKit X.K X.mg C CS) (ca : CaughtAt X.K X.mg) (F : DefE X.prog X.w X.K X.mg X.base C k "parting_by" 2 m_parting_byE) (hi : X.mg "isinstance" = none) (hgi : Gl X "isinstance") (hgc : Gl X "_law_caught") (hgn : Gl X cn) (hcB : cB = 1 ∨ cB = 2) (hcn : X.mg cn = some (.ref (C cB)))
    (tb : LamX.TabB X.base X.mg c P) (hcode : X.env.code = .ref c) (hP : (P, X.env.qual ++ "<lambda>") ∈ tbl0) (hu : ∀ p ∈ tbl0, p.1 = P → p.2 = X.env.qual ++ "<lambda>") (hr : Room j X.A) (hj : k + 2 ≤ j) (L : LamX.LamS X.env.scope sc) (hD : defaultsOf prm X.env = ([], []))
    (hbind : ∀ (q : Str) (bd : Expr) (cl : List (Str × Addr)) (pm cv ctv : Value), bindArgs (PySem.W.kla_fn "<lambda>" q prm bd sc cl pm cv ctv) ⟨[], []⟩ = pure [])
    (hgp : sc.names.lookup ("parting_by" : Str) = some .globalImplicit) (hlen : LenOf fs 2)
    (ha : ∀ (A : Around) (outer : List PySem.Env) (s : Shared) (H : Hp) (E : XK) (f b : Addr), PA (LamX.lamCx X A outer s H E sc f b) (e :: es) (tDA (gx X) fs)) (hdn : (cn == ("__debug__" : Str)) = false := by decide)
    (hst : ∀ env, starEach (e :: es) env = (false, eval e env) :: starEach es env := by intro _; rfl) (hpl : ∀ env, (backTo p2 (starEach es env)).any (·.1) = false := by intro _; rfl) :
    PE X (.Call (.Name "isinstance" p0) [.Call (.Name "_law_caught" p) [.Lambda prm (.Call (.Name "parting_by" p1) (e :: es) [] p2) sc lpos] [] p3, .Name cn p4] [] p5) (tD (gx X) (eCaught cB m_parting_byE fs)) := by
  obtain ⟨g, fdg, Fg, hbg, hmg⟩ := ca.ex
  obtain ⟨fp, fdp, ps, hps, Fp, hmp, hkp, hbp⟩ := F.ex
  have hl : PE X (.Call (.Name "_law_caught" p) [.Lambda prm (.Call (.Name "parting_by" p1) (e :: es) [] p2) sc lpos] [] p3) (tLamY P (X.env.qual ++ "<lambda>") (TKept X.K CS) fun E => tCall (spE (gx X) C 2 m_parting_byE) [] E (tDA (gx X) fs)) :=
    pe_lamY (k := k) hgc hmg Fg hbg sc_caught rfl (.inl (by rfl)) (fun cdv => gives_caught ek.base) tb hcode (hr.mono hj) L hD (fun q cl pm cv ctv => hbind q _ cl pm cv ctv) (fun A outer s H E f b hr2 => by
      have hg2 : Gl (LamX.lamCx X A outer s H E sc f b) "parting_by" := hgp
      exact pe_call (X := LamX.lamCx X A outer s H E sc f b) Fp hr2 hg2 hmp hkp hbp .nil (passes_call (takes_of rfl rfl rfl rfl) fun _ _ _ _ h => h) (ha A outer s H E f b) (hdb := by decide) (he := hst _) (hpl := hpl _))
  exact (pe_callB call_isK hgi hi boot_isinstance (pa_cons hl (pa_cons (pe_glob (v := .ref (C cB)) hgn hcn rfl hdn) pa_nil)) (by decide) (by decide)).weak fun σ H Q h => caught_r ek hcB hP hu hlen h
end
end Dv
end
section
set_option linter.all false
set_option maxRecDepth 100000
set_option maxHeartbeats 4000000
namespace Dv
open PySem PySem.Spec PyProof.Rows L2 Evl
section
variable {P : Program} {w : World} {K : PySem.W.Frag} {mg : Str → Option Value} {base : Heap}
def m__law_pick : List D → M D := runD 2 (sSeq (sRet (eBin gIx (eVar 1) (eCall m__law_draw (aCons (eVar 0) (aCons (eCall gLen (aCons (eVar 1) aNil)) aNil))))) sNil)
theorem sc__law_pick : FnScope ["_law_state", "_law_several"] ["_law_state", "_law_several"] (defScope (top 72)) := ⟨rfl, rfl, rfl, by decide +kernel, rfl, by decide +kernel, by decide +kernel⟩
theorem d__law_pick (T : Txt mg) (D__law_draw : Def P w K mg base 1 "_law_draw" 2 m__law_draw) {f : Addr} {fd : FuncData} (F : Fun K "_law_pick" "_law_pick" (top 72) f fd) (hb : L2.Binds K fd ["_law_state", "_law_several"] []) (hm : mg "_law_pick" = some (.ref f)) : Def P w K mg base 2 "_law_pick" 2 m__law_pick := by
  refine mk_def (N := ["_law_state", "_law_several"]) F sc__law_pick hb hm rfl fun cdv A outer s H E hr => ?_
  have nd := sc__law_pick.nd
  exact (ds_cons (ds_ret (de_ix hr.u1 (de_var 1) (de_defL D__law_draw hr (by decide) (by rfl) (by rfl) (da_cons (de_var 0) (da_cons (de_callB cr_lenD (by rfl) T.len boot_len (da_cons (de_var 1) da_nil)) da_nil)) (lenC (lenC lenN))))) ds_nil)
def m__law_mixed : List D → M D := runD 4 (sSeq (sPar [2, 3] (pO (nList (aCons (eVar 1) aNil)) (pO (nLst aNil) pNil))) (sSeq (sWh 200 (bOf (eBin gNe (eVar 2) (eN (nLst aNil)))) (sSeq (sAppPop 3 2 (eCall m__law_draw (aCons (eVar 0) (aCons (eCall gLen (aCons (eVar 2) aNil)) aNil)))) sNil)) (sSeq (sRet (eVar 3)) sNil)))
theorem sc__law_mixed : FnScope ["_law_state", "_law_several", "_law_left", "_law_found"] ["_law_state", "_law_several"] (defScope (top 73)) := ⟨rfl, rfl, rfl, by decide +kernel, rfl, by decide +kernel, by decide +kernel⟩
theorem d__law_mixed (T : Txt mg) (D__law_draw : Def P w K mg base 1 "_law_draw" 2 m__law_draw) {f : Addr} {fd : FuncData} (F : Fun K "_law_mixed" "_law_mixed" (top 73) f fd) (hb : L2.Binds K fd ["_law_state", "_law_several"] []) (hm : mg "_law_mixed" = some (.ref f)) : Def P w K mg base 2 "_law_mixed" 2 m__law_mixed := by
  refine mk_def (N := ["_law_state", "_law_several", "_law_left", "_law_found"]) F sc__law_mixed hb hm rfl fun cdv A outer s H E hr => ?_
  have nd := sc__law_mixed.nd
  exact (ds_cons (ds_par2 2 3 (by rfl) nd (by rfl) (by rfl) (by decide) (by rfl) (by rfl) (sa_o (dn_list (by rfl) (by rfl) T.list (da_cons (de_var 1) da_nil)) (sa_o (dn_lst da_nil) sa_nil)) (by rfl)) (ds_cons (ds_while 200 PassesOwn.never (dt_cmp (op_neDD hr.units) (de_var 2) (de_n (dn_lst da_nil)) (nomark _)) (ds_cons (ds_appPop 3 2 (by rfl) (by first | exact Or.inl (by rfl) | exact Or.inr (Or.inl (by rfl)) | exact Or.inr (Or.inr (by rfl))) (by rfl) (by first | exact Or.inl (by rfl) | exact Or.inr (Or.inl (by rfl)) | exact Or.inr (Or.inr (by rfl))) (de_defL D__law_draw hr (by decide) (by rfl) (by rfl) (da_cons (de_var 0) (da_cons (de_callB cr_lenD (by rfl) T.len boot_len (da_cons (de_var 2) da_nil)) da_nil)) (lenC (lenC lenN))) (m := ⟨by rfl, by rfl, by rfl, by rfl⟩) (m2 := ⟨by rfl, by rfl, by rfl, by rfl⟩)) ds_nil)) (ds_cons (ds_ret (de_var 3)) ds_nil)))
def m__law_dials : List D → M D := runD 5 (sSeq (sSet 2 (eN (nLst (aCons (eTup (aCons (eC (.int 2)) aNil)) (aCons (eTup (aCons (eC (.int 3)) aNil)) (aCons (eTup (aCons (eC (.int 4)) aNil)) (aCons (eTup (aCons (eC (.int 2)) (aCons (eC (.int 2)) aNil))) (aCons (eTup (aCons (eC (.int 5)) aNil)) (aCons (eTup (aCons (eC (.int 6)) aNil)) (aCons (eTup (aCons (eC (.int 2)) (aCons (eC (.int 3)) aNil))) (aCons (eTup (aCons (eC (.int 3)) (aCons (eC (.int 2)) aNil))) (aCons (eTup (aCons (eC (.int 7)) aNil)) (aCons (eTup (aCons (eC (.int 8)) aNil)) (aCons (eTup (aCons (eC (.int 2)) (aCons (eC (.int 4)) aNil))) (aCons (eTup (aCons (eC (.int 4)) (aCons (eC (.int 2)) aNil))) (aCons (eTup (aCons (eC (.int 2)) (aCons (eC (.int 2)) (aCons (eC (.int 2)) aNil)))) aNil)))))))))))))))) (sSeq (sRet (eCall m__law_pick (aCons (eVar 0) (aCons (eN (nLc [3, 4] (iOf (eVar 2)) (tg1 4) (bOf (eBin (gCmp fun i j => decide (i ≤ j)) (eCall gLen (aCons (eCall m__law_places (aCons (eVar 4) aNil)) aNil)) (eVar 1))) (eVar 4))) aNil)))) sNil))
theorem sc__law_dials : FnScope ["_law_state", "_law_most", "_law_some", ".0", "_law_dials_here"] ["_law_state", "_law_most"] (defScope (top 80)) := ⟨rfl, rfl, rfl, by decide +kernel, rfl, by decide +kernel, by decide +kernel⟩
theorem d__law_dials (T : Txt mg) (D__law_places : Def P w K mg base 1 "_law_places" 1 m__law_places) (D__law_pick : Def P w K mg base 2 "_law_pick" 2 m__law_pick) {f : Addr} {fd : FuncData} (F : Fun K "_law_dials" "_law_dials" (top 80) f fd) (hb : L2.Binds K fd ["_law_state", "_law_most"] []) (hm : mg "_law_dials" = some (.ref f)) : Def P w K mg base 3 "_law_dials" 2 m__law_dials := by
  refine mk_def (N := ["_law_state", "_law_most", "_law_some", ".0", "_law_dials_here"]) F sc__law_dials hb hm rfl fun cdv A outer s H E hr => ?_
  have nd := sc__law_dials.nd
  exact (ds_cons (ds_set 2 nd (by rfl) (by first | exact Or.inl (by rfl) | exact Or.inr (by rfl)) (de_n (dn_lst (da_cons (de_tup (da_cons de_int da_nil)) (da_cons (de_tup (da_cons de_int da_nil)) (da_cons (de_tup (da_cons de_int da_nil)) (da_cons (de_tup (da_cons de_int (da_cons de_int da_nil))) (da_cons (de_tup (da_cons de_int da_nil)) (da_cons (de_tup (da_cons de_int da_nil)) (da_cons (de_tup (da_cons de_int (da_cons de_int da_nil))) (da_cons (de_tup (da_cons de_int (da_cons de_int da_nil))) (da_cons (de_tup (da_cons de_int da_nil)) (da_cons (de_tup (da_cons de_int da_nil)) (da_cons (de_tup (da_cons de_int (da_cons de_int da_nil))) (da_cons (de_tup (da_cons de_int (da_cons de_int da_nil))) (da_cons (de_tup (da_cons de_int (da_cons de_int (da_cons de_int da_nil)))) da_nil)))))))))))))))) (ds_cons (ds_ret (de_defL D__law_pick hr (by decide) (by rfl) (by rfl) (da_cons (de_var 0) (da_cons (de_n (dn_lc (by rfl) nd (di_of (de_var 2)) (blkOk_by (own := [(".0", 3), ("_law_dials_here", 4)]) (by rfl)) (fun _ _ _ _ _ => (bg1 4 nd)) (tgr1 4) (by decide) (fun _ _ _ _ _ => (dts_one (dt_cmp op_leD (de_callB cr_lenD (by rfl) T.len boot_len (da_cons (de_defL D__law_places hr (by decide) (by rfl) (by rfl) (da_cons (de_var 4) da_nil) (lenC lenN)) da_nil)) (de_var 1) (nomark _)))) (fun _ _ _ _ _ => (de_var 4)))) da_nil)) (lenC (lenC lenN)))) ds_nil))
def m__law_bad_dials : List D → M D := runD 1 (sSeq (sRet (eCall m__law_pick (aCons (eVar 0) (aCons (eN (nLst (aCons (eC .non) (aCons (eTup aNil) (aCons (eN (nLst (aCons (eC (.int 2)) (aCons (eC (.int 3)) aNil)))) (aCons (eTup (aCons (eC (.int 1)) (aCons (eC (.int 3)) aNil))) (aCons (eTup (aCons (eC (.int 0)) aNil)) (aCons (eTup (aCons (eC (.int 9)) aNil)) (aCons (eTup (aCons (eC (.int 3)) (aCons (eC (.int 3)) aNil))) (aCons (eTup (aCons (eC (.int 2)) (aCons (eC (.int 2)) (aCons (eC (.int 2)) (aCons (eC (.int 2)) aNil))))) (aCons (eTup (aCons (eC (.bl true)) (aCons (eC (.int 3)) aNil))) (aCons (eC (.str "23")) (aCons (eC (.int 6)) (aCons (eTup (aCons (eUn gNeg (eC (.int 2))) aNil)) (aCons (eD nDE) aNil))))))))))))))) aNil)))) sNil)
theorem sc__law_bad_dials : FnScope ["_law_state"] ["_law_state"] (defScope (top 85)) := ⟨rfl, rfl, rfl, by decide +kernel, rfl, by decide +kernel, by decide +kernel⟩
theorem d__law_bad_dials (T : Txt mg) (D__law_pick : Def P w K mg base 2 "_law_pick" 2 m__law_pick) {f : Addr} {fd : FuncData} (F : Fun K "_law_bad_dials" "_law_bad_dials" (top 85) f fd) (hb : L2.Binds K fd ["_law_state"] []) (hm : mg "_law_bad_dials" = some (.ref f)) : Def P w K mg base 3 "_law_bad_dials" 1 m__law_bad_dials := by
  refine mk_def (N := ["_law_state"]) F sc__law_bad_dials hb hm rfl fun cdv A outer s H E hr => ?_
  have nd := sc__law_bad_dials.nd
  exact (ds_cons (ds_ret (de_defL D__law_pick hr (by decide) (by rfl) (by rfl) (da_cons (de_var 0) (da_cons (de_n (dn_lst (da_cons de_non (da_cons (de_tup da_nil) (da_cons (de_n (dn_lst (da_cons de_int (da_cons de_int da_nil)))) (da_cons (de_tup (da_cons de_int (da_cons de_int da_nil))) (da_cons (de_tup (da_cons de_int da_nil)) (da_cons (de_tup (da_cons de_int da_nil)) (da_cons (de_tup (da_cons de_int (da_cons de_int da_nil))) (da_cons (de_tup (da_cons de_int (da_cons de_int (da_cons de_int (da_cons de_int da_nil))))) (da_cons (de_tup (da_cons de_bl (da_cons de_int da_nil))) (da_cons de_str (da_cons de_int (da_cons (de_tup (da_cons (de_neg de_int) da_nil)) (da_cons (de_d dd_emp) da_nil))))))))))))))) da_nil)) (lenC (lenC lenN)))) ds_nil)
end
end Dv
end
section
set_option linter.all false
set_option maxRecDepth 100000
set_option maxHeartbeats 4000000
/-! N1: rules for such a dict: in, get, put, list. -/
namespace Dv
open PySem PySem.Spec PyProof.Rows L2 Evl
/-- its entries are keys that stand -/
def NOk (K : PySem.W.Frag) (H : Hp) (xs : NE3) : Prop := (∀ x ∈ xs, NKat K H x.2.1 x.1) ∧ (xs.map (·.1)).Nodup ∧ xs.length ≤ 100000
theorem atKey_nsX {P : Program} {w : World} : ∀ (xs : NE3) (k : NK), atKey (nsX P w xs) (nkOf k) = (nkGet xs k).map fun p => (p.1, Value.ref p.2)
  | [], k => rfl
  | x :: r, k => by
    have ih := atKey_nsX (P := P) (w := w) r k
    by_cases h : x.1 = k
    · have : nkOf x.1 = nkOf k := by rw [h]
      simp only [nsX, List.map_cons, atKey, nkGet, this, if_true, h]
      simp
    · have : nkOf x.1 ≠ nkOf k := fun z => h (nkOf_inj z)
      simp only [nsX, List.map_cons, atKey, nkGet, if_neg h] at ih ⊢
      simpa [this] using ih
section
variable {X : Cx} {pins : List (Addr × Obj)} {σ : L2.St} {H : Hp} {s : Shared}
theorem nst_dict {d : Addr} {xs : NE3} (I : Inv X pins σ H s) (h : H d = some (nstO X.prog X.w d xs)) (ok : NOk X.K H xs) : (d == sysModules) = false ∧ s.heap.DictOfH (nestedKind X.prog X.w) d (nsX X.prog X.w xs) := by
  obtain ⟨⟨h1, o, es, ep, ho, hx, hd, he⟩, _⟩ := (show ObjOk X.prog X.w H s.heap d (nstO X.prog X.w d xs) from I.hok d _ h)
  refine ⟨h1, o, es, ep, ho, hx, hd, he, fun x hx => ?_, ?_⟩
  · obtain ⟨y, hy, rfl⟩ := List.mem_map.mp hx
    exact nk_is I (ok.1 y hy)
  · have := ok.2.1
    unfold nsX
    rw [List.map_map]
    have e : ((fun x : NestedKey × Addr × Value => x.1) ∘ fun x : NK × Addr × Addr => (nkOf x.1, x.2.1, Value.ref x.2.2)) = nkOf ∘ fun x => x.1 := rfl
    rw [e, ← List.map_map]
    exact List.Pairwise.map nkOf (fun a b hab z => hab (nkOf_inj z)) this
/-- x not in d, x in d -/
def rNNotIn (P : Program) (w : World) (K : PySem.W.Frag) : R2 := fun x y H Q => ∃ T d k xs, x = .ref T ∧ y = .ref d ∧ H d = some (nstO P w d xs) ∧ NOk K H xs ∧ NKat K H T k ∧ Q (.bl (!(nkGet xs k).isSome)) H
theorem op_nNotIn (hu : X.A.units + 65 < cLine) : OpR X (compareOp .NotIn) (rNNotIn X.prog X.w X.K) := by
  intro pins s σ H x y v u Q I rx ry h
  obtain ⟨T, d, k, xs, rfl, rfl, hd, ok, hk, q⟩ := h
  cases (show v = Value.ref T from rx)
  cases (show u = Value.ref d from ry)
  obtain ⟨h1, h2⟩ := nst_dict I hd ok
  refine notIn_keyed (show X.A.units + 1 + 8 < cLine by omega) (nk_is I hk) h1 ⟨_, h2, rfl⟩ ?_
  rw [valueAt_pairsH, Option.isSome_map, atKey_nsX, Option.isSome_map]
  exact ⟨.bl (!(nkGet xs k).isSome), H, I.tok _, rfl, q⟩
/-- d[x] -/
def rNIx (P : Program) (w : World) (K : PySem.W.Frag) : R2 := fun x y H Q => ∃ T d k xs p, x = .ref d ∧ y = .ref T ∧ H d = some (nstO P w d xs) ∧ NOk K H xs ∧ NKat K H T k ∧ nkGet xs k = some p ∧ Q (.ref p.2) H
theorem pe_nget {o i : Expr} {td ty : TE} {pos : Pos} (hu : X.A.units + 65 < cLine) (ho : PE X o td) (hi : PE X i ty) (hs : NoSl i) : PE X (.Subscript o i pos) (fun σ H Q => td σ H fun x H1 => ty σ H1 fun y H2 => rNIx X.prog X.w X.K x y H2 Q) := by
  refine ⟨fun pins s σ H Q I h => ?_⟩
  refine subD_of PySem.F.slot_dict_getitem.lookup hs (thn (ho.run pins s σ H _ I h) fun u s1 ⟨x, H1, I1, rx, q1⟩ => thn (hi.run pins s1 σ H1 _ I1 q1) fun iv s2 ⟨y, H2, I2, ry, T, d, k, xs, p, ex, ey, hd, ok, hk, hg, q2⟩ => ?_)
  subst ex ey
  obtain rfl : u = Value.ref d := rx
  obtain rfl : iv = Value.ref T := ry
  obtain ⟨h1, h2⟩ := nst_dict I2 hd ok
  refine ⟨h2.typeIs, wpAny_getItem_heap (p := (p.1, Value.ref p.2)) (show X.A.units + 1 + 8 < cLine by omega) (nk_is I2 hk) h2 (by rw [atKey_nsX, hg]; rfl) ⟨.ref p.2, H2, I2.tok _, rfl, q2⟩⟩
/-- d[y] = v, a new key -/
theorem storedH_nsX {P : Program} {w : World} {xs : NE3} {k : NK} {T v : Addr} (h : nkGet xs k = none) : storedH (nsX P w xs) (nkOf k) T (.ref v) = nsX P w (xs ++ [(k, T, v)]) := by
  unfold storedH
  rw [atKey_nsX, h]
  simp [nsX]
def sNPut (P : Program) (w : World) (K : PySem.W.Frag) (td ty tv : TE) : TS := fun D σ H => tv σ H fun v H1 => td σ H1 fun x H2 => ty σ H2 fun y H3 => ∃ d T k xs u, x = .ref d ∧ y = .ref T ∧ v = .ref u ∧ H3 d = some (nstO P w d xs) ∧ NOk K H3 xs ∧ NKat K H3 T k ∧ nkGet xs k = none ∧ D.nx σ (upd H3 d (nstO P w d (xs ++ [(k, T, u)])))
theorem ps_nput {o i value : Expr} {td ty tv : TE} {pos pos' : Pos} (hu : X.A.units + 65 < cLine) (ho : PE X o td) (hi : PE X i ty) (hv : PE X value tv) (hs : swapsWith value (some (.Subscript o i pos')) pos.line X.env = pure false := by rfl) :
    PS X (.Assign [.Subscript o i pos'] value pos) (sNPut X.prog X.w X.K td ty tv) := by
  refine ⟨fun pins s σ H D I h => ?_⟩
  refine wpAny_Assign_Subscript (thn (hv.run pins s σ H _ I h) fun r s1 ⟨v, H1, I1, rv, q1⟩ => thn (ho.run pins s1 σ H1 _ I1 q1) fun u s2 ⟨x, H2, I2, rx, q2⟩ => thn (hi.run pins s2 σ H2 _ I2 q2) fun iv s3 ⟨y, H3, I3, ry, d, T, k, xs, vv, ex, ey, ev, hd, ok, hk, hno, q3⟩ => ?_) hs
  subst ex ey ev
  obtain rfl : u = Value.ref d := rx
  obtain rfl : iv = Value.ref T := ry
  obtain rfl : r = Value.ref vv := rv
  obtain ⟨h1, h2⟩ := nst_dict I3 hd ok
  have hsz : (nsX X.prog X.w xs).length ≤ sizeLine := by
    unfold nsX
    rw [List.length_map, sizeLine_eq]
    have := ok.2.2
    omega
  refine wpAny_setItem_heap (hsz := hsz) (show X.A.units + 1 + 8 < cLine by omega) (nk_is I3 hk) h2 fun h' hm hsb => ?_
  obtain ⟨o, es, ep, ho, hx, hdat, he, _⟩ := hm
  rw [storedH_nsX hno] at he
  have new : ObjOk X.prog X.w (upd H3 d (nstO X.prog X.w d (xs ++ [(k, T, vv)]))) h' d (nstO X.prog X.w d (xs ++ [(k, T, vv)])) := ⟨⟨h1, o, es, ep, ho, hx, hdat, he⟩, ⟨o, ho⟩, fun g1 g2 w k' => by
    obtain ⟨w1, o', es', ep', e1, r⟩ := w
    exact ⟨w1, o', es', ep', k' _ e1, r⟩⟩
  exact ⟨σ, _, I3.write (x := d) (e := d) (by rw [hd]; exact trivial) (.inl rfl) (fun b w hb e => hsb.extBut b w hb e) ⟨o, ho⟩ new, q3⟩
/-- list(d) -/
theorem call_listN (hc : X.calm = true) : CallR X (.type "list") (fun vs H Q => ∃ d xs, vs = [V.ref d] ∧ H d = some (nstO X.prog X.w d xs) ∧ xs.length ≤ 100000 ∧ ∀ p, H p = none → Q (.ref p) (upd H p (.lst (xs.map fun x => V.ref x.2.1)))) := by
  intro pins s σ H vs us Q I r h
  obtain ⟨d, xs, rfl, hd, hl, q⟩ := h
  obtain ⟨u, rfl, rx⟩ := r.one
  cases (show u = Value.ref d from rx)
  obtain ⟨⟨h1, o, es, ep, ho, hx, hdat, he⟩, _⟩ := (show ObjOk X.prog X.w H s.heap d (nstO X.prog X.w d xs) from I.hok d _ hd)
  have hsz : es.size = xs.length := by
    rw [← Array.length_toList, he, List.length_map]
    unfold nsX
    rw [List.length_map]
  refine PySem.W.kdl_call (kdl_raw h1 hx hdat) (I.ok.hd hc) ho (by rw [hsz, sizeLine_eq]; omega) fun h' tk acc' c' hkeep hS hacc => ?_
  refine ⟨.ref s.heap.objs.size, upd H s.heap.objs.size (.lst (xs.map fun x => V.ref x.2.1)), I.laid hkeep (Nat.le_refl _) (show ObjOk X.prog X.w _ _ _ (.lst (xs.map fun x => V.ref x.2.1)) from ⟨by rw [List.length_map, sizeLine_eq]; omega, acc'.toList, c', ?_, ?_⟩), rfl, q _ (I.hok.fresh (Nat.le_refl _))⟩
  · have el : acc'.toList.length = acc'.size := by simp
    refine vals_of_at (by rw [List.length_map, el, hacc.1, hsz]) fun j x w e1 e2 => ?_
    obtain ⟨en, hen, rfl⟩ := hacc.2 j w (by rw [← Array.getElem?_toList]; exact e2)
    rw [← Array.getElem?_toList, he, List.getElem?_map] at hen
    unfold nsX at hen
    rw [List.getElem?_map] at hen
    rw [List.getElem?_map] at e1
    cases q' : xs[j]? with
    | none =>
      rw [q'] at e1
      cases e1
    | some y =>
      rw [q'] at e1 hen
      cases e1
      cases hen
      rfl
  · rw [Array.toArray_toList]
    exact hS
end
end Dv
end
section
set_option linter.all false
set_option maxRecDepth 100000
set_option maxHeartbeats 4000000
/-! N2: {k: v} as such a dict. -/
namespace Dv
open PySem PySem.Spec PyProof.Rows L2 Evl
section
variable {X : Cx}
def tNNew (P : Program) (w : World) (K : PySem.W.Frag) (trs : List (TE × TE)) : TE := fun σ H Q => ∀ q, H q = none → tPairs trs σ (upd H q (nstO P w q [])) fun ps H2 => ∃ T k v, ps = [(.ref T, .ref v)] ∧ H2 q = some (nstO P w q []) ∧ NKat K H2 T k ∧ Q (.ref q) (upd H2 q (nstO P w q [(k, T, v)]))
theorem nst_obj {P : Program} {w : World} {H : Hp} {h : Heap} {d : Addr} {xs : NE3} {o : Obj} {es : Array DictEntry} {ep : Nat} (h1 : (d == sysModules) = false) (ho : h.get? d = some o) (hx : o.ExactDict) (hd : o.data = .dict es ep) (he : es.toList = (nsX P w xs).map (entryOfKey (nestedKind P w))) : ObjOk P w H h d (nstO P w d xs) :=
  ⟨⟨h1, o, es, ep, ho, hx, hd, he⟩, ⟨o, ho⟩, fun g1 g2 z k' => by
    obtain ⟨w1, o', es', ep', e1, r⟩ := z
    exact ⟨w1, o', es', ep', k' _ e1, r⟩⟩
theorem pe_nnew {pos : Pos} {ek ev : Expr} {tk tv : TE} (hu : X.A.units + 65 < cLine) (hk : PE X ek tk) (hv : PE X ev tv) : PE X (.Dict [some ek] [ev] pos) (tNNew X.prog X.w X.K [(tk, tv)]) := by
  refine ⟨fun pins s σ H Q I q => ?_⟩
  have hn := I.hok.fresh (Nat.le_refl s.heap.objs.size)
  have hq0 : (s.heap.objs.size == sysModules) = false := beq_eq_false_iff_ne.mpr (Ne.symm (Nat.ne_of_lt I.big))
  have I1 := I.laid (a := s.heap.objs.size) (o := nstO X.prog X.w s.heap.objs.size []) (h' := s.heap.push { cls := .type "dict", data := .dict #[] }) (t' := s.toks) (fun _ _ q => Heap.get?_push_of_some _ q) (Nat.le_refl _) (nst_obj hq0 (Heap.get?_push_size _ rfl) ⟨rfl, rfl, rfl⟩ rfl rfl)
  have h : PPs X pos [some ek] [ev] [(tk, tv)] := pps_cons hk hv pps_nil
  rw [arm_eval_Dict, zip_pairTrees [some ek] [ev] X.env pos rfl rfl, dictDisplay_pairs (pairTrees [some ek] [ev] X.env pos) (by simp [pairTrees]) (by simp [pairTrees])]
  refine wpAny_bind (wpAny_standAt (wpAny_bind (wpAny_subDictH (knd := nestedKind X.prog X.w) (show X.A.units + 8 < cLine by omega) (by simp [pairTrees]) ?_)))
  refine thn (h.run pins _ σ _ _ I1 (q _ hn)) fun ws s2 ⟨ps, H2, I2, rel, T, k, v, e, h2, hk2, q2⟩ => ?_
  subst e
  obtain ⟨w1, rfl, ra, rb⟩ : ∃ w1, ws = [w1] ∧ RelV (.ref T) w1.1 ∧ RelV (.ref v) w1.2 := by
    cases rel with
    | cons a r =>
      cases r
      exact ⟨_, rfl, a.1, a.2⟩
  obtain ⟨wk, wv⟩ := w1
  cases (show wk = Value.ref T from ra)
  cases (show wv = Value.ref v from rb)
  have ok0 : NOk X.K H2 [] := ⟨fun _ h => (nomatch h), List.nodup_nil, Nat.zero_le _⟩
  obtain ⟨d1, d2⟩ := nst_dict I2 h2 ok0
  refine ⟨[(nkOf k, T, .ref v)], ⟨rfl, rfl, nk_is I2 hk2, trivial⟩, d2, fun h' tk' dd hs => wpAny_pure ?_⟩
  obtain ⟨o, es, ep, ho, hx, hdat, he, _⟩ := dd
  exact ⟨.ref s.heap.objs.size, _, I2.write (x := s.heap.objs.size) (e := s.heap.objs.size) (by rw [h2]; exact trivial) (.inl rfl) (fun b w hb e => hs.extBut b w hb e) ⟨o, ho⟩ (nst_obj (xs := [(k, T, v)]) hq0 ho hx hdat he), rfl, q2⟩
end
end Dv
end
section
set_option linter.all false
set_option maxRecDepth 100000
set_option maxHeartbeats 4000000
/-! E1: zip and enumerate while the tuples they gave out are kept. -/
namespace Dv
open PySem PySem.Spec PyProof.Rows L2 Evl
section
variable {prog : Program} {w : World} {A : Around} {E : Value → Shared → Prop} {s : Shared} {z TI TO i1 i2 T : Addr} {f : Bool} {oT : Obj} {fp1 fp2 : List Addr} {n1 n2 i : Nat} {P1 P2 : Nat → Value → Prop} {St1 St2 : Nat → Heap → Prop}
theorem zipH_item {Q : Value → Shared → Prop} (S : ZipSep2 z TI TO i1 i2 fp1 fp2) (D1 : Draws prog w A i1 fp1 n1 P1 St1) (D2 : Draws prog w A i2 fp2 n2 P2 St2)
    (hz : IsZipHeld s.heap z TI TO T f) (hT : s.heap.get? T = some oT) (hTI : IsTupOf2 s.heap TI (.ref i1) (.ref i2)) (st1 : St1 i s.heap) (st2 : St2 i s.heap) (hlt1 : i < n1) (hlt2 : i < n2)
    (hQ : ∀ x1 x2 h' tk, P1 i x1 → P2 i x2 → IsZipHeld h' z TI TO T true → St1 (i + 1) h' → St2 (i + 1) h' → IsTupOf2 h' s.heap.objs.size x1 x2 → h'.objs.size = s.heap.objs.size + 1 →
      (∀ c o, c ≠ z → c ≠ i1 → c ≠ i2 → s.heap.get? c = some o → h'.get? c = some o) → Q (.ref s.heap.objs.size) { s with heap := h', toks := tk }) :
    wpAny (model prog w) A (Builtin.«zip.__next__» ⟨[.ref z], []⟩) (fun fin s' => ∃ v, fin = .done (.ret v) ∧ Q v s') E s := by
  obtain ⟨hp, g, d, tk0, os⟩ := s
  show wpAny _ _ (field (.ref z) 2 >>= _) _ _ _
  refine wpAny_bind (wpAny_field hz rfl (x := .bool false) rfl ?_)
  show wpAny _ _ (field (.ref z) 3 >>= _) _ _ _
  refine wpAny_bind (wpAny_field hz rfl (x := .ref TI) rfl ?_)
  refine wpAny_bind (wpAny_seqItems hTI rfl ?_)
  show wpAny _ _ (Builtin.SmallTypes.ownedTupleIsFree (.ref z) >>= _) _ _ _
  refine wpAny_bind (wpAny_tupleHeld_zip hz hT fun g0 hz0 hs0 => ?_)
  replace hz0 : IsZipHeld g0 z TI TO T true := hz0
  replace hs0 : Heap.SameBut z hp g0 := hs0
  simp only [Bool.false_eq_true, if_false]
  refine wpAny_bind ?_
  rw [← Array.forIn_toList]
  simp only [List.forIn_cons, List.forIn_nil]
  refine wpAny_bind (wpAny_bind (wpAny_holding ?_))
  show wpAny _ _ (Builtin.SmallTypes.nextOf (.ref i1) >>= _) _ _ ⟨g0, g, d, tk0, os⟩
  refine wpAny_bind (D1.item i _ _ _ hlt1 (D1.over st1 hs0 S.zf1) fun x1 p1 tk1 hx1 sn1 hp1 => wpAny_pure ?_)
  replace hp1 : Heap.SameBut i1 g0 p1 := hp1
  refine wpAny_pure ?_
  refine wpAny_bind (wpAny_bind (wpAny_holding ?_))
  show wpAny _ _ (Builtin.SmallTypes.nextOf (.ref i2) >>= _) _ _ ⟨p1, g, d, tk1, os⟩
  refine wpAny_bind (D2.item i _ _ _ hlt2 (D2.over (D2.over st2 hs0 S.zf2) hp1 S.sep1_2) fun x2 p2 tk2 hx2 sn2 hp2 => wpAny_pure ?_)
  replace hp2 : Heap.SameBut i2 p1 p2 := hp2
  refine wpAny_pure (wpAny_pure ?_)
  show wpAny _ _ (newTuple [x1, x2] >>= _) _ _ ⟨p2, g, d, tk2, os⟩
  refine wpAny_bind (wpAny_newTuple ?_)
  have hsz : p2.objs.size = hp.objs.size := by rw [hp2.1, hp1.1, hs0.1]
  have hz2 : IsZipHeld p2 z TI TO T true := hp2.extBut _ _ S.zi2 (hp1.extBut _ _ S.zi1 hz0)
  have hk : ∀ c o, c ≠ z → c ≠ i1 → c ≠ i2 → hp.get? c = some o → p2.get? c = some o := fun c o c1 c2 c3 e => hp2.extBut _ _ c3 (hp1.extBut _ _ c2 (hs0.extBut _ _ c1 e))
  have hj1 : St1 (i + 1) p2 := D1.over sn1 hp2 S.sep2_1
  refine wpAny_pure ⟨_, rfl, ?_⟩
  show Q (.ref p2.objs.size) _
  have hp' : IsTupOf2 (p2.push { cls := .type "tuple", data := .seq #[x1, x2] }) p2.objs.size x1 x2 := Heap.get?_push_size _ rfl
  have hz4 : (p2.push { cls := .type "tuple", data := .seq #[x1, x2] }).objs.size = p2.objs.size + 1 := Heap.size_push ..
  rw [hsz] at hp' hz4 ⊢
  exact hQ x1 x2 _ tk2 hx1 hx2 (Heap.get?_push_of_some _ hz2) (D1.frame _ _ _ hj1 fun b _ o e => Heap.get?_push_of_some _ e) (D2.frame _ _ _ sn2 fun b _ o e => Heap.get?_push_of_some _ e) hp' hz4 fun c o c1 c2 c3 e => Heap.get?_push_of_some _ (hk c o c1 c2 c3 e)
theorem zipH_end {Q : Fin → Shared → Prop} (S : ZipSep2 z TI TO i1 i2 fp1 fp2) (D1 : Draws prog w A i1 fp1 n1 P1 St1) (D2 : Draws prog w A i2 fp2 n2 P2 St2)
    (hz : IsZipHeld s.heap z TI TO T f) (hT : s.heap.get? T = some oT) (hTI : IsTupOf2 s.heap TI (.ref i1) (.ref i2)) (st1 : St1 i s.heap) (st2 : St2 i s.heap) (hle1 : i ≤ n1) (hle2 : i ≤ n2) (hend : i = n1 ∨ i = n2)
    (hE : ∀ h' tk e, (∀ c o, c ≠ z → c ≠ i1 → c ≠ i2 → s.heap.get? c = some o → h'.get? c = some o) → (∃ o, h'.get? e = some o ∧ o.cls = .type "StopIteration") → E (.ref e) { s with heap := h', toks := tk }) :
    wpAny (model prog w) A (Builtin.«zip.__next__» ⟨[.ref z], []⟩) Q E s := by
  obtain ⟨hp, g, d, tk0, os⟩ := s
  show wpAny _ _ (field (.ref z) 2 >>= _) _ _ _
  refine wpAny_bind (wpAny_field hz rfl (x := .bool false) rfl ?_)
  show wpAny _ _ (field (.ref z) 3 >>= _) _ _ _
  refine wpAny_bind (wpAny_field hz rfl (x := .ref TI) rfl ?_)
  refine wpAny_bind (wpAny_seqItems hTI rfl ?_)
  show wpAny _ _ (Builtin.SmallTypes.ownedTupleIsFree (.ref z) >>= _) _ _ _
  refine wpAny_bind (wpAny_tupleHeld_zip hz hT fun g0 hz0 hs0 => ?_)
  replace hz0 : IsZipHeld g0 z TI TO T true := hz0
  replace hs0 : Heap.SameBut z hp g0 := hs0
  simp only [Bool.false_eq_true, if_false]
  refine wpAny_bind ?_
  rw [← Array.forIn_toList]
  simp only [List.forIn_cons, List.forIn_nil]
  refine wpAny_bind (wpAny_bind (wpAny_holding ?_))
  show wpAny _ _ (Builtin.SmallTypes.nextOf (.ref i1) >>= _) _ _ ⟨g0, g, d, tk0, os⟩
  by_cases hlt1 : i < n1
  · refine wpAny_bind (D1.item i _ _ _ hlt1 (D1.over st1 hs0 S.zf1) fun x1 p1 tk1 hx1 sn1 hp1 => wpAny_pure ?_)
    replace hp1 : Heap.SameBut i1 g0 p1 := hp1
    have hi2 : i = n2 := by omega
    refine wpAny_pure ?_
    refine wpAny_bind (wpAny_bind (wpAny_holding ?_))
    show wpAny _ _ (Builtin.SmallTypes.nextOf (.ref i2) >>= _) _ _ ⟨p1, g, d, tk1, os⟩
    refine wpAny_bind (D2.done ⟨p1, g, d, tk1, os⟩ _ _ (by rw [← hi2]; exact D2.over (D2.over st2 hs0 S.zf2) hp1 S.sep1_2) fun q e hq he => ?_)
    replace hq : Heap.ExtBut i2 p1 q := hq
    exact hE q tk1 e (fun c o cz c1 c2 x => hq _ _ c2 (hp1.extBut _ _ c1 (hs0.extBut _ _ cz x))) he
  · have hi1 : i = n1 := by omega
    refine wpAny_bind (D1.done ⟨g0, g, d, tk0, os⟩ _ _ (by rw [← hi1]; exact D1.over st1 hs0 S.zf1) fun q e hq he => ?_)
    replace hq : Heap.ExtBut i1 g0 q := hq
    exact hE q tk0 e (fun c o cz c1 c2 x => hq _ _ c1 (hs0.extBut _ _ cz x)) he
theorem next_zipH_item {Q : Option Value → Shared → Prop} (S : ZipSep2 z TI TO i1 i2 fp1 fp2) (D1 : Draws prog w A.in1 i1 fp1 n1 P1 St1) (D2 : Draws prog w A.in1 i2 fp2 n2 P2 St2)
    (hz : IsZipHeld s.heap z TI TO T f) (hT : s.heap.get? T = some oT) (hTI : IsTupOf2 s.heap TI (.ref i1) (.ref i2)) (st1 : St1 i s.heap) (st2 : St2 i s.heap) (hlt1 : i < n1) (hlt2 : i < n2)
    (hQ : ∀ x1 x2 h' tk, P1 i x1 → P2 i x2 → IsZipHeld h' z TI TO T true → St1 (i + 1) h' → St2 (i + 1) h' → IsTupOf2 h' s.heap.objs.size x1 x2 → h'.objs.size = s.heap.objs.size + 1 →
      (∀ c o, c ≠ z → c ≠ i1 → c ≠ i2 → s.heap.get? c = some o → h'.get? c = some o) → Q (some (.ref s.heap.objs.size)) { s with heap := h', toks := tk }) :
    wpAny (model prog w) A (pyNext (.ref z)) Q E s := by
  have hTy : s.TypeIs (.ref z) "zip" := ⟨_, hz, rfl⟩
  unfold pyNext
  exact wpAny_bind (wpAny_attempt (wpAny_callSpecial?_slot (name := Str.ofString "__next__") hTy F.slot_zip_next
    (wpAny_call_entry F.slot_zip_next hTy F.entry_zip_next
      (zipH_item S D1 D2 hz hT hTI st1 st2 hlt1 hlt2 fun x1 x2 h' tk a b c d e f g k => wpAny_pure (hQ x1 x2 h' tk a b c d e f g k)) (F.args_zip_next_1 _))))
theorem next_zipH_end {Q : Option Value → Shared → Prop} (S : ZipSep2 z TI TO i1 i2 fp1 fp2) (D1 : Draws prog w A.in1 i1 fp1 n1 P1 St1) (D2 : Draws prog w A.in1 i2 fp2 n2 P2 St2)
    (hz : IsZipHeld s.heap z TI TO T f) (hT : s.heap.get? T = some oT) (hTI : IsTupOf2 s.heap TI (.ref i1) (.ref i2)) (st1 : St1 i s.heap) (st2 : St2 i s.heap) (hle1 : i ≤ n1) (hle2 : i ≤ n2) (hend : i = n1 ∨ i = n2)
    (hQ : ∀ h' tk, (∀ c o, c ≠ z → c ≠ i1 → c ≠ i2 → s.heap.get? c = some o → h'.get? c = some o) → Q none { s with heap := h', toks := tk }) : wpAny (model prog w) A (pyNext (.ref z)) Q E s := by
  have hTy : s.TypeIs (.ref z) "zip" := ⟨_, hz, rfl⟩
  unfold pyNext
  refine wpAny_bind (wpAny_attempt (wpAny_callSpecial?_slot (name := Str.ofString "__next__") hTy F.slot_zip_next
    (wpAny_call_entry F.slot_zip_next hTy F.entry_zip_next (zipH_end S D1 D2 hz hT hTI st1 st2 hle1 hle2 hend fun h' tk e hk he => ?_) (F.args_zip_next_1 _))))
  obtain ⟨o, ho, hc⟩ := he
  refine wpAny_bind (wpAny_isInstance (T := "StopIteration") (b := true) ⟨o, ho, hc⟩ isSubtype_stop ?_)
  exact wpAny_pure (hQ _ _ hk)
end
end Dv
end
section
set_option linter.all false
set_option maxRecDepth 100000
set_option maxHeartbeats 4000000
/-! E2: enumerate while its tuples are kept; a list that is filled from an iterator. -/
namespace Dv
open PySem PySem.Spec PyProof.Rows L2 Evl
section
variable {prog : Program} {w : World} {A : Around} {E : Value → Shared → Prop} {s : Shared} {e it T : Addr} {f : Bool} {oT : Obj} {fp : List Addr} {n i : Nat} {c : Int} {P : Nat → Value → Prop} {St : Nat → Heap → Prop} {old : Value}
theorem enumH_item {Q : Value → Shared → Prop} (D : Draws prog w A it fp n P St) (he : IsEnumHeld s.heap e it c old T f) (hT : s.heap.get? T = some oT) (hTe : T ≠ e) (hTi : T ≠ it) (hst : St i s.heap) (hlt : i < n) (hne : e ≠ it) (hef : e ∉ fp)
    (hQ : ∀ x h' tk, P i x → IsEnumHeld h' e it (c + 1) old T true → St (i + 1) h' →
      h'.get? s.heap.objs.size = some { cls := .type "tuple", data := .seq #[.int c tk, x] } → h'.objs.size = s.heap.objs.size + 1 →
      (∀ b o, b ≠ e → b ≠ it → s.heap.get? b = some o → h'.get? b = some o) → Q (.ref s.heap.objs.size) { s with heap := h', toks := tk + 1 }) :
    wpAny (model prog w) A (Builtin.«enumerate.__next__» ⟨[.ref e], []⟩) (fun fin s' => ∃ v, fin = .done (.ret v) ∧ Q v s') E s := by
  obtain ⟨hp, g, d, tk₀, os⟩ := s
  show wpAny _ _ (field (.ref e) 2 >>= _) _ _ _
  refine wpAny_bind (wpAny_field he rfl (x := .ref it) rfl ?_)
  refine wpAny_bind (D.item i _ _ _ hlt hst fun x h₁ tk hPx hit₁ hs₁ => ?_)
  replace hs₁ : Heap.SameBut it hp h₁ := hs₁
  have he₁ : IsEnumHeld h₁ e it c old T f := (hs₁.2 e hne).trans he
  show wpAny _ _ (field (.ref e) 3 >>= _) _ _ ⟨h₁, g, d, tk, os⟩
  refine wpAny_bind (wpAny_field he₁ rfl (x := rawInt c) rfl ?_)
  show wpAny _ _ (field (.ref e) 4 >>= _) _ _ ⟨h₁, g, d, tk, os⟩
  refine wpAny_bind (wpAny_field he₁ rfl (x := .none) rfl ?_)
  show wpAny _ _ (mkInt c >>= _) _ _ ⟨h₁, g, d, tk, os⟩
  refine wpAny_bind (wpAny_mkInt ?_)
  show wpAny _ _ (setField (.ref e) 3 (rawInt (c + 1)) >>= _) _ _ ⟨h₁, g, d, tk + 1, os⟩
  refine wpAny_bind (wpAny_setField_rec he₁ (by simp) fun h₂ he₂ hs₂ => ?_)
  replace hs₂ : Heap.SameBut e h₁ h₂ := hs₂
  replace he₂ : IsEnumHeld h₂ e it (c + 1) old T f := he₂
  show wpAny _ _ (setField (.ref e) 4 .none >>= _) _ _ ⟨h₂, g, d, tk + 1, os⟩
  refine wpAny_bind (wpAny_setField_rec he₂ (by simp) fun h₃ he₃ hs₃ => ?_)
  replace hs₃ : Heap.SameBut e h₂ h₃ := hs₃
  replace he₃ : IsEnumHeld h₃ e it (c + 1) old T f := he₃
  show wpAny _ _ (newTuple [.int c tk, x] >>= _) _ _ ⟨h₃, g, d, tk + 1, os⟩
  refine wpAny_bind (wpAny_newTuple ?_)
  have he₄ : IsEnumHeld (h₃.push { cls := .type "tuple", data := .seq #[.int c tk, x] }) e it (c + 1) old T f := Heap.get?_push_of_some _ he₃
  generalize hh₄ : h₃.push { cls := .type "tuple", data := .seq #[.int c tk, x] } = h₄ at he₄
  have hsz : h₃.objs.size = hp.objs.size := by rw [hs₃.1, hs₂.1, hs₁.1]
  have hel : e < hp.objs.size := Heap.lt_size he
  have ht₄ : h₄.get? hp.objs.size = some { cls := .type "tuple", data := .seq #[.int c tk, x] } := by rw [← hh₄, ← hsz]; exact Heap.get?_push_size _ rfl
  have hz₄ : h₄.objs.size = hp.objs.size + 1 := by rw [← hh₄, Heap.size_push, hsz]
  have hk₄ : ∀ b o, b ≠ e → b ≠ it → hp.get? b = some o → h₄.get? b = some o := fun b o hbe hbi hb => by
    rw [← hh₄]; exact Heap.get?_push_of_some _ (hs₃.extBut b o hbe (hs₂.extBut b o hbe (hs₁.extBut b o hbi hb)))
  have hit₄ : St (i + 1) h₄ := D.frame _ _ _ hit₁ fun b hb o y => by
    have hbe : b ≠ e := fun q => hef (q ▸ hb)
    rw [← hh₄]; exact Heap.get?_push_of_some _ (hs₃.extBut b o hbe (hs₂.extBut b o hbe y))
  show wpAny _ _ (Builtin.SmallTypes.ownedTupleIsFree (.ref e) >>= _) _ _ ⟨h₄, g, d, tk + 1, os⟩
  rw [hsz]
  clear hh₄ he₃ hs₃ he₂ hs₂ he₁ hs₁ hit₁ hsz h₃ h₂ h₁
  refine wpAny_bind (wpAny_tupleHeld_enum (s := ⟨h₄, g, d, tk + 1, os⟩) he₄ (hk₄ T oT hTe hTi hT) fun h₅ he₅ hs₅ => ?_)
  replace hs₅ : Heap.SameBut e h₄ h₅ := hs₅
  simp only [Bool.false_eq_true, if_false]
  refine wpAny_pure ⟨_, rfl, hQ x h₅ tk hPx he₅ ?_ ?_ ?_ ?_⟩
  · exact D.frame _ _ _ hit₄ fun b hb o y => hs₅.extBut b o (fun q => hef (q ▸ hb)) y
  · exact hs₅.extBut _ _ (Nat.ne_of_gt hel) ht₄
  · show h₅.objs.size = hp.objs.size + 1
    rw [hs₅.1, hz₄]
  · exact fun b o hbe hbi hb => hs₅.extBut b o hbe (hk₄ b o hbe hbi hb)
theorem next_enumH_item {Q : Option Value → Shared → Prop} (D : Draws prog w A.in1 it fp n P St) (he : IsEnumHeld s.heap e it c old T f) (hT : s.heap.get? T = some oT) (hTe : T ≠ e) (hTi : T ≠ it) (hst : St i s.heap) (hlt : i < n) (hne : e ≠ it) (hef : e ∉ fp)
    (hQ : ∀ x h' tk, P i x → IsEnumHeld h' e it (c + 1) old T true → St (i + 1) h' →
      h'.get? s.heap.objs.size = some { cls := .type "tuple", data := .seq #[.int c tk, x] } → h'.objs.size = s.heap.objs.size + 1 →
      (∀ b o, b ≠ e → b ≠ it → s.heap.get? b = some o → h'.get? b = some o) → Q (some (.ref s.heap.objs.size)) { s with heap := h', toks := tk + 1 }) :
    wpAny (model prog w) A (pyNext (.ref e)) Q E s := by
  have hTy : s.TypeIs (.ref e) "enumerate" := ⟨_, he, rfl⟩
  unfold pyNext
  exact wpAny_bind (wpAny_attempt (wpAny_callSpecial?_slot (name := Str.ofString "__next__") hTy F.slot_enumerate_next
    (wpAny_call_entry F.slot_enumerate_next hTy F.entry_enumerate_next
      (enumH_item D he hT hTe hTi hst hlt hne hef fun x h' tk a b c d k q => wpAny_pure (hQ x h' tk a b c d k q)) (F.args_enumerate_next_1 _))))
theorem next_enumH_end {Q : Option Value → Shared → Prop} (D : Draws prog w A.in1 it fp n P St) (he : IsEnumHeld s.heap e it c old T f) (hst : St n s.heap)
    (hQ : ∀ h', Heap.ExtBut it s.heap h' → Q none { s with heap := h' }) : wpAny (model prog w) A (pyNext (.ref e)) Q E s := by
  have hTy : s.TypeIs (.ref e) "enumerate" := ⟨_, he, rfl⟩
  unfold pyNext
  refine wpAny_bind (wpAny_attempt (wpAny_callSpecial?_slot (name := Str.ofString "__next__") hTy F.slot_enumerate_next
    (wpAny_call_entry F.slot_enumerate_next hTy F.entry_enumerate_next ?_ (F.args_enumerate_next_1 _))))
  show wpAny _ _ (field (.ref e) 2 >>= _) _ _ _
  refine wpAny_bind (wpAny_field he rfl (x := .ref it) rfl ?_)
  refine wpAny_bind (D.done _ _ _ hst fun h' x he' hx' => ?_)
  obtain ⟨o, ho, hc⟩ := hx'
  refine wpAny_bind (wpAny_isInstance (T := "StopIteration") (b := true) ⟨o, ho, hc⟩ isSubtype_stop ?_)
  exact wpAny_pure (hQ _ he')
end

/-! ### a source of new tuples, whose tuples the list S keeps -/
/-- n tuples, the i-th holding what Val tells; fp: the source's own things -/
structure LWk (prog : Program) (w : World) (A : Around) (I S : Addr) (fp : List Addr) (n : Nat) (Val : Nat → List Value → Prop) (St : Nat → Heap → Prop) : Prop where
  off : S ∉ fp
  frame : ∀ i h h', St i h → (∀ b o, b ≠ S → h.get? b = some o → h'.get? b = some o) → St i h'
  item : ∀ i (s : Shared) (Q : Option Value → Shared → Prop) (E : Value → Shared → Prop), i < n → St i s.heap → S < s.heap.objs.size →
    (∀ us h' tk, Val i us → h'.get? s.heap.objs.size = some { cls := .type "tuple", data := .seq us.toArray } → St (i + 1) h' → (∀ b o, b ∉ fp → s.heap.get? b = some o → h'.get? b = some o) → Q (some (.ref s.heap.objs.size)) { s with heap := h', toks := tk }) →
    wpAny (model prog w) A (pyNext (.ref I)) Q E s
  done : ∀ (s : Shared) (Q : Option Value → Shared → Prop) (E : Value → Shared → Prop), St n s.heap →
    (∀ h' tk, (∀ b o, b ∉ fp → s.heap.get? b = some o → h'.get? b = some o) → Q none { s with heap := h', toks := tk }) → wpAny (model prog w) A (pyNext (.ref I)) Q E s
/-- the heap behind it: Ts are new tuples -/
structure LzEnd (H : Hp) (S : Addr) (Ts : List Addr) (Vl : Nat → List V) (H' : Hp) : Prop where
  keep : ∀ a o, a ≠ S → H a = some o → H' a = some o
  lst : H' S = some (.lst (Ts.map V.ref))
  tup : ∀ j T, Ts[j]? = some T → H T = none ∧ T ≠ S ∧ H' T = some (.tup (Vl j))
section
variable {X : Cx} {pins : List (Addr × Obj)} {σ : L2.St}
theorem LzEnd.none {H : Hp} {S : Addr} {Vl : Nat → List V} (h : H S = some (.lst [])) : LzEnd H S [] Vl H := ⟨fun _ _ _ e => e, h, fun _ _ e => by simp at e⟩
theorem LzEnd.push {H H' : Hp} {S T : Addr} {Ts : List Addr} {Vl : Nat → List V} (L : LzEnd H S Ts Vl H') (hS : H S ≠ .none) (hT : H' T = .none) : LzEnd H S (Ts ++ [T]) Vl (upd (upd H' T (.tup (Vl Ts.length))) S (.lst ((Ts ++ [T]).map V.ref))) := by
  have hTS : T ≠ S := fun z => by rw [z, L.lst] at hT; cases hT
  refine ⟨fun a o ha e => ?_, upd_same, fun j U hj => ?_⟩
  · have e' := L.keep a o ha e
    rw [upd_ne ha, upd_ne fun z => by rw [z, hT] at e'; cases e']
    exact e'
  · by_cases hl : j < Ts.length
    · rw [List.getElem?_append_left hl] at hj
      obtain ⟨a, b, c⟩ := L.tup j U hj
      refine ⟨a, b, ?_⟩
      rw [upd_ne b, upd_ne fun z => by rw [z, hT] at c; cases c]
      exact c
    · have hj' : j = Ts.length ∧ U = T := by
        rw [List.getElem?_append_right (by omega)] at hj
        have : j - Ts.length = 0 := by
          cases q : j - Ts.length with
          | zero => rfl
          | succ m => rw [q] at hj; simp at hj
        rw [this] at hj
        simp at hj
        exact ⟨by omega, hj.symm⟩
      obtain ⟨rfl, rfl⟩ := hj'
      refine ⟨?_, hTS, by rw [upd_ne hTS, upd_same]⟩
      cases e : H U with
      | none => rfl
      | some o =>
        have := L.keep U o hTS e
        rw [hT] at this
        cases this
theorem loopL {A : Around} {I S : Addr} {fp : List Addr} {n : Nat} {Val : Nat → List Value → Prop} {St : Nat → Heap → Prop} {Vl : Nat → List V} {H0 : Hp} {res : Value} {R : Result → Shared → Prop}
    (W : LWk X.prog X.w A.in1 I S fp n Val St) (hn : n ≤ 1000) (hv : ∀ i us, i < n → Val i us → Vals (Vl i) us) (hvl : ∀ i, (Vl i).length ≤ sizeLine) (hS0 : H0 S ≠ none) (hf0 : ∀ b ∈ fp, b ≠ S) :
    ∀ (k i : Nat) (s : Shared) (H : Hp) (Ts : List Addr), n - i = k → i ≤ n → Ts.length = i → Inv X pins σ H s → St i s.heap → LzEnd H0 S Ts Vl H → (∀ b ∈ fp, FpOk X pins H b ∧ b < s.heap.objs.size) →
    (∀ s' H' Ts', Inv X pins σ H' s' → Ts'.length = n → LzEnd H0 S Ts' Vl H' → (∃ vs c', s'.heap.get? S = some { cls := .type "list", data := .seq vs c' }) → R (.ok (.ret res)) s') →
    codeAny (model X.prog X.w) A (.builtin "list.extend.loop" ⟨[.ref S, .ref I, res], []⟩) R s := by
  intro k
  induction k with
  | zero =>
    intro i s H Ts hk hi hl IV hst L hf hR
    have hin : i = n := by omega
    subst hin
    refine codeAny_builtin F.entry_extend_loop ?_
    rw [Around.under_plainId F.plain_extend_loop _]
    show wpAny _ A.in1 (pyNext (.ref I) >>= _) _ _ s
    refine wpAny_bind (W.done s _ _ hst fun h' tk hm => ?_)
    have I1 : Inv X pins σ H { s with heap := h', toks := tk } := IV.turnedL hm fun b hb => (hf b hb).1
    obtain ⟨_, its, m, _, _, e⟩ := I1.lstM L.lst
    exact wpAny_pure (hR _ H Ts I1 hl L ⟨_, _, e⟩)
  | succ k ih =>
    intro i s H Ts hk hi hl IV hst L hf hR
    have hlt : i < n := by omega
    obtain ⟨_, its0, m0, _, _, e0⟩ := IV.lstM L.lst
    have hSlt : S < s.heap.objs.size := Heap.lt_size e0
    refine codeAny_builtin F.entry_extend_loop ?_
    rw [Around.under_plainId F.plain_extend_loop _]
    show wpAny _ A.in1 (pyNext (.ref I) >>= _) _ _ s
    refine wpAny_bind (W.item i s _ _ hlt hst hSlt fun us h' tk hU hT hst' hm => ?_)
    have hTn : H s.heap.objs.size = none := IV.hok.fresh (Nat.le_refl _)
    have rv := hv i us hlt hU
    have new : ObjOk X.prog X.w (upd H s.heap.objs.size (.tup (Vl i))) h' s.heap.objs.size (.tup (Vl i)) := ⟨hvl i, us, rv, ⟨_, hT, rfl, _, rfl⟩⟩
    have I1 : Inv X pins σ (upd H s.heap.objs.size (.tup (Vl i))) { s with heap := h', toks := tk } := IV.turnedNew hm (fun b hb => (hf b hb).1) (Nat.le_refl _) new
    have hST : S ≠ s.heap.objs.size := Nat.ne_of_lt hSlt
    have hS1 : upd H s.heap.objs.size (.tup (Vl i)) S = some (.lst (Ts.map V.ref)) := by rw [upd_ne hST]; exact L.lst
    obtain ⟨z1, its, m, r1, l1, e1⟩ := I1.lstM hS1
    replace e1 : h'.get? S = some { cls := .type "list", data := .seq its.toArray m } := e1
    have hlen : its.length = i := by rw [← l1, List.length_map, hl]
    show wpAny _ A.in1 (updateSeq S (·.push (.ref s.heap.objs.size)) >>= _) _ _ _
    refine wpAny_bind ?_
    refine wpAny_updateSeq e1 rfl (wpAny_pure ⟨plainId_quiet F.plain_extend_loop _, ?_⟩) (by rw [List.size_toArray, hlen]; omega) (by show (its.toArray.push _).size ≤ sizeLine + 1; rw [Array.size_push, List.size_toArray, hlen, sizeLine_eq]; omega)
    have I2 := I1.lset (t' := tk) (ys := (Ts ++ [s.heap.objs.size]).map V.ref) (its' := its ++ [.ref s.heap.objs.size]) (f := (·.push (.ref s.heap.objs.size))) hS1 e1 (by simp) (by rw [List.map_append]; exact r1.append (.cons rfl .nil)) (by rw [List.length_map, List.length_append, hl, sizeLine_eq]; simp; omega)
    refine ih (i + 1) _ _ (Ts ++ [s.heap.objs.size]) (by omega) hlt (by rw [List.length_append, hl]; rfl) I2 (W.frame _ h' _ hst' fun b o hb e => (Heap.get?_update_other _ _ (Ne.symm hb)).trans e) ?_ ?_ hR
    · have := L.push hS0 hTn
      rw [hl] at this
      exact this
    · intro b hb
      obtain ⟨q, q2⟩ := hf b hb
      have n1 : b ≠ S := hf0 b hb
      have n2 : b ≠ s.heap.objs.size := Nat.ne_of_lt q2
      refine ⟨⟨by rw [upd_ne n1, upd_ne n2]; exact q.1, q.2⟩, ?_⟩
      refine Nat.lt_of_lt_of_eq (Nat.lt_trans q2 (Heap.lt_size hT)) (Heap.size_update ..).symm
end
end Dv
end
section
set_option linter.all false
set_option maxRecDepth 100000
set_option maxHeartbeats 4000000
/-! E3: list(..), tuple(..) of such a source. -/
namespace Dv
open PySem PySem.Spec PyProof.Rows L2 Evl
theorem zip_no_len : typeLookup (.type "zip") "__len__" = pure none := by rw [typeLookup_type, builtinLookup_eq_fast]; kernel_rfl
theorem zip_no_hint : typeLookup (.type "zip") "__length_hint__" = pure none := by rw [typeLookup_type, builtinLookup_eq_fast]; kernel_rfl
theorem enum_no_len : typeLookup (.type "enumerate") "__len__" = pure none := by rw [typeLookup_type, builtinLookup_eq_fast]; kernel_rfl
theorem enum_no_hint : typeLookup (.type "enumerate") "__length_hint__" = pure none := by rw [typeLookup_type, builtinLookup_eq_fast]; kernel_rfl
/-- a type of iterators: neither list nor tuple, no length told -/
structure ItTy (T : String) : Prop where
  nl : (Value.type T == Value.type "list") = false
  nt : (Value.type T == Value.type "tuple") = false
  len : typeLookup (.type T) "__len__" = pure none
  hint : typeLookup (.type T) "__length_hint__" = pure none
theorem itTy_zip : ItTy "zip" := ⟨by decide, by decide, zip_no_len, zip_no_hint⟩
theorem itTy_enum : ItTy "enumerate" := ⟨by decide, by decide, enum_no_len, enum_no_hint⟩
section
variable {X : Cx} {pins : List (Addr × Obj)} {σ : L2.St} {A : Around} {I S : Addr} {fp : List Addr} {n : Nat} {Val : Nat → List Value → Prop} {St : Nat → Heap → Prop} {Vl : Nat → List V} {H : Hp} {R : Result → Shared → Prop} {T : String} {s : Shared}
/-- what a list is filled with -/
theorem extend_wk (iT : ItTy T) (W : LWk X.prog X.w A.in1 I S fp n Val St) (hn : n ≤ 1000) (hv : ∀ i us, i < n → Val i us → Vals (Vl i) us) (hvl : ∀ i, (Vl i).length ≤ sizeLine) (hI : I ∈ fp)
    (hT : s.TypeIs (.ref I) T) (hself : ∀ (s : Shared) (Q : Value → Shared → Prop) (E : Value → Shared → Prop), St 0 s.heap → Q (.ref I) s → wpAny (model X.prog X.w) A.in1 (pyIter (.ref I)) Q E s)
    (IV : Inv X pins σ H s) (hS : H S = some (.lst [])) (hst : St 0 s.heap) (hf : ∀ b ∈ fp, FpOk X pins H b ∧ b < s.heap.objs.size) (res : Value)
    (hR : ∀ s' H' Ts', Inv X pins σ H' s' → Ts'.length = n → LzEnd H S Ts' Vl H' → (∃ vs c', s'.heap.get? S = some { cls := .type "list", data := .seq vs c' }) → R (.ok (.ret res)) s') :
    wpAny (model X.prog X.w) A.in1 (Builtin.List.listExtendWith (.ref S) (.ref I) res)
      (fun fin s' => match fin with | .done f => R (.ok f) s' | .again c' => c'.quiet = true ∧ codeAny (model X.prog X.w) A c' R s') (fun e s' => R (.error e) s') s := by
  have hSI : S ≠ I := fun e => W.off (e ▸ hI)
  obtain ⟨_, its, c₀, r0, l0, hS0⟩ := IV.lstM hS
  have : its = [] := by cases r0; rfl
  subst this
  unfold Builtin.List.listExtendWith
  refine wpAny_bind (wpAny_typeOf hT ?_)
  have h1 : Builtin.List.listSameRef (.ref S) (.ref I) = false := by simp [Builtin.List.listSameRef, hSI]
  simp only [h1, iT.nl, iT.nt, Bool.or_false, Bool.false_eq_true, if_false]
  refine wpAny_bind (hself s _ _ hst ?_)
  refine wpAny_bind (wpAny_holding ?_)
  unfold Builtin.List.listLengthHint
  refine wpAny_bind (wpAny_specialOf hT iT.len ?_)
  show wpAny _ A.in1 (specialOf (Value.ref I) (Str.ofString "__length_hint__") >>= _) _ _ _
  refine wpAny_bind (wpAny_specialOf hT iT.hint ?_)
  refine wpAny_pure ?_
  show wpAny _ A.in1 (rule "list.extend.makes-room" >>= fun _ => Builtin.List.listTouch (.ref S) >>= fun _ =>
    again (.builtin "list.extend.loop" ⟨[.ref S, .ref I, res], []⟩)) _ _ _
  refine wpAny_bind (wpAny_rule ?_)
  refine wpAny_bind ?_
  show wpAny _ A.in1 (updateSeq S (·.push .none) >>= fun _ => updateSeq S (·.pop)) _ _ _
  refine wpAny_bind (wpAny_updateSeq hS0 rfl ?_)
  have hS₂ := Heap.get?_update_self (Obj.mapSeq (·.push Value.none)) hS0 rfl
  refine wpAny_updateSeq (hz := by seq_fits) hS₂ rfl ?_
  have hS₃ := Heap.get?_update_self (Obj.mapSeq (·.pop)) hS₂ rfl
  have oth : ∀ b o, b ≠ S → s.heap.get? b = some o → ((s.heap.update S (Obj.mapSeq (·.push Value.none))).update S (Obj.mapSeq (·.pop))).get? b = some o :=
    fun b o hb e => (Heap.get?_update_other _ _ (Ne.symm hb)).trans ((Heap.get?_update_other _ _ (Ne.symm hb)).trans e)
  have I2 : Inv X pins σ (upd H S (.lst [])) { s with heap := (s.heap.update S (Obj.mapSeq (·.push Value.none))).update S (Obj.mapSeq (·.pop)) } := by
    refine IV.write (t' := s.toks) (x := S) (e := S) (by rw [hS]; exact trivial) (.inl rfl) (fun b u hb e => oth b u hb e) ⟨_, hS₃⟩ ⟨Nat.zero_le _, [], _, .nil, hS₃⟩
  have eH : upd H S (.lst []) = H := by
    funext a
    by_cases ha : a = S
    · rw [ha, upd_same, hS]
    · rw [upd_ne ha]
  rw [eH] at I2
  refine wpAny_pure ⟨plainId_quiet F.plain_extend_loop _, loopL (H0 := H) W hn hv hvl (by rw [hS]; exact fun z => by cases z) (fun b hb z => W.off (z ▸ hb)) n 0 _ H [] rfl (Nat.zero_le _) rfl I2 (W.frame 0 s.heap _ hst oth) (LzEnd.none hS) (fun b hb => ⟨(hf b hb).1, ?_⟩) hR⟩
  refine Nat.lt_of_lt_of_eq (hf b hb).2 ?_
  show s.heap.objs.size = _
  rw [Heap.size_update, Heap.size_update]
end
end Dv
end
section
set_option linter.all false
set_option maxRecDepth 100000
set_option maxHeartbeats 4000000
/-! E4: list(..), tuple(..) of such a source: the rules. -/
namespace Dv
open PySem PySem.Spec PyProof.Rows L2 Evl
structure Src (prog : Program) (w : World) (T : String) (I : Addr) (fp rd : List Addr) (n : Nat) (Val : Nat → List Value → Prop) (St : Addr → Nat → Heap → Prop) : Prop where
  ty : ItTy T
  mem : I ∈ fp
  sub : ∀ b ∈ fp, b ∈ rd
  wk : ∀ (A : Around) (S : Addr), A.handled = none → S ∉ rd → LWk prog w A.in1 I S fp n Val (St S)
  self : ∀ (A : Around) (s : Shared) (Q : Value → Shared → Prop) (E : Value → Shared → Prop) (S : Addr), St S 0 s.heap → Q (.ref I) s → wpAny (model prog w) A (pyIter (.ref I)) Q E s
  typ : ∀ (s : Shared) (S : Addr), St S 0 s.heap → s.TypeIs (.ref I) T
abbrev TW := L2.St → Hp → (Nat → (Nat → List V) → Hp → Prop) → Prop
/-- an expression that makes such a source -/
def PWk (X : Cx) (e : Expr) (t : TW) : Prop :=
  ∀ (pins : List (Addr × Obj)) (s : Shared) (σ : L2.St) (H : Hp) (Q : Nat → (Nat → List V) → Hp → Prop), Inv X pins σ H s → t σ H Q →
    wpAny (model X.prog X.w) X.A (eval e X.env) (fun v s' => ∃ T I fp rd n Val St Vl H', v = .ref I ∧ Src X.prog X.w T I fp rd n Val St ∧ (∀ S, St S 0 s'.heap) ∧ (∀ b ∈ rd, b < s'.heap.objs.size) ∧ (∀ b ∈ fp, FpOk X pins H' b) ∧ n ≤ 1000 ∧
      (∀ i us, i < n → Val i us → Vals (Vl i) us) ∧ (∀ i, (Vl i).length ≤ sizeLine) ∧ Inv X pins σ H' s' ∧ Q n Vl H') X.xe s
def tLWk (t : TW) : TE := fun σ H Q => t σ H fun n Vl H1 => ∀ S Ts H2, H1 S = none → Ts.length = n → LzEnd (upd H1 S (.lst [])) S Ts Vl H2 → Q (.ref S) H2
def tTWk (t : TW) : TE := fun σ H Q => t σ H fun n Vl H1 => ∀ S Ts H2, H1 S = none → Ts.length = n → LzEnd (upd H1 S (.lst [])) S Ts Vl H2 → ∀ q, H2 q = none → Q (.ref q) (upd H2 q (.tup (Ts.map V.ref)))
section
variable {X : Cx} {e : Expr} {t : TW}
theorem pe_listWk {p pos : Pos} (hc : X.calm = true) (hg : Gl X "list") (hm : X.mg "list" = none) (he : PWk X e t) (na : starEach [e] X.env = (false, eval e X.env) :: starEach [] X.env := by rfl) : PE X (.Call (.Name "list" p) [e] [] pos) (tLWk t) := by
  refine ⟨fun pins s σ H Q I h => ?_⟩
  refine Call_ (ld_blt I hg hm boot_list (PyProof.Rows.callWith_type1 (args_cons (thn (he pins s σ H _ I h) fun x s1 ⟨T, J, fp, rd, n, Val, St0, Vl, H1, ex, src, st, hlt, hf, hn, hv, hvl, I1, q⟩ => args_nil ?_) na) na))
  subst ex
  have hh : X.A.handled = none := I1.ok.hd hc
  have hSr : s1.heap.objs.size ∉ rd := fun z => Nat.lt_irrefl _ (hlt _ z)
  have Hn : H1 s1.heap.objs.size = none := I1.hok.fresh (Nat.le_refl _)
  refine callType_codes (Q₁ := fun obj s₁ => obj = .ref s1.heap.objs.size ∧ s₁ = { s1 with heap := s1.heap.push { cls := .type "list", data := .seq #[] } }) F.called_list (F.typeCall_list_1 _) F.entry_list_init
    (code_list_new _ ⟨rfl, rfl⟩) fun obj s₁ h₁ => ?_
  obtain ⟨rfl, rfl⟩ := h₁
  have hS : (s1.heap.push { cls := .type "list", data := .seq #[] }).get? s1.heap.objs.size = some { cls := .type "list", data := .seq #[] } := Heap.get?_push_size _ rfl
  refine ⟨⟨_, hS, rfl⟩, F.args_list_init_2 _ _, ?_⟩
  show wpAny _ X.A.in1.in1 (do let old ← Builtin.List.listItems (.ref s1.heap.objs.size); Builtin.List.listUpdate (.ref s1.heap.objs.size) (fun _ => #[]); letGo old.toList.reverse; Builtin.List.listExtendWith (.ref s1.heap.objs.size) (.ref J) .none) _ _ _
  refine wpAny_bind ?_
  unfold Builtin.List.listItems
  refine wpAny_bind (wpAny_seqItems hS rfl (wpAny_pure ?_))
  show wpAny _ X.A.in1.in1 (updateSeq s1.heap.objs.size (fun _ => #[]) >>= fun _ => letGo (#[] : Array Value).toList.reverse >>= fun _ => Builtin.List.listExtendWith (.ref s1.heap.objs.size) (.ref J) .none) _ _ _
  refine wpAny_bind (wpAny_updateSeq hS rfl ?_)
  have hS₂ := Heap.get?_update_self (Obj.mapSeq (fun _ => (#[] : Array Value))) hS rfl
  refine wpAny_bind (wpAny_letGo ?_)
  have k2 : ∀ b u, s1.heap.get? b = some u → ((s1.heap.push { cls := .type "list", data := .seq #[] }).update s1.heap.objs.size (Obj.mapSeq (fun _ => (#[] : Array Value)))).get? b = some u := fun b u e =>
    (Heap.get?_update_other _ _ (Nat.ne_of_gt (Heap.lt_size e))).trans (Heap.get?_push_of_some _ e)
  have I2 : Inv X pins σ (upd H1 s1.heap.objs.size (.lst [])) { s1 with heap := (s1.heap.push { cls := .type "list", data := .seq #[] }).update s1.heap.objs.size (Obj.mapSeq (fun _ => (#[] : Array Value))) } :=
    I1.laid (t' := s1.toks) k2 (Nat.le_refl _) ⟨Nat.zero_le _, [], _, .nil, hS₂⟩
  have W := src.wk X.A.in1 s1.heap.objs.size hh hSr
  have st2 : St0 s1.heap.objs.size 0 ((s1.heap.push { cls := .type "list", data := .seq #[] }).update s1.heap.objs.size (Obj.mapSeq (fun _ => (#[] : Array Value)))) := W.frame 0 _ _ (st _) fun b o _ e => k2 b o e
  refine extend_wk (R := wants (fun r s₂ => r = .none ∧ EP X pins σ Q (.ref s1.heap.objs.size) s₂) X.xe) src.ty W hn hv hvl src.mem (src.typ _ _ st2) (fun s Q E h => src.self _ s Q E _ h) I2 upd_same st2 (fun b hb => ⟨?_, ?_⟩) .none fun s' H' Ts' I' hl L _ => ?_
  · have q := hf b hb
    exact ⟨by rw [upd_ne (Nat.ne_of_lt (hlt b (src.sub b hb)))]; exact q.1, q.2⟩
  · refine Nat.lt_of_lt_of_eq (Nat.lt_succ_of_lt (hlt b (src.sub b hb))) ?_
    show s1.heap.objs.size + 1 = (Heap.objs _).size
    rw [Heap.size_update, Heap.size_push]
  · exact ⟨rfl, .ref s1.heap.objs.size, H', I', rfl, q _ Ts' H' Hn hl L⟩
end
end Dv
end
section
set_option linter.all false
set_option maxRecDepth 100000
set_option maxHeartbeats 4000000
/-! E5: tuple(..) of such a source. -/
namespace Dv
open PySem PySem.Spec PyProof.Rows L2 Evl
section
variable {X : Cx} {pins : List (Addr × Obj)} {σ : L2.St} {A : Around} {J : Addr} {fp rd : List Addr} {n : Nat} {Val : Nat → List Value → Prop} {St0 : Addr → Nat → Heap → Prop} {Vl : Nat → List V} {H : Hp} {T : String} {s : Shared} {E : Value → Shared → Prop}
theorem collect_wk {Q : List Value → Shared → Prop} (hh : A.handled = none) (src : Src X.prog X.w T J fp rd n Val St0) (hn : n ≤ 1000) (hv : ∀ i us, i < n → Val i us → Vals (Vl i) us) (hvl : ∀ i, (Vl i).length ≤ sizeLine)
    (IV : Inv X pins σ H s) (st : ∀ S, St0 S 0 s.heap) (hlt : ∀ b ∈ rd, b < s.heap.objs.size) (hf : ∀ b ∈ fp, FpOk X pins H b)
    (hQ : ∀ (S : Addr) (s' : Shared) (H' : Hp) (Ts : List Addr) (us : List Value), H S = none → Inv X pins σ H' s' → Ts.length = n → LzEnd (upd H S (.lst [])) S Ts Vl H' → Vals (Ts.map V.ref) us → us.length ≤ 1000 → Q us s') : wpAny (model X.prog X.w) A (collect (.ref J)) Q E s := by
  have hSr : s.heap.objs.size ∉ rd := fun z => Nat.lt_irrefl _ (hlt _ z)
  have Hn : H s.heap.objs.size = none := IV.hok.fresh (Nat.le_refl _)
  unfold collect
  refine wpAny_bind (wpAny_runValue (codeAny_builtin F.entry_proto_collect ?_))
  rw [Around.under_plainId F.plain_proto_collect _]
  show wpAny _ A.in1 (newList [] >>= fun l => again (.builtin "list.__iadd__" ⟨[l, .ref J], []⟩)) _ _ s
  refine wpAny_bind (wpAny_newObj_type ?_)
  refine wpAny_pure ⟨plainId_quiet F.plain_list_iadd _, codeAny_builtin F.entry_list_iadd ?_⟩
  rw [Around.under_plainId F.plain_list_iadd _]
  have I2 : Inv X pins σ (upd H s.heap.objs.size (.lst [])) { s with heap := s.heap.push { cls := .type "list", data := .seq ([] : List Value).toArray } } :=
    IV.laid (t' := s.toks) (fun b u e => Heap.get?_push_of_some _ e) (Nat.le_refl _) ⟨Nat.zero_le _, [], _, .nil, Heap.get?_push_size _ rfl⟩
  have W := src.wk A s.heap.objs.size hh hSr
  have st2 : St0 s.heap.objs.size 0 (s.heap.push { cls := .type "list", data := .seq ([] : List Value).toArray }) := W.frame 0 _ _ (st _) fun b o _ e => Heap.get?_push_of_some _ e
  show wpAny _ A.in1 (Builtin.List.listExtendWith (.ref s.heap.objs.size) (.ref J) (.ref s.heap.objs.size)) _ _ _
  have key := extend_wk (A := A) (R := fun r s' => ∃ H' Ts', r = .ok (.ret (.ref s.heap.objs.size)) ∧ Inv X pins σ H' s' ∧ Ts'.length = n ∧ LzEnd (upd H s.heap.objs.size (.lst [])) s.heap.objs.size Ts' Vl H') src.ty W hn hv hvl src.mem (src.typ _ _ st2) (fun s Q E h => src.self _ s Q E _ h) I2 upd_same st2 (fun b hb => ⟨?_, ?_⟩) (.ref s.heap.objs.size) fun s' H' Ts' I' hl L _ => ⟨H', Ts', rfl, I', hl, L⟩
  · refine wpAny_mono key (fun fin s' h => ?_) (fun e s' h => ?_)
    · have fin' : ∀ s'' : Shared, (∃ H' Ts', Except.ok (.ret (.ref s.heap.objs.size)) = (Except.ok (.ret (.ref s.heap.objs.size)) : Result) ∧ Inv X pins σ H' s'' ∧ Ts'.length = n ∧ LzEnd (upd H s.heap.objs.size (.lst [])) s.heap.objs.size Ts' Vl H') → wpAny (model X.prog X.w) A (load s.heap.objs.size >>= fun o => match o.data with | .seq xs _ => pure xs.toList | _ => unsupported "internal:collect") Q E s'' := by
        rintro s'' ⟨H', Ts', _, I', hl, L⟩
        obtain ⟨_, its, m, rv, ll, e⟩ := I'.lstM L.lst
        refine wpAny_bind (wpAny_load e (wpAny_pure ?_))
        show Q its.toArray.toList s''
        rw [List.toList_toArray]
        exact hQ _ s'' H' Ts' its Hn I' hl L rv (by rw [← ll, List.length_map, hl]; exact hn)
      cases fin with
      | done f =>
        obtain ⟨H', Ts', e, r⟩ := h
        cases e
        exact fin' _ ⟨H', Ts', rfl, r⟩
      | again c' =>
        refine ⟨h.1, codeAny_mono h.2 fun rr s'' hr' => ?_⟩
        obtain ⟨H', Ts', e, r⟩ := hr'
        cases e
        exact fin' _ ⟨H', Ts', rfl, r⟩
    · obtain ⟨_, _, e, _⟩ := h
      cases e
  · have q := hf b hb
    exact ⟨by rw [upd_ne (Nat.ne_of_lt (hlt b (src.sub b hb)))]; exact q.1, q.2⟩
  · refine Nat.lt_of_lt_of_eq (Nat.lt_succ_of_lt (hlt b (src.sub b hb))) ?_
    show s.heap.objs.size + 1 = (Heap.objs _).size
    rw [Heap.size_push]
theorem pe_tupWk {e : Expr} {t : TW} {p pos : Pos} (hc : X.calm = true) (hg : Gl X "tuple") (hm : X.mg "tuple" = none) (he : PWk X e t) (na : starEach [e] X.env = (false, eval e X.env) :: starEach [] X.env := by rfl) : PE X (.Call (.Name "tuple" p) [e] [] pos) (tTWk t) := by
  refine ⟨fun pins s σ H Q I h => ?_⟩
  refine Call_ (ld_blt I hg hm boot_tuple (PyProof.Rows.callWith_type1 (args_cons (thn (he pins s σ H _ I h) fun x s1 ⟨T, J, fp, rd, n, Val, St0, Vl, H1, ex, src, st, hlt, hf, hn, hv, hvl, I1, q⟩ => args_nil ?_) na) na))
  subst ex
  have hh : X.A.handled = none := I1.ok.hd hc
  refine callType_codes (Q₁ := fun obj s₁ => s₁.TypeIs obj "tuple" ∧ EP X pins σ Q obj s₁) F.called_tuple (F.typeCall_tuple_1 _) F.entry_object_init ?_ fun obj s₁ h₁ =>
    ⟨h₁.1, F.args_object_init_2 obj _, object_init_meets F.called_tuple.init.lookup F.called_tuple.made (by decide) X.prog X.w X.A.in1 _ s₁ ⟨h₁.1, rfl, h₁.2⟩⟩
  refine codeAny_of_tree ?_
  show wpAny _ X.A.in1.in1 (do checkBuiltinCall "tuple.__new__" ⟨[.type "tuple", .ref J], []⟩; again (.builtin "tuple.__new__" ⟨[.type "tuple", .ref J], []⟩)) _ _ s1
  refine wpAny_bind (wpAny_of_eq (F.newCall_tuple_1 _) (wpAny_pure ⟨plainId_quiet F.plain_tuple_new _, codeAny_builtin F.entry_tuple_new ?_⟩))
  rw [Around.under_plainId F.plain_tuple_new _]
  have hsub := sub_tuple_self
  have hinit := init_tuple_lookup
  have hmh := madeHere_tuple
  have hTI : s1.TypeIs (.ref J) T := src.typ _ 0 (st 0)
  have h1 := src.ty.nl
  have h2 := src.ty.nt
  wp_walk using wpAny_typeOf hTI, collect_wk (A := X.A.in1.in1) hh src hn hv hvl I1 st hlt hf
  intro S s' H' Ts us Hn I' hl L rv hle
  refine wpAny_bind (wpAny_pure ?_)
  show wpAny _ _ (Builtin.Tuple.tupleExact us.toArray >>= fun v => ret v) _ _ _
  unfold Builtin.Tuple.tupleExact
  refine wpAny_bind (wpAny_newObj_type ?_ (by show us.toArray.size ≤ sizeLine; rw [List.size_toArray, sizeLine_eq]; omega))
  refine wpAny_pure ⟨⟨_, Heap.get?_push_size _ rfl, rfl⟩, ?_⟩
  refine ⟨.ref s'.heap.objs.size, upd H' s'.heap.objs.size (.tup (Ts.map V.ref)), I'.laid (t' := s'.toks) (fun c o e => Heap.get?_push_of_some _ e) (Nat.le_refl _) (show ObjOk X.prog X.w _ _ _ (.tup (Ts.map V.ref)) from ⟨?_, us, rv, IsTup.new _ _⟩), rfl, q S Ts H' Hn hl L _ (I'.hok.fresh (Nat.le_refl _))⟩
  rw [List.length_map, hl, sizeLine_eq]
  omega
end
end Dv
end
section
set_option linter.all false
set_option maxRecDepth 100000
set_option maxHeartbeats 4000000
/-! E6: zip of two, enumerate: sources of kept tuples. -/
namespace Dv
open PySem PySem.Spec PyProof.Rows L2 Evl
/-- a list or a tuple -/
def SqS (K : PySem.W.Frag) (H : Hp) (a : Addr) (xs : List V) : Prop := SqL K H a xs ∨ SqT K H a xs
/-- how it is walked -/
structure Wlk (a : Addr) (its : List Value) (h : Heap) (o : Obj) (HB : Heap → Prop) (StA : Addr → Nat → Heap → Prop) : Prop where
  beg : Begins (.ref a) o HB
  now : HB h
  lt : a < h.objs.size
  dr : ∀ (prog : Program) (w : World) (A : Around) (it : Addr), A.handled = none → a ≠ it → Draws prog w A it [it, a] its.length (fun i v => its[i]? = some v) (StA it)
  st : ∀ it h', h'.get? it = some o → HB h' → StA it 0 h'
  it : ∀ it i h', StA it i h' → it < h'.objs.size ∧ a < h'.objs.size
theorem wlk_of {X : Cx} {pins : List (Addr × Obj)} {σ : L2.St} {H : Hp} {s : Shared} {a : Addr} {xs : List V} (I : Inv X pins σ H s) (h : SqS X.K H a xs) : ∃ its o HB StA, Vals xs its ∧ Wlk a its s.heap o HB StA := by
  rcases h with h | h
  · obtain ⟨its, rv, p, hz⟩ := I.list h
    refine ⟨its, _, _, fun it i h => h.IsListIter it a i ∧ h.IsList a its.toArray, rv, begins_list a its.toArray, p.isList, ?_, fun prog w A it hh ne => ?_, fun it h' e hb => ⟨⟨_, e, rfl, rfl⟩, hb⟩, fun it i h' st => ?_⟩
    · obtain ⟨o, e, _⟩ := p.isList; exact Heap.lt_size e
    · have := Draws.list (prog := prog) (w := w) hh it a ne its.toArray
      simpa using this
    · obtain ⟨⟨o, e, _⟩, ⟨o2, e2, _⟩⟩ := st
      exact ⟨Heap.lt_size e, Heap.lt_size e2⟩
  · obtain ⟨its, rv, p, hz⟩ := I.tuple h
    refine ⟨its, _, _, fun it i h => h.IsTupleIter it a i ∧ h.IsTuple a its.toArray, rv, begins_tuple a its.toArray, p, ?_, fun prog w A it hh ne => ?_, fun it h' e hb => ⟨⟨_, e, rfl, rfl⟩, hb⟩, fun it i h' st => ?_⟩
    · obtain ⟨o, e, _⟩ := id p; exact Heap.lt_size e
    · have := Draws.tuple (prog := prog) (w := w) hh it a ne its.toArray
      simpa using this
    · obtain ⟨⟨o, e, _⟩, ⟨o2, e2, _⟩⟩ := st
      exact ⟨Heap.lt_size e, Heap.lt_size e2⟩
/-! ### enumerate -/
def stEnum (e it : Addr) (StA : Addr → Nat → Heap → Prop) (S : Addr) (i : Nat) (h : Heap) : Prop :=
  StA it i h ∧ e < h.objs.size ∧ ((∃ old, IsEnum h e it ((i : Nat) : Int) old) ∨ ∃ T f oT old, IsEnumHeld h e it ((i : Nat) : Int) old T f ∧ h.get? T = some oT ∧ T ≠ e ∧ T ≠ it ∧ T ≠ S)
theorem lwk_enum {prog : Program} {w : World} {A : Around} {e it a S : Addr} {its : List Value} {StA : Addr → Nat → Heap → Prop} (hh : A.handled = none) (D : ∀ A : Around, A.handled = none → Draws prog w A it [it, a] its.length (fun i v => its[i]? = some v) (StA it))
    (live : ∀ i h, StA it i h → it < h.objs.size) (hei : e ≠ it) (hea : e ≠ a) (hS : S ∉ [e, it, a]) :
    LWk prog w A.in1 e S [e, it] its.length (fun i us => ∃ t x, its[i]? = some x ∧ us = [.int (i : Nat) t, x]) (stEnum e it StA S) where
  off := fun z => hS (by simp at z ⊢; rcases z with z | z <;> simp [z])
  frame := fun i h h' st k => by
    obtain ⟨hs, hl, st⟩ := st
    have nS : ∀ b, b ∈ [it, a] → b ≠ S := fun b hb z => hS (by subst z; exact List.mem_cons_of_mem _ hb)
    have neS : e ≠ S := fun z => hS (by subst z; exact List.mem_cons_self)
    have hs' := (D A hh).frame _ _ _ hs fun b hb o q => k b o (nS b hb) q
    rcases st with ⟨old, he⟩ | ⟨T, f, oT, old, he, hT, t1, t2, t3⟩
    · have he' := k e _ neS he
      exact ⟨hs', Heap.lt_size he', .inl ⟨old, he'⟩⟩
    · have he' := k e _ neS he
      exact ⟨hs', Heap.lt_size he', .inr ⟨T, f, oT, old, he', k T _ t3 hT, t1, t2, t3⟩⟩
  item := fun i s Q E hi st hSl hQ => by
    obtain ⟨hs, hl, st⟩ := st
    have hef : e ∉ [it, a] := by simp [hei, hea]
    have hit := live _ _ hs
    have e1 : ((i + 1 : Nat) : Int) = (i : Int) + 1 := by omega
    rcases st with ⟨old, he⟩ | ⟨T, f, oT, old, he, hT, t1, t2, t3⟩
    · refine wpAny_pyNext_enum_itemC (D A.in1.in1 hh) he hs hi hei hef fun x h' tk hP ho hs' hT hsz hk => ?_
      refine hQ _ h' (tk + 1) ⟨tk, x, hP, rfl⟩ hT ⟨hs', Heap.lt_size ho, .inr ⟨s.heap.objs.size, false, _, x, ?_, hT, Nat.ne_of_gt hl, Nat.ne_of_gt hit, Nat.ne_of_gt hSl⟩⟩ fun b o hb q => hk b o (fun z => hb (by simp [z])) (fun z => hb (by simp [z])) q
      rw [e1]
      exact ho
    · refine next_enumH_item (D A.in1.in1 hh) he hT t1 t2 hs hi hei hef fun x h' tk hP ho hs' hT' hsz hk => ?_
      refine hQ _ h' (tk + 1) ⟨tk, x, hP, rfl⟩ hT' ⟨hs', Heap.lt_size ho, .inr ⟨T, true, oT, old, ?_, hk T _ t1 t2 hT, t1, t2, t3⟩⟩ fun b o hb q => hk b o (fun z => hb (by simp [z])) (fun z => hb (by simp [z])) q
      rw [e1]
      exact ho
  done := fun s Q E st hQ => by
    obtain ⟨hs, hl, st⟩ := st
    rcases st with ⟨old, he⟩ | ⟨T, f, oT, old, he, hT, t1, t2, t3⟩
    · exact wpAny_pyNext_enum_endD (D A.in1.in1 hh) he hs fun h' eb => hQ h' s.toks fun b o hb q => eb b o (fun z => hb (by simp [z])) q
    · exact next_enumH_end (D A.in1.in1 hh) he hs fun h' eb => hQ h' s.toks fun b o hb q => eb b o (fun z => hb (by simp [z])) q
end Dv
end
section
set_option linter.all false
set_option maxRecDepth 100000
set_option maxHeartbeats 4000000
/-! E7: zip of two: a source of kept tuples; the rules. -/
namespace Dv
open PySem PySem.Spec PyProof.Rows L2 Evl
def stZip (z TI TO i1 i2 : Addr) (St1 St2 : Addr → Nat → Heap → Prop) (S : Addr) (i : Nat) (h : Heap) : Prop :=
  IsTupOf2 h TI (.ref i1) (.ref i2) ∧ St1 i1 i h ∧ St2 i2 i h ∧ z < h.objs.size ∧ ((IsZip h z TI TO .none ∧ ∃ x y, IsTupOf2 h TO x y) ∨ ∃ T f oT, IsZipHeld h z TI TO T f ∧ h.get? T = some oT ∧ T ≠ z ∧ T ≠ i1 ∧ T ≠ i2 ∧ T ≠ S)
theorem lwk_zip {prog : Program} {w : World} {A : Around} {z TI TO i1 i2 a b S : Addr} {l1 l2 : List Value} {St1 St2 : Addr → Nat → Heap → Prop} (hh : A.handled = none)
    (D1 : ∀ A : Around, A.handled = none → Draws prog w A i1 [i1, a] l1.length (fun i v => l1[i]? = some v) (St1 i1)) (D2 : ∀ A : Around, A.handled = none → Draws prog w A i2 [i2, b] l2.length (fun i v => l2[i]? = some v) (St2 i2))
    (v1 : ∀ i h, St1 i1 i h → i1 < h.objs.size) (v2 : ∀ i h, St2 i2 i h → i2 < h.objs.size) (Z : ZipSep2 z TI TO i1 i2 [i1, a] [i2, b]) (hS : S ∉ [z, TI, TO, i1, i2, a, b]) :
    LWk prog w A.in1 z S [z, TI, TO, i1, i2] (min l1.length l2.length) (fun i us => ∃ x y, l1[i]? = some x ∧ l2[i]? = some y ∧ us = [x, y]) (stZip z TI TO i1 i2 St1 St2 S) where
  off := fun q => hS (by simp at q ⊢; rcases q with q | q | q | q | q <;> simp [q])
  frame := fun i h h' st k => by
    obtain ⟨hTI, s1, s2, hl, st⟩ := st
    have nS : ∀ c, c ∈ [z, TI, TO, i1, i2, a, b] → c ≠ S := fun c hc q => hS (by subst q; exact hc)
    have s1' := (D1 A hh).frame _ _ _ s1 fun c hc o q => k c o (nS c (by simp at hc ⊢; rcases hc with hc | hc <;> simp [hc])) q
    have s2' := (D2 A hh).frame _ _ _ s2 fun c hc o q => k c o (nS c (by simp at hc ⊢; rcases hc with hc | hc <;> simp [hc])) q
    have nz := nS z (by simp)
    rcases st with ⟨hz, x, y, hTO⟩ | ⟨T, f, oT, hz, hT, t1, t2, t3, t4⟩
    · have hz' := k z _ nz hz
      have hTO' := k TO _ (nS TO (by simp)) hTO
      exact ⟨k TI _ (nS TI (by simp)) hTI, s1', s2', Heap.lt_size hz', .inl ⟨hz', x, y, hTO'⟩⟩
    · have hz' := k z _ nz hz
      exact ⟨k TI _ (nS TI (by simp)) hTI, s1', s2', Heap.lt_size hz', .inr ⟨T, f, oT, hz', k T _ t4 hT, t1, t2, t3, t4⟩⟩
  item := fun i s Q E hi st hSl hQ => by
    obtain ⟨hTI, s1, s2, hl, st⟩ := st
    have hi1 : i < l1.length := Nat.lt_of_lt_of_le hi (Nat.min_le_left ..)
    have hi2 : i < l2.length := Nat.lt_of_lt_of_le hi (Nat.min_le_right ..)
    have hit1 := v1 _ _ s1
    have hit2 := v2 _ _ s2
    rcases st with ⟨hz, x, y, hTO⟩ | ⟨T, f, oT, hz, hT, t1, t2, t3, t4⟩
    · refine wpAny_pyNext_zipD2_item Z (D1 A.in1.in1 hh) (D2 A.in1.in1 hh) hz hTI hTO s1 s2 hi1 hi2 fun x1 x2 h' tk p1 p2 a1 a2 b1 b2 hT hsz hk => ?_
      exact hQ _ h' tk ⟨x1, x2, p1, p2, rfl⟩ hT ⟨hk _ _ Z.TIz Z.TITO Z.TIi1 Z.TIi2 hTI, b1, b2, Heap.lt_size a1, .inr ⟨s.heap.objs.size, false, _, a1, hT, Nat.ne_of_gt hl, Nat.ne_of_gt hit1, Nat.ne_of_gt hit2, Nat.ne_of_gt hSl⟩⟩
        fun c o hb q => hk c o (fun z => hb (by simp [z])) (fun z => hb (by simp [z])) (fun z => hb (by simp [z])) (fun z => hb (by simp [z])) q
    · refine next_zipH_item Z (D1 A.in1.in1 hh) (D2 A.in1.in1 hh) hz hT hTI s1 s2 hi1 hi2 fun x1 x2 h' tk p1 p2 a1 b1 b2 hT' hsz hk => ?_
      exact hQ _ h' tk ⟨x1, x2, p1, p2, rfl⟩ hT' ⟨hk _ _ Z.TIz Z.TIi1 Z.TIi2 hTI, b1, b2, Heap.lt_size a1, .inr ⟨T, true, oT, a1, hk _ _ t1 t2 t3 hT, t1, t2, t3, t4⟩⟩
        fun c o hb q => hk c o (fun z => hb (by simp [z])) (fun z => hb (by simp [z])) (fun z => hb (by simp [z])) q
  done := fun s Q E st hQ => by
    obtain ⟨hTI, s1, s2, hl, st⟩ := st
    have he : min l1.length l2.length = l1.length ∨ min l1.length l2.length = l2.length := by omega
    rcases st with ⟨hz, x, y, hTO⟩ | ⟨T, f, oT, hz, hT, t1, t2, t3, t4⟩
    · exact wpAny_pyNext_zipD2_end Z (D1 A.in1.in1 hh) (D2 A.in1.in1 hh) hz hTI hTO s1 s2 (Nat.min_le_left ..) (Nat.min_le_right ..) he fun h' tk hk => hQ h' tk fun c o hb q => hk c o (fun z => hb (by simp [z])) (fun z => hb (by simp [z])) (fun z => hb (by simp [z])) (fun z => hb (by simp [z])) q
    · exact next_zipH_end Z (D1 A.in1.in1 hh) (D2 A.in1.in1 hh) hz hT hTI s1 s2 (Nat.min_le_left ..) (Nat.min_le_right ..) he fun h' tk hk => hQ h' tk fun c o hb q => hk c o (fun z => hb (by simp [z])) (fun z => hb (by simp [z])) (fun z => hb (by simp [z])) q

/-! ### the expressions -/
def tWEnum (K : PySem.W.Frag) (ta : TA) : TW := fun σ H Q => ta σ H fun vs H1 => ∃ a xs, vs = [.ref a] ∧ SqS K H1 a xs ∧ xs.length ≤ 1000 ∧ Q xs.length (fun i => [.int (i : Nat), xs.getD i .non]) H1
def tWZip (K : PySem.W.Frag) (ta : TA) : TW := fun σ H Q => ta σ H fun vs H1 => ∃ a b xs ys, vs = [.ref a, .ref b] ∧ SqS K H1 a xs ∧ SqS K H1 b ys ∧ min xs.length ys.length ≤ 1000 ∧ Q (min xs.length ys.length) (fun i => [xs.getD i .non, ys.getD i .non]) H1
section
variable {X : Cx} {e e2 : Expr} {ta : TA}
theorem vals_at {xs : List V} {us : List Value} (r : Vals xs us) {i : Nat} {u : Value} (h : us[i]? = some u) : RelV (xs.getD i .non) u := by
  have hl : i < xs.length := by rw [r.length]; exact (List.getElem?_eq_some_iff.mp h).1
  obtain ⟨y, hy, ry⟩ := r.get (List.getElem?_eq_getElem hl)
  rw [h] at hy
  cases hy
  rw [List.getD_eq_getElem?_getD, List.getElem?_eq_getElem hl]
  exact ry
theorem pwk_enum {p pos : Pos} (hc : X.calm = true) (hg : Gl X "enumerate") (hm : X.mg "enumerate" = none) (ha : PA X [e] ta) (hs : starEach [e] X.env = [(false, eval e X.env)] := by rfl) : PWk X (.Call (.Name "enumerate" p) [e] [] pos) (tWEnum X.K ta) := by
  intro pins s σ H Q I h
  refine Call_ (ld_blt I hg hm boot_enumerate (PyProof.Rows.callWith_type1 (thn (ha.run pos pins s σ H _ I h) fun us s1 ⟨vs, H1, I1, r1, a, xs, ex, hq, hn, q⟩ => ?_) hs rfl))
  subst ex
  rw [Vals.ref1 r1]
  obtain ⟨its, o, HB, StA, rv, W⟩ := wlk_of I1 hq
  have hlen : xs.length = its.length := rv.length
  have hlt := W.lt
  refine enum1 W.beg W.now fun h' he hit hsz hk => ?_
  have nei : s1.heap.objs.size + 1 ≠ s1.heap.objs.size := Nat.succ_ne_self _
  have nea : s1.heap.objs.size + 1 ≠ a := Nat.ne_of_gt (Nat.lt_succ_of_lt hlt)
  have nai : a ≠ s1.heap.objs.size := Nat.ne_of_lt hlt
  have st0 : StA s1.heap.objs.size 0 h' := W.st _ _ hit (W.beg.keeps _ _ W.now hk)
  refine ⟨"enumerate", s1.heap.objs.size + 1, [s1.heap.objs.size + 1, s1.heap.objs.size], [s1.heap.objs.size + 1, s1.heap.objs.size, a], its.length, (fun i us => ∃ t x, its[i]? = some x ∧ us = [.int (i : Nat) t, x]), (fun S => stEnum (s1.heap.objs.size + 1) s1.heap.objs.size StA S), (fun i => [.int (i : Nat), xs.getD i .non]), H1, rfl,
    ⟨itTy_enum, by simp, fun b hb => by simp at hb ⊢; rcases hb with hb | hb <;> simp [hb], fun A S hh hS => lwk_enum hh (fun A' hh' => W.dr X.prog X.w A' _ hh' nai) (fun i h st => (W.it _ _ _ st).1) nei nea hS, fun A s Q E S st h => ?_, fun s S st => ?_⟩,
    fun S => ⟨st0, Heap.lt_size he, .inl ⟨.none, he⟩⟩, fun b hb => ?_, fun b hb => ?_, by rw [← hlen]; exact hn, fun i us hi hv => ?_, fun i => by show 2 ≤ sizeLine; decide, I1.kept (t' := s1.toks) hk, by rw [← hlen]; exact q⟩
  · obtain ⟨_, _, st⟩ := st
    rcases st with ⟨old, he⟩ | ⟨T, f, oT, old, he, hT, t1, t2, t3⟩
    · exact wpAny_pyIter_enum he h
    · have hTy : s.TypeIs (.ref (s1.heap.objs.size + 1)) "enumerate" := ⟨_, he, rfl⟩
      refine wpAny_pyIter_slot hTy F.slot_enumerate_iter (wpAny_call_entry F.slot_enumerate_iter hTy F.entry_enumerate_iter ?_ (F.args_enumerate_iter_1 _))
      show wpAny _ _ (ret (.ref (s1.heap.objs.size + 1))) _ _ s
      exact wpAny_pure ⟨_, rfl, "enumerate", _, hTy, F.slot_enumerate_next.lookup, h⟩
  · obtain ⟨_, _, st⟩ := st
    rcases st with ⟨old, he⟩ | ⟨T, f, oT, old, he, hT, t1, t2, t3⟩
    · exact ⟨_, he, rfl⟩
    · exact ⟨_, he, rfl⟩
  · have e' : b = s1.heap.objs.size + 1 ∨ b = s1.heap.objs.size ∨ b = a := by simpa using hb
    show b < h'.objs.size
    rw [hsz]
    rcases e' with rfl | rfl | rfl
    · exact Nat.lt_succ_self _
    · exact Nat.lt_add_of_pos_right (by decide)
    · exact Nat.lt_of_lt_of_le hlt (Nat.le_add_right _ _)
  · have e' : b = s1.heap.objs.size + 1 ∨ b = s1.heap.objs.size := by simpa using hb
    have hle : s1.heap.objs.size ≤ b := by
      rcases e' with rfl | rfl
      · exact Nat.le_succ _
      · exact Nat.le_refl _
    exact I1.fpOk hle (I1.hok.fresh hle)
  · obtain ⟨t, x, hx, rfl⟩ := hv
    exact .cons ⟨t, rfl⟩ (.cons (vals_at rv hx) .nil)
theorem pwk_zip {p pos : Pos} (hc : X.calm = true) (hg : Gl X "zip") (hm : X.mg "zip" = none) (ha : PA X [e, e2] ta) (hs : starEach [e, e2] X.env = (false, eval e X.env) :: starEach [e2] X.env := by rfl) (hpl : (backTo pos (starEach [e2] X.env)).any (·.1) = false := by rfl) :
    PWk X (.Call (.Name "zip" p) [e, e2] [] pos) (tWZip X.K ta) := by
  intro pins s σ H Q I h
  refine Call_ (ld_blt I hg hm PyProof.Rows.boot_zip (PyProof.Rows.callWith_type1 (thn (ha.run pos pins s σ H _ I h) fun us s1 ⟨vs, H1, I1, r1, a, b, xs, ys, ex, hq1, hq2, hn, q⟩ => ?_) hs hpl))
  subst ex
  obtain ⟨u1, u2, eu, ra, rb⟩ : ∃ u v, us = [u, v] ∧ RelV (.ref a) u ∧ RelV (.ref b) v := by
    cases r1 with
    | cons a r =>
      cases r with
      | cons b r =>
        cases r
        exact ⟨_, _, rfl, a, b⟩
  subst eu
  cases (show u1 = Value.ref a from ra)
  cases (show u2 = Value.ref b from rb)
  obtain ⟨l1, o1, HB1, St1, rv1, W1⟩ := wlk_of I1 hq1
  obtain ⟨l2, o2, HB2, St2, rv2, W2⟩ := wlk_of I1 hq2
  have hlen1 : xs.length = l1.length := rv1.length
  have hlen2 : ys.length = l2.length := rv2.length
  have lt1 := W1.lt
  have lt2 := W2.lt
  refine zip_begins2 W1.beg W2.beg W1.now W2.now fun h' hz hTI hTO g1 g2 hsz hk => ?_
  have Z := zip_sep2 (N := s1.heap.objs.size) (fp1 := [a]) (fp2 := [b]) (fun x hx => by rw [List.mem_singleton] at hx; rw [hx]; exact lt1) (fun x hx => by rw [List.mem_singleton] at hx; rw [hx]; exact lt2)
  have na1 : a ≠ s1.heap.objs.size := Nat.ne_of_lt lt1
  have nb2 : b ≠ s1.heap.objs.size + 1 := Nat.ne_of_lt (Nat.lt_succ_of_lt lt2)
  refine ⟨"zip", s1.heap.objs.size + 4, [s1.heap.objs.size + 4, s1.heap.objs.size + 2, s1.heap.objs.size + 3, s1.heap.objs.size, s1.heap.objs.size + 1], [s1.heap.objs.size + 4, s1.heap.objs.size + 2, s1.heap.objs.size + 3, s1.heap.objs.size, s1.heap.objs.size + 1, a, b], min l1.length l2.length, (fun i us => ∃ x y, l1[i]? = some x ∧ l2[i]? = some y ∧ us = [x, y]),
    (fun S => stZip (s1.heap.objs.size + 4) (s1.heap.objs.size + 2) (s1.heap.objs.size + 3) s1.heap.objs.size (s1.heap.objs.size + 1) St1 St2 S), (fun i => [xs.getD i .non, ys.getD i .non]), H1, rfl,
    ⟨itTy_zip, by simp, fun b hb => by simp at hb ⊢; rcases hb with hb | hb | hb | hb | hb <;> simp [hb], fun A S hh hS => lwk_zip hh (fun A' hh' => W1.dr X.prog X.w A' _ hh' na1) (fun A' hh' => W2.dr X.prog X.w A' _ hh' nb2) (fun i h st => (W1.it _ _ _ st).1) (fun i h st => (W2.it _ _ _ st).1) Z hS, fun A s Q E S st h => ?_, fun s S st => ?_⟩,
    fun S => ⟨hTI, W1.st _ _ g1 (W1.beg.keeps _ _ W1.now hk), W2.st _ _ g2 (W2.beg.keeps _ _ W2.now hk), Heap.lt_size hz, .inl ⟨hz, _, _, hTO⟩⟩, fun c hb => ?_, fun c hb => ?_, by rw [← hlen1, ← hlen2]; exact hn, fun i us hi hv => ?_, fun i => by show 2 ≤ sizeLine; decide, I1.kept (t' := s1.toks) hk, by rw [← hlen1, ← hlen2]; exact q⟩
  · obtain ⟨_, _, _, _, st⟩ := st
    rcases st with ⟨hz, x, y, hTO⟩ | ⟨T, f, oT, hz, hT, t1, t2, t3, t4⟩
    · exact wpAny_pyIter_zip hz h
    · have hTy : s.TypeIs (.ref (s1.heap.objs.size + 4)) "zip" := ⟨_, hz, rfl⟩
      refine wpAny_pyIter_slot hTy F.slot_zip_iter (wpAny_call_entry F.slot_zip_iter hTy F.entry_zip_iter ?_ (F.args_zip_iter_1 _))
      show wpAny _ _ (ret (.ref (s1.heap.objs.size + 4))) _ _ s
      exact wpAny_pure ⟨_, rfl, "zip", _, hTy, F.slot_zip_next.lookup, h⟩
  · obtain ⟨_, _, _, _, st⟩ := st
    rcases st with ⟨hz, x, y, hTO⟩ | ⟨T, f, oT, hz, hT, t1, t2, t3, t4⟩
    · exact ⟨_, hz, rfl⟩
    · exact ⟨_, hz, rfl⟩
  · have e' : c = s1.heap.objs.size + 4 ∨ c = s1.heap.objs.size + 2 ∨ c = s1.heap.objs.size + 3 ∨ c = s1.heap.objs.size ∨ c = s1.heap.objs.size + 1 ∨ c = a ∨ c = b := by simpa using hb
    show c < h'.objs.size
    rw [hsz]
    rcases e' with rfl | rfl | rfl | rfl | rfl | rfl | rfl
    · exact Nat.lt_succ_self _
    · exact Nat.add_lt_add_left (by decide) _
    · exact Nat.add_lt_add_left (by decide) _
    · exact Nat.lt_add_of_pos_right (by decide)
    · exact Nat.add_lt_add_left (by decide) _
    · exact Nat.lt_of_lt_of_le lt1 (Nat.le_add_right _ _)
    · exact Nat.lt_of_lt_of_le lt2 (Nat.le_add_right _ _)
  · have e' : c = s1.heap.objs.size + 4 ∨ c = s1.heap.objs.size + 2 ∨ c = s1.heap.objs.size + 3 ∨ c = s1.heap.objs.size ∨ c = s1.heap.objs.size + 1 := by simpa using hb
    have hle : s1.heap.objs.size ≤ c := by
      rcases e' with rfl | rfl | rfl | rfl | rfl
      · exact Nat.le_add_right _ _
      · exact Nat.le_add_right _ _
      · exact Nat.le_add_right _ _
      · exact Nat.le_refl _
      · exact Nat.le_add_right _ _
    exact I1.fpOk hle (I1.hok.fresh hle)
  · obtain ⟨x, y, hx, hy, rfl⟩ := hv
    exact .cons (vals_at rv1 hx) (.cons (vals_at rv2 hy) .nil)
end
end Dv
end
section
set_option linter.all false
set_option maxRecDepth 100000
set_option maxHeartbeats 4000000
/-! E8: list(zip(..)), list(enumerate(..)), tuple(enumerate(..)) on data. -/
namespace Dv
open PySem PySem.Spec PyProof.Rows L2 Evl
open Classical in
noncomputable def FL (F : Hp) (Ts : List Addr) (H2 : Hp) : Hp := fun a => if a ∈ Ts then H2 a else F a
section
variable {G : Gx} {Z : Zs} {F H H2 : Hp} {n : Nat} {S : Addr} {Ts : List Addr} {Vl : Nat → List V}
theorem lz_in (L : LzEnd (upd H S (.lst [])) S Ts Vl H2) {T : Addr} (h : T ∈ Ts) : H T = none ∧ T ≠ S ∧ ∃ j, Ts[j]? = some T ∧ H2 T = some (.tup (Vl j)) := by
  obtain ⟨j, hj⟩ := List.mem_iff_getElem?.mp h
  obtain ⟨a, b, c⟩ := L.tup j T hj
  rw [upd_ne b] at a
  exact ⟨a, b, j, hj, c⟩
theorem lz_keep (hS : H S = none) (L : LzEnd (upd H S (.lst [])) S Ts Vl H2) {a : Addr} {o : HO} (e : H a = some o) : H2 a = some o := by
  have ne : a ≠ S := fun z => by rw [z, hS] at e; cases e
  exact L.keep a o ne (by rw [upd_ne ne]; exact e)
theorem gr_lz (g : Gd Z ⟨F, H, n⟩) (hS : H S = none) (L : LzEnd (upd H S (.lst [])) S Ts Vl H2) : Gr Z ⟨F, H, n⟩ ⟨FL F Ts H2, H2, n⟩ ∧ FL F Ts H2 S = none ∧ ∀ j T, Ts[j]? = some T → FL F Ts H2 T = some (.tup (Vl j)) := by
  have fin : ∀ {a}, a ∈ Ts → FL F Ts H2 a = H2 a := fun h => if_pos h
  have fout : ∀ {a}, a ∉ Ts → FL F Ts H2 a = F a := fun h => if_neg h
  have ff : Ex F (FL F Ts H2) := fun a o e => by
    rw [fout fun z => ?_]
    · exact e
    · have h1 : H a = some o := g.sub a o e
      rw [(lz_in L z).1] at h1
      cases h1
  refine ⟨⟨ff, fun a o e _ => lz_keep hS L e, fun a e e' => ?_, ⟨fun a o e => ?_, g.st.same fun a ha => ?_, fun a ha => ?_, g.tabs ff fun a ha => ?_⟩⟩, ?_, fun j T hj => ?_⟩
  · by_cases z : a ∈ Ts
    · exact (lz_in L z).1
    · have e' : FL F Ts H2 a ≠ none := e'
      rw [fout z] at e'
      exact absurd e e'
  · have e : FL F Ts H2 a = some o := e
    by_cases z : a ∈ Ts
    · rw [fin z] at e
      exact e
    · rw [fout z] at e
      exact lz_keep hS L (g.sub a o e)
  · obtain ⟨o, e⟩ := g.st.some ha
    exact (lz_keep hS L e).trans e.symm
  · show FL F Ts H2 a = none
    rw [fout fun z => ?_]
    · exact g.zf a ha
    · obtain ⟨o, e⟩ := g.some ha
      have := (lz_in L z).1
      rw [show H a = some o from e] at this
      cases this
  · obtain ⟨o, e⟩ := g.some ha
    exact (lz_keep hS L e).trans e.symm
  · rw [fout fun z => (lz_in L z).2.1 rfl]
    exact g.noF hS
  · rw [fin (List.mem_of_getElem? hj)]
    exact (L.tup j T hj).2.2
theorem reps_of_get : ∀ {vs : List V} {ds : List D}, vs.length = ds.length → (∀ (j : Nat) (v : V) (d : D), vs[j]? = some v → ds[j]? = some d → Rep G Z F v d) → Reps G Z F vs ds
  | [], [], _, _ => .nil
  | [], _ :: _, h, _ => by cases h
  | _ :: _, [], h, _ => by cases h
  | v :: vs, d :: ds, h, f => .cons (f 0 v d rfl rfl) (reps_of_get (Nat.succ.inj h) fun j w e a b => f (j + 1) w e a b)
theorem getD_of {vs : List V} {i : Nat} {v : V} (h : vs[i]? = some v) : vs.getD i .non = v := by
  rw [List.getD_eq_getElem?_getD, h]
  rfl
theorem reps_zip {F' : Hp} {xs ys : List V} {ds es : List D} (r1 : Reps G Z F' xs ds) (r2 : Reps G Z F' ys es) (hl : Ts.length = min xs.length ys.length) (h : ∀ j T, Ts[j]? = some T → F' T = some (.tup [xs.getD j .non, ys.getD j .non])) : Reps G Z F' (Ts.map V.ref) (zipD ds es) := by
  refine reps_of_get (by rw [List.length_map, hl, zipD_len, r1.length, r2.length]) fun j v d hv hd => ?_
  rw [List.getElem?_map] at hv
  cases q : Ts[j]? with
  | none =>
    rw [q] at hv
    cases hv
  | some T =>
    rw [q] at hv
    cases hv
    obtain ⟨x, y, hx, hy, rfl⟩ := zipD_get hd
    obtain ⟨u, hu, ru⟩ := r1.get hx
    obtain ⟨w, hw, rw'⟩ := r2.get hy
    have e := h j T q
    rw [getD_of hu, getD_of hw] at e
    exact .tup (.inl (.inl e)) (.cons ru (.cons rw' .nil))
theorem reps_enum {F' : Hp} {xs : List V} {ds : List D} (r1 : Reps G Z F' xs ds) (hl : Ts.length = xs.length) (h : ∀ j T, Ts[j]? = some T → F' T = some (.tup [.int (j : Nat), xs.getD j .non])) : Reps G Z F' (Ts.map V.ref) (enumD ds) := by
  refine reps_of_get (by rw [List.length_map, hl, enumD_len, r1.length]) fun j v d hv hd => ?_
  rw [List.getElem?_map] at hv
  cases q : Ts[j]? with
  | none =>
    rw [q] at hv
    cases hv
  | some T =>
    rw [q] at hv
    cases hv
    obtain ⟨x, hx, rfl⟩ := enumD_get hd
    obtain ⟨u, hu, ru⟩ := r1.get hx
    have e := h j T q
    rw [getD_of hu] at e
    exact .tup (.inl (.inl e)) (.cons (.int _) (.cons ru .nil))
end
theorem rep_seq {G : Gx} {Z : Zs} {F H : Hp} {v : V} {d : D} {ds : List D} (hd : d = .tup ds ∨ d = .lst ds) (sub : Ex F H) (r : Rep G Z F v d) : ∃ a vs, v = .ref a ∧ SqS G.K H a vs ∧ Reps G Z F vs ds := by
  rcases hd with rfl | rfl
  · obtain ⟨a, vs, e, h, rs⟩ := rep_tup r
    exact ⟨a, vs, e, .inr (ex_t sub h), rs⟩
  · obtain ⟨a, vs, e, h, rs⟩ := rep_lst r
    exact ⟨a, vs, e, .inl (SqL.of (sub _ _ h)), rs⟩
def seqs2 : List D → M (List D × List D)
  | [x, y] => do
    let a ← asSeq x
    let b ← asSeq y
    .ret (a, b)
  | _ => .bad
def seqs1 : List D → M (List D)
  | [x] => asSeq x
  | _ => .bad
def nZipL (fs : EnvD → M (List D)) : EnvD → M (List D) := fun env => do
  let ds ← fs env
  let p ← seqs2 ds
  gd (Nat.ble (min p.1.length p.2.length) 1000) (.ret (zipD p.1 p.2))
def nEnumL (fs : EnvD → M (List D)) : EnvD → M (List D) := fun env => do
  let ds ← fs env
  let p ← seqs1 ds
  gd (Nat.ble p.length 1000) (.ret (enumD p))
section
variable {X : Cx} {a b : Expr} {fs : EnvD → M (List D)} {p p2 q pos : Pos}
theorem dn_listZip (hc : X.calm = true) (hg : Gl X "list") (hm : X.mg "list" = none) (hg2 : Gl X "zip") (hm2 : X.mg "zip" = none) (ha : PA X [a, b] (tDA (gx X) fs))
    (hs : starEach [a, b] X.env = (false, eval a X.env) :: starEach [b] X.env := by rfl) (hpl : (backTo q (starEach [b] X.env)).any (·.1) = false := by rfl)
    (na : starEach [.Call (.Name "zip" p2) [a, b] [] q] X.env = (false, eval (.Call (.Name "zip" p2) [a, b] [] q) X.env) :: starEach [] X.env := by rfl) :
    PE X (.Call (.Name "list" p) [.Call (.Name "zip" p2) [a, b] [] q] [] pos) (tDn (gx X) (nZipL fs)) := by
  refine (pe_listWk hc hg hm (pwk_zip hc hg2 hm2 ha hs hpl) na).weak fun σ H Q ⟨Z, env, W, hW, ok, h⟩ => ?_
  subst hW
  refine ⟨Z, env, W, rfl, ok, M.wp_mono (fun n1 ds h1 vs F1 H1 g1 r1 => ?_) (wp_then h)⟩
  have h1 := wp_then h1
  unfold seqs2 at h1
  split at h1
  · rename_i x y
    obtain ⟨xs, hx, h1⟩ := asSeq_wp (wp_then h1)
    obtain ⟨ys, hy, h1⟩ := asSeq_wp (wp_then h1)
    cases r1 with
    | cons rx r1 =>
    cases r1 with
    | cons ry r1 =>
    cases r1
    obtain ⟨ax, us, rfl, sx, rx⟩ := rep_seq hx g1.gd.sub rx
    obtain ⟨ay, ws, rfl, sy, ry⟩ := rep_seq hy g1.gd.sub ry
    obtain ⟨hle, h1⟩ := gd_wp h1
    have hle : min xs.length ys.length ≤ 1000 := Nat.le_of_ble_eq_true hle
    refine ⟨ax, ay, us, ws, rfl, sx, sy, by rw [rx.length, ry.length]; exact hle, fun S Ts H2 hS hl L => ?_⟩
    obtain ⟨g2, hF, ht⟩ := gr_lz g1.gd hS L
    exact h1 S _ _ H2 (g1.trans g2) (g1.back hS) hF L.lst (reps_zip (rx.mono g2.ff) (ry.mono g2.ff) hl ht)
  · exact h1.elim
theorem dn_listEn (hc : X.calm = true) (hg : Gl X "list") (hm : X.mg "list" = none) (hg2 : Gl X "enumerate") (hm2 : X.mg "enumerate" = none) (ha : PA X [a] (tDA (gx X) fs)) (hs : starEach [a] X.env = [(false, eval a X.env)] := by rfl)
    (na : starEach [.Call (.Name "enumerate" p2) [a] [] q] X.env = (false, eval (.Call (.Name "enumerate" p2) [a] [] q) X.env) :: starEach [] X.env := by rfl) :
    PE X (.Call (.Name "list" p) [.Call (.Name "enumerate" p2) [a] [] q] [] pos) (tDn (gx X) (nEnumL fs)) := by
  refine (pe_listWk hc hg hm (pwk_enum hc hg2 hm2 ha hs) na).weak fun σ H Q ⟨Z, env, W, hW, ok, h⟩ => ?_
  subst hW
  refine ⟨Z, env, W, rfl, ok, M.wp_mono (fun n1 ds h1 vs F1 H1 g1 r1 => ?_) (wp_then h)⟩
  have h1 := wp_then h1
  unfold seqs1 at h1
  split at h1
  · rename_i x
    obtain ⟨xs, hx, h1⟩ := asSeq_wp h1
    cases r1 with
    | cons rx r1 =>
    cases r1
    obtain ⟨ax, us, rfl, sx, rx⟩ := rep_seq hx g1.gd.sub rx
    obtain ⟨hle, h1⟩ := gd_wp h1
    have hle : xs.length ≤ 1000 := Nat.le_of_ble_eq_true hle
    refine ⟨ax, us, rfl, sx, by rw [rx.length]; exact hle, fun S Ts H2 hS hl L => ?_⟩
    obtain ⟨g2, hF, ht⟩ := gr_lz g1.gd hS L
    exact h1 S _ _ H2 (g1.trans g2) (g1.back hS) hF L.lst (reps_enum (rx.mono g2.ff) hl ht)
  · exact h1.elim
def eEnumT (fs : EnvD → M (List D)) : EnvD → M D := fun env => do
  let ds ← fs env
  let p ← seqs1 ds
  gd (Nat.ble p.length 1000) (.ret (.tup (enumD p)))
theorem de_tupEn (hc : X.calm = true) (hg : Gl X "tuple") (hm : X.mg "tuple" = none) (hg2 : Gl X "enumerate") (hm2 : X.mg "enumerate" = none) (ha : PA X [a] (tDA (gx X) fs)) (hs : starEach [a] X.env = [(false, eval a X.env)] := by rfl)
    (na : starEach [.Call (.Name "enumerate" p2) [a] [] q] X.env = (false, eval (.Call (.Name "enumerate" p2) [a] [] q) X.env) :: starEach [] X.env := by rfl) :
    PE X (.Call (.Name "tuple" p) [.Call (.Name "enumerate" p2) [a] [] q] [] pos) (tD (gx X) (eEnumT fs)) := by
  refine (pe_tupWk hc hg hm (pwk_enum hc hg2 hm2 ha hs) na).weak fun σ H Q ⟨Z, env, W, hW, ok, h⟩ => ?_
  subst hW
  refine ⟨Z, env, W, rfl, ok, M.wp_mono (fun n1 ds h1 vs F1 H1 g1 r1 => ?_) (wp_then h)⟩
  have h1 := wp_then h1
  unfold seqs1 at h1
  split at h1
  · rename_i x
    obtain ⟨xs, hx, h1⟩ := asSeq_wp h1
    cases r1 with
    | cons rx r1 =>
    cases r1
    obtain ⟨ax, us, rfl, sx, rx⟩ := rep_seq hx g1.gd.sub rx
    obtain ⟨hle, h1⟩ := gd_wp h1
    have hle : xs.length ≤ 1000 := Nat.le_of_ble_eq_true hle
    refine ⟨ax, us, rfl, sx, by rw [rx.length]; exact hle, fun S Ts H2 hS hl L q hq => ?_⟩
    obtain ⟨g2, hF, ht⟩ := gr_lz g1.gd hS L
    have g3 := Gr.alloc g2.gd (o := .tup (Ts.map V.ref)) hq
    exact h1 (.ref q) _ _ ((g1.trans g2).trans g3) (.tup (SqT.of upd_same) ((reps_enum (rx.mono g2.ff) hl ht).mono g3.ff))
  · exact h1.elim
end
end Dv
end
section
set_option linter.all false
set_option maxRecDepth 100000
set_option maxHeartbeats 4000000
namespace Dv
open PySem PySem.Spec PyProof.Rows L2 Evl
section
variable {P : Program} {w : World} {K : PySem.W.Frag} {mg : Str → Option Value} {base : Heap}
def m_book_of : List D → M D := runD 3 (sSeq (sRet (eCall gTuple (aCons (eN (nLc [1, 2] (iOf (eVar 0)) (tg1 2) bYes (eEnumT (aCons (eVar 2) aNil)))) aNil))) sNil)
theorem sc_book_of : FnScope ["table", ".0", "row"] ["table"] (defScope (top 51)) := ⟨rfl, rfl, rfl, by decide +kernel, rfl, by decide +kernel, by decide +kernel⟩
theorem d_book_of (T : Txt mg)  {f : Addr} {fd : FuncData} (F : Fun K "book_of" "book_of" (top 51) f fd) (hb : L2.Binds K fd ["table"] []) (hm : mg "book_of" = some (.ref f)) : Def P w K mg base 1 "book_of" 1 m_book_of := by
  refine mk_def (N := ["table", ".0", "row"]) F sc_book_of hb hm rfl fun cdv A outer s H E hr => ?_
  have nd := sc_book_of.nd
  exact (ds_cons (ds_ret (de_callTy cr_tupleD (by rfl) T.tuple boot_tuple (da_cons (de_n (dn_lc (by rfl) nd (di_of (de_var 0)) (blkOk_by (own := [(".0", 1), ("row", 2)]) (by rfl)) (fun _ _ _ _ _ => (bg1 2 nd)) (tgr1 2) (by decide) (fun _ _ _ _ _ => dts_nil) (fun _ _ _ _ _ => (de_tupEn (by rfl) (by rfl) T.tuple (by rfl) T.enumerate (da_cons (de_var 2) da_nil))))) da_nil))) ds_nil)
end
end Dv
end
section
set_option linter.all false
set_option maxRecDepth 100000
set_option maxHeartbeats 4000000
/-! N3: statements about an own dict with nested keys. -/
namespace Dv
open PySem PySem.Spec PyProof.Rows L2 Evl
def toInts : List D → Option (List Int)
  | [] => some []
  | .int i :: r => (toInts r).map (i :: ·)
  | _ :: _ => none
theorem toInts_eq : ∀ {ds : List D} {ns : List Int}, toInts ds = some ns → ds = ns.map D.int
  | [], ns, h => by
    cases h
    rfl
  | .int i :: r, ns, h => by
    unfold toInts at h
    obtain ⟨ms, h1, rfl⟩ := Option.map_eq_some_iff.mp h
    rw [toInts_eq h1]
    rfl
  | .non :: _, _, h => by cases h
  | .bl _ :: _, _, h => by cases h
  | .str _ :: _, _, h => by cases h
  | .tup _ :: _, _, h => by cases h
  | .lst _ :: _, _, h => by cases h
  | .dic _ :: _, _, h => by cases h
  | .mix _ :: _, _, h => by cases h
  | .sti _ :: _, _, h => by cases h
  | .st :: _, _, h => by cases h
def asNK : D → M NK
  | .tup [.tup as, .tup bs] => match toInts as, toInts bs with
    | some a, some b => .ret (a, b)
    | _, _ => .bad
  | _ => .bad
theorem asNK_wp {d : D} {n : Nat} {α : Type} {g : NK → M α} {Q : Nat → α → Prop} (h : (asNK d >>= g).wp n Q) : ∃ k : NK, d = .tup [.tup (k.1.map D.int), .tup (k.2.map D.int)] ∧ (g k).wp n Q := by
  have h := wp_then h
  unfold asNK at h
  split at h
  · split at h
    · rename_i a b ha hb
      exact ⟨(a, b), by rw [toInts_eq ha, toInts_eq hb], h⟩
    · exact h.elim
  · exact h.elim
theorem rep_nk {G : Gx} {Z : Zs} {F : Hp} {v : V} {k : NK} (r : Rep G Z F v (.tup [.tup (k.1.map D.int), .tup (k.2.map D.int)])) : ∃ T, v = .ref T ∧ NKat G.K F T k := by
  obtain ⟨T, vs, rfl, h, rs⟩ := rep_tup r
  cases rs with
  | cons a rs =>
  cases rs with
  | cons b rs =>
  cases rs
  obtain ⟨t1, us, rfl, h1, r1⟩ := rep_tup a
  obtain ⟨t2, ws, rfl, h2, r2⟩ := rep_tup b
  rw [Reps.ints_eq r1] at h1
  rw [Reps.ints_eq r2] at h2
  exact ⟨T, rfl, t1, t2, h, h1, h2⟩
abbrev OnE := List (NK × List (Int × D))
def nkLook : OnE → NK → Option (List (Int × D))
  | [], _ => none
  | q :: r, k => if q.1 = k then some q.2 else nkLook r k
abbrev OnP (G : Gx) (Z : Zs) (F : Hp) : OnE → NE3 → Prop := Paired (fun (q : NK × List (Int × D)) (x : NK × Addr × Addr) => q.1 = x.1 ∧ NKat G.K F x.2.1 q.1 ∧ Rep G Z F (.ref x.2.2) (.dic q.2))
section
variable {G : Gx} {Z : Zs} {F H : Hp}
theorem OnP.keys {kvs : OnE} {xs : NE3} (h : OnP G Z F kvs xs) : xs.map (·.1) = kvs.map (·.1) := by
  induction h with
  | nil => rfl
  | cons a _ ih => rw [List.map_cons, List.map_cons, ih, a.1]
theorem OnP.len {kvs : OnE} {xs : NE3} (h : OnP G Z F kvs xs) : xs.length = kvs.length := by
  have := congrArg List.length h.keys
  rwa [List.length_map, List.length_map] at this
theorem OnP.nok {kvs : OnE} {xs : NE3} (h : OnP G Z F kvs xs) (sub : Ex F H) (nd : (kvs.map (·.1)).Nodup) (hl : kvs.length ≤ 100000) : NOk G.K H xs := by
  refine ⟨fun x hx => ?_, by rw [h.keys]; exact nd, by rw [h.len]; exact hl⟩
  clear nd hl
  induction h with
  | nil => cases hx
  | cons a _ ih =>
    rcases List.mem_cons.mp hx with rfl | hx
    · rw [← a.1]
      exact a.2.1.mono sub
    · exact ih hx
theorem OnP.get {kvs : OnE} {xs : NE3} (h : OnP G Z F kvs xs) (k : NK) : (nkLook kvs k = none ∧ nkGet xs k = none) ∨ ∃ dv p, nkLook kvs k = some dv ∧ nkGet xs k = some p ∧ Rep G Z F (.ref p.2) (.dic dv) := by
  induction h with
  | nil => exact .inl ⟨rfl, rfl⟩
  | @cons q x _ _ a _ ih =>
    by_cases e : q.1 = k
    · exact .inr ⟨q.2, x.2, if_pos e, if_pos (a.1.symm.trans e), a.2.2⟩
    · have e2 : ¬ x.1 = k := fun z => e (a.1.trans z)
      simp only [nkLook, nkGet, if_neg e, if_neg e2]
      exact ih
theorem OnP.mono {F' : Hp} {kvs : OnE} {xs : NE3} (h : OnP G Z F kvs xs) (e : Ex F F') : OnP G Z F' kvs xs := by
  induction h with
  | nil => exact .nil
  | cons a _ ih => exact .cons ⟨a.1, a.2.1.mono e, a.2.2.mono e⟩ ih
theorem OnP.snoc {kvs : OnE} {xs : NE3} {q : NK × List (Int × D)} {x : NK × Addr × Addr} (h : OnP G Z F kvs xs) (a : q.1 = x.1 ∧ NKat G.K F x.2.1 q.1 ∧ Rep G Z F (.ref x.2.2) (.dic q.2)) : OnP G Z F (kvs ++ [q]) (xs ++ [x]) := by
  induction h with
  | nil => exact .cons a .nil
  | cons b _ ih => exact .cons b ih
end
/-! ### if x not in d: .. -/
def sKIf (i : Nat) (fk : EnvD → M D) (g : SEnv → M Ctl) : SEnv → M Ctl := fun se => match se[i]? with
  | some (.on kvs) => do
    let d ← fk (lendV se)
    let k ← asNK d
    chk kvs.length (match nkLook kvs k with
      | none => g se
      | some _ => .ret (.nx se))
  | _ => .bad
section
variable {X : Cx} {x : Str} {px pos pos2 : Pos} {ek : Expr} {fk : EnvD → M D} {body : List Stmt} {g : SEnv → M Ctl} {Dn : Ends} {σ : L2.St} {H : Hp}
theorem kif_r {i : Nat} (q : tS (gx X) (sKIf i fk g) Dn σ H) : tIfS (tTest (tOp (rNNotIn X.prog X.w X.K) (tD (gx X) fk) (tVar i))) (tS (gx X) g) tNext Dn σ H := by
  obtain ⟨Z, W0, se, W, rfl, S, q⟩ := q
  unfold sKIf at q
  split at q
  · rename_i kvs hi
    refine ⟨Z, _, W, rfl, S.envV, M.wp_mono (fun n1 d q1 v F1 H1 g1 r1 => ?_) (wp_then q)⟩
    obtain ⟨k, e0, q2⟩ := asNK_wp q1
    subst e0
    clear q1
    obtain ⟨T, rfl, hk⟩ := rep_nk r1
    obtain ⟨hl, q1⟩ := chk_wp q2
    have S1 := S.step g1
    obtain ⟨p, h1, h2, h3, xs, h4, h5, h6⟩ := S1.own i _ hi rfl
    have h5 : OnP (gx X) Z F1 kvs xs := h5
    refine ⟨.ref p, h1, T, p, k, xs, rfl, rfl, h4, h5.nok g1.gd.sub h6 hl, hk.mono g1.gd.sub, ?_⟩
    rcases h5.get k with ⟨e1, e2⟩ | ⟨dv, pp, e1, e2, _⟩
    · rw [e1] at q1
      have q1 : (g se).wp n1 (SAft (gx X) Z W0 W.F Dn) := q1
      rw [e2]
      exact ⟨_, rfl, Z, W0, se, ⟨F1, H1, n1⟩, rfl, S1, M.wp_mono (fun _ c h => h.mono g1.ff) q1⟩
    · rw [e1] at q1
      have q1 : SAft (gx X) Z W0 W.F Dn n1 (.nx se) := q1
      rw [e2]
      exact ⟨_, rfl, q1 _ F1 H1 S1 g1.ff⟩
  · exact q.elim
theorem ds_kif (i : Nat) (hu : X.A.units + 65 < cLine) (hN : X.N[i]? = some x) (hv : Vis X.env.scope x) (hk : PE X ek (tD (gx X) fk)) (hb : PSs X body (tS (gx X) g)) (hm : behindInMarks .NotIn (.Name x px) = false := by rfl)
    (hd : (x == ("__debug__" : Str)) = false := by decide) (hcd : (x == ("__classdict__" : Str)) = false := by decide) : PS X (.If (.Compare ek [.NotIn] [.Name x px] pos2) body [] pos) (tS (gx X) (sKIf i fk g)) :=
  (ps_if (pt_cmpR (op_nNotIn hu) hk (pe_var hN hv hd hcd) hm) hb pss_nil).weak fun _ _ _ q => kif_r q
end
end Dv
end
section
set_option linter.all false
set_option maxRecDepth 100000
set_option maxHeartbeats 4000000
/-! N4: such a dict is made; a for over list(d). -/
namespace Dv
open PySem PySem.Spec PyProof.Rows L2 Evl
def sKNew (i : Nat) (fk fv : EnvD → M D) : SEnv → M Ctl := fun se => do
  let d ← fk (lendV se)
  let k ← asNK d
  let v ← fv (lendV se)
  match v with
  | .dic kvs => .ret (.nx (se.set i (.on [(k, kvs)])))
  | _ => .bad
def nkD (k : NK) : D := .tup [.tup (k.1.map D.int), .tup (k.2.map D.int)]
def sKFor (i : Nat) (tg : TgS) (g : SEnv → M Ctl) : SEnv → M Ctl := fun se => match se[i]? with
  | some (.on kvs) => chk kvs.length (goFor tg g (kvs.map fun q => nkD q.1) se)
  | _ => .bad
section
variable {X : Cx} {x : Str} {px pos pos' : Pos} {ek ev : Expr} {fk fv : EnvD → M D} {body : List Stmt} {g : SEnv → M Ctl} {Dn : Ends} {σ : L2.St} {H : Hp}
theorem knew_r {i : Nat} (q : tS (gx X) (sKNew i fk fv) Dn σ H) : tAsg (tNNew X.prog X.w X.K [(tD (gx X) fk, tD (gx X) fv)]) (gName i) Dn σ H := by
  obtain ⟨Z, W0, se, W, rfl, S, q⟩ := q
  intro p hp
  have g0 := Gr.allocH S.gd (o := nstO X.prog X.w p []) hp
  have nz := S.gd.noHas hp
  have S0 := S.step g0
  refine ⟨Z, _, ⟨W.F, upd W.H p (nstO X.prog X.w p []), W.n⟩, rfl, S0.envV, M.wp_mono (fun n1 d q1 v F1 H1 g1 r1 => ?_) (wp_then q)⟩
  obtain ⟨k, e0, q2⟩ := asNK_wp q1
  subst e0
  clear q1
  obtain ⟨T, rfl, hk⟩ := rep_nk r1
  have S1 := S0.step g1
  refine ⟨Z, _, ⟨F1, H1, n1⟩, rfl, S1.envV, M.wp_mono (fun n2 d q3 u F2 H2 g2 r2 => ?_) (wp_then q2)⟩
  have g12 := g1.trans g2
  have hF2 : F2 p = none := g12.unk (a := p) (o := nstO X.prog X.w p []) upd_same (S.gd.noF hp)
  have hH2 : H2 p = some (nstO X.prog X.w p []) := g12.hh p _ upd_same nz
  split at q3
  · rename_i kvs
    obtain ⟨a, o, vs, rfl, ha, rs⟩ := rep_dic r2
    have g3 := (g0.trans g12).poke (o := nstO X.prog X.w p [(k, T, a)]) hp hF2 nz
    refine ⟨T, k, a, rfl, hH2, (hk.mono g2.ff).mono g2.gd.sub, ?_⟩
    have S3 := S.step g3
    have hr : Rep (gx X) Z F2 (.ref a) (.dic kvs) := r2
    exact q3 _ F2 _ (S3.set (Hold := W.H) (sl := .on [(k, kvs)]) i (S.held i) ⟨p, rfl, hp, hF2, S.base.back hp, [(k, T, a)], upd_same, .cons ⟨rfl, hk.mono g2.ff, hr⟩ .nil, by simp⟩) g3.ff
  · exact q3.elim
theorem ds_knew (i : Nat) (hu : X.A.units + 65 < cLine) (hN : X.N.Nodup) (hi : X.N[i]? = some x) (hx : Loc X.env.scope x) (hk : PE X ek (tD (gx X) fk)) (hv : PE X ev (tD (gx X) fv)) (hs : swapsWith (.Dict [some ek] [ev] px) (some (.Name x pos')) pos.line X.env = pure false := by rfl) (hf : X.fn x = true ∨ X.env.scope.names.lookup x = some .local := by first | exact .inl rfl | exact .inr rfl | assumption) :
    PS X (.Assign [.Name x pos'] (.Dict [some ek] [ev] px) pos) (tS (gx X) (sKNew i fk fv)) := (ps_set hN hi hx (pe_nnew hu hk hv) hs hf).weak fun _ _ _ q => knew_r q
/-- list(d) -/
def tNList (P : Program) (w : World) (i : Nat) : TE := fun σ H Q => ∃ d xs, σ[i]? = some (some (.ref d)) ∧ H d = some (nstO P w d xs) ∧ xs.length ≤ 100000 ∧ ∀ p, H p = none → Q (.ref p) (upd H p (.lst (xs.map fun x => V.ref x.2.1)))
theorem reps_keys {G : Gx} {Z : Zs} {F : Hp} {kvs : OnE} {xs : NE3} (h : OnP G Z F kvs xs) : Reps G Z F (xs.map fun x => V.ref x.2.1) (kvs.map fun q => nkD q.1) := by
  induction h with
  | nil => exact .nil
  | cons a _ ih =>
    obtain ⟨_, ⟨t1, t2, h0, h1, h2⟩, _⟩ := a
    exact .cons (.tup h0 (.cons (.tup h1 (Reps.ints _)) (.cons (.tup h2 (Reps.ints _)) .nil))) ih
theorem kfor_r {i : Nat} {gt : TG} {tg : TgS} (tr : TgSR (gx X) gt tg) (q : tS (gx X) (sKFor i tg g) Dn σ H) : tFor (iList X.K (tNList X.prog X.w i)) gt (tS (gx X) g) Dn σ H := by
  obtain ⟨Z, W0, se, W, rfl, S, q⟩ := q
  unfold sKFor at q
  split at q
  · rename_i kvs hi
    obtain ⟨hl, q1⟩ := chk_wp q
    obtain ⟨p, h1, h2, h3, xs, h4, h5, h6⟩ := S.own i _ hi rfl
    have h5 : OnP (gx X) Z W.F kvs xs := h5
    refine ⟨p, xs, h1, h4, by rw [h5.len]; exact hl, fun a ha => ?_⟩
    have g1 := Gr.alloc S.gd (o := .lst (xs.map fun x => V.ref x.2.1)) ha
    have rs := (reps_keys h5).mono g1.ff
    have it := itl_ok (G := gx X) (Z := Z) (F := upd W.F a (.lst (xs.map fun x => V.ref x.2.1))) (a := a) upd_same rs
    refine ⟨a, rfl, ⟨_, SqL.of upd_same⟩, ?_⟩
    generalize hds : (kvs.map fun q => nkD q.1) = ds at q1 it
    refine ⟨fun j m σ' H' => m = ds.length - j ∧ j ≤ ds.length ∧ ∃ se' F' n', SOk (gx X) Z W0 se' σ' ⟨F', H', n'⟩ ∧ Ex (upd W.F a (.lst (xs.map fun x => V.ref x.2.1))) F' ∧ (goFor tg g (ds.drop j) se').wp n' (SAft (gx X) Z W0 (upd W.F a (.lst (xs.map fun x => V.ref x.2.1))) Dn),
      ⟨_, rfl, Nat.zero_le _, se, _, W.n, S.step g1, Ex.refl _, M.wp_mono (fun _ c h => h.mono g1.ff) q1⟩, ?_⟩
    rintro j m σ' H' ⟨rfl, hj, se', F', n', S', e', hw⟩
    obtain ⟨it1, it2⟩ := it j ⟨F', H', n'⟩ e' S'.gd
    by_cases hlt : j < ds.length
    · have hd : ds[j]? = some ds[j] := List.getElem?_eq_getElem hlt
      obtain ⟨go, yl⟩ := it1 _ hd
      rw [List.drop_eq_getElem_cons hlt] at hw
      unfold goFor at hw
      cases ht : tg.bind ds[j] se' with
      | none =>
        rw [ht] at hw
        exact hw.elim
      | some se1 =>
        rw [ht] at hw
        refine .inr ⟨go, fun σ2 H2 => ∃ se2 F2 n2, SOk (gx X) Z W0 se2 σ2 ⟨F2, H2, n2⟩ ∧ Ex (upd W.F a (.lst (xs.map fun x => V.ref x.2.1))) F2 ∧ (goFor tg g (ds.drop (j + 1)) se2).wp n2 (SAft (gx X) Z W0 (upd W.F a (.lst (xs.map fun x => V.ref x.2.1))) Dn), fun σ2 H2 q => ⟨ds.length - (j + 1), by omega, rfl, hlt, q⟩, fun x H2 y => ?_⟩
        obtain ⟨F2, g2, rx⟩ := yl x H2 y
        refine tr Z W0 se' se1 σ' ⟨F2, H2, n'⟩ x _ (S'.step g2) rx ht _ fun σ2 S2 => ?_
        refine ⟨Z, W0, se1, ⟨F2, H2, n'⟩, rfl, S2, M.wp_mono (fun n3 c h3 => ?_) (wp_then hw)⟩
        cases c with
        | nx se3 => exact fun σ3 F3 H3 S3 e3 => ⟨se3, F3, n3, S3, (e'.trans g2.ff).trans e3, h3⟩
        | rt d => exact h3
    · have e : j = ds.length := by omega
      subst e
      rw [List.drop_length] at hw
      exact .inl ⟨it2 rfl, hw σ' F' H' S' e'⟩
  · exact q.elim
theorem ds_kfor (i : Nat) {tg : Expr} {tf : TgS} {p2 p3 : Pos} (hp : PassesOwn (model X.prog X.w) X.A X.env X.xe) (hc : X.calm = true) (hg : Gl X "list") (hm : X.mg "list" = none) (hN : X.N[i]? = some x) (hv : Vis X.env.scope x) (hgt : PGS X tg tf) (hb : PSs X body (tS (gx X) g))
    (hst : starEach [.Name x px] X.env = (false, eval (.Name x px) X.env) :: starEach [] X.env := by rfl) (hpl : (backTo p3 (starEach [] X.env)).any (·.1) = false := by rfl) (hd : (x == ("__debug__" : Str)) = false := by decide) (hcd : (x == ("__classdict__" : Str)) = false := by decide)
    (hs : ∀ y, foldedSetIterable (.Call (.Name "list" p2) [.Name x px] [] p3) X.env y = pure y := by intro _; rfl) : PS X (.For tg (.Call (.Name "list" p2) [.Name x px] [] p3) body [] pos) (tS (gx X) (sKFor i tf g)) := by
  obtain ⟨gt, h1, h2⟩ := hgt.ex
  have he : PE X (.Call (.Name "list" p2) [.Name x px] [] p3) (tNList X.prog X.w i) := (pe_callTy (call_listN hc) hg hm PyProof.Rows.boot_list (pa_cons (pe_var hN hv hd hcd) pa_nil hst) (he := hst) (hpl := hpl)).weak fun σ H Q h => by
    obtain ⟨d, xs, a, b, c, e⟩ := h
    exact ⟨_, a, d, xs, rfl, b, c, e⟩
  exact (ps_for hp hc (pi_list he) h1 hb hs).weak fun _ _ _ q => kfor_r h2 q
end
end Dv
end
section
set_option linter.all false
set_option maxRecDepth 100000
set_option maxHeartbeats 4000000
/-! N5: known[more] = {**known[span], number: pair}; if len(known[more]) == wanted: return known[more]. -/
namespace Dv
open PySem PySem.Spec PyProof.Rows L2 Evl
def tFrz (t : TE) : TE := fun σ H Q => t σ H fun v H1 => ∃ a kvs, v = .ref a ∧ H1 a = some (.dK kvs) ∧ ∀ od, Q (.ref a) (upd H1 a (.frz od (.dK kvs)))
theorem pe_frz {X : Cx} {e : Expr} {t : TE} (h : PE X e t) : PE X e (tFrz t) := by
  refine ⟨fun pins s σ H Q I hw => ?_⟩
  refine thn (h.run pins s σ H _ I hw) fun v s1 ⟨x, H1, I1, rx, a, kvs, e, ha, q⟩ => ?_
  subst e
  obtain ⟨od, I2⟩ := I1.lock ha True.intro
  exact ⟨.ref a, _, I2, rx, q od⟩
def sKPut (i : Nat) (fm fs fn fp : EnvD → M D) : SEnv → M Ctl := fun se => match se[i]? with
  | some (.on kvs) => do
    let d ← fs (lendV se)
    let k ← asNK d
    match nkLook kvs k with
    | none => .bad
    | some dv => gd (Nat.ble dv.length 1000 && Nat.ble kvs.length 100000) do
      let y ← fn (lendV se)
      let n ← asI y
      let v ← fp (lendV se)
      let m ← fm (lendV se)
      let km ← asNK m
      match nkLook kvs km with
      | some _ => .bad
      | none => .ret (.nx (se.set i (.on (kvs ++ [(km, putD (mergeD [] dv) n v)]))))
  | _ => .bad
theorem nkLook_none : ∀ {kvs : OnE} {k : NK}, nkLook kvs k = none → k ∉ kvs.map (·.1)
  | [], _, _, h => by cases h
  | q :: r, k, e, h => by
    by_cases hq : q.1 = k
    · have : nkLook (q :: r) k = some q.2 := if_pos hq
      rw [this] at e
      cases e
    · have e2 : nkLook (q :: r) k = nkLook r k := if_neg hq
      rw [e2] at e
      rcases List.mem_cons.mp h with h | h
      · exact hq h.symm
      · exact nkLook_none e h
section
variable {X : Cx} {x : Str} {px p1 p2 p3 pos pos' : Pos} {em es en ep : Expr} {fm fs fn fp : EnvD → M D} {Dn : Ends} {σ : L2.St} {H : Hp}
abbrev tNGet (P : Program) (w : World) (K : PySem.W.Frag) (td ty : TE) : TE := fun σ H Q => td σ H fun x H1 => ty σ H1 fun y H2 => rNIx P w K x y H2 Q
theorem kput_r {i : Nat} (q : tS (gx X) (sKPut i fm fs fn fp) Dn σ H) :
    sNPut X.prog X.w X.K (tVar i) (tD (gx X) fm) (tFrz (tStar1 (tNGet X.prog X.w X.K (tVar i) (tD (gx X) fs)) (tD (gx X) fn) (tD (gx X) fp))) Dn σ H := by
  obtain ⟨Z, W0, se, W, rfl, S, q⟩ := q
  unfold sKPut at q
  split at q
  · rename_i kvs hi
    intro q0 hq0
    have g0 := Gr.allocH S.gd (o := .dK []) hq0
    have nz := S.gd.noHas hq0
    have S0 := S.step g0
    obtain ⟨p, a1, a2, a3, _⟩ := S0.own i _ hi rfl
    refine ⟨.ref p, a1, Z, _, ⟨W.F, upd W.H q0 (.dK []), W.n⟩, rfl, S0.envV, M.wp_mono (fun n1 d q1 v F1 H1 g1 r1 => ?_) (wp_then q)⟩
    obtain ⟨k, e0, q2⟩ := asNK_wp q1
    subst e0
    clear q1
    obtain ⟨T, rfl, hk⟩ := rep_nk r1
    have S1 := S0.step g1
    obtain ⟨p', b1, b2, b3, xs, b4, b5, b6⟩ := S1.own i _ hi rfl
    rw [a1] at b1
    cases b1
    have b5 : OnP (gx X) Z F1 kvs xs := b5
    rcases b5.get k with ⟨e1, e2⟩ | ⟨dv, pp, e1, e2, rd⟩
    · rw [e1] at q2
      exact q2.elim
    · rw [e1] at q2
      obtain ⟨hle, q2⟩ := gd_wp q2
      obtain ⟨hle1, hle2⟩ := Bool.and_eq_true_iff.mp hle
      have hle1 := Nat.le_of_ble_eq_true hle1
      have hle2 := Nat.le_of_ble_eq_true hle2
      refine ⟨T, p, k, xs, pp, rfl, rfl, b4, b5.nok g1.gd.sub b6 hle2, hk.mono g1.gd.sub, e2, ?_⟩
      obtain ⟨a, o, vs, ea, ha, rs⟩ := rep_dic rd
      have hF1 : F1 q0 = none := g1.unk (a := q0) (o := .dK []) upd_same (S.gd.noF hq0)
      have hH1 : H1 q0 = some (.dK []) := g1.hh q0 _ upd_same nz
      have hqa : q0 ≠ a := fun z => by
        subst z
        rw [hF1] at ha
        cases ha
      refine ⟨a, _, ea, hH1, .inr ⟨o, g1.gd.sub _ _ ha⟩, hqa, by rw [zip_len rs]; exact hle1, ?_⟩
      obtain ⟨w1, e1', rw1⟩ := merge_reps (kvs := []) (vs := []) .nil rs
      have e1' : mergeK [] (List.zip (dkeys dv) vs) = List.zip (dkeys (mergeD [] dv)) w1 := e1'
      rw [e1']
      have gp := (g0.trans g1).poke (o := .dK (List.zip (dkeys (mergeD [] dv)) w1)) hq0 hF1 nz
      intro c2 hc2
      have hqe : q0 ≠ c2 := fun z => by
        subst z
        rw [upd_same] at hc2
        cases hc2
      have ga := Gr.allocH gp.gd (o := .dK []) hc2
      have gpa := gp.trans ga
      have Sa := S.step gpa
      refine ⟨Z, _, ⟨F1, _, n1⟩, rfl, Sa.envV, M.wp_mono (fun n2 d2 h2 v2 F2 H2 g2 r2 => ?_) (wp_then q2)⟩
      obtain ⟨n, rfl, h2⟩ := asI_wp (wp_then h2)
      have S2 := Sa.step g2
      refine ⟨Z, _, ⟨F2, H2, n2⟩, rfl, S2.envV, M.wp_mono (fun n3 d3 h3 v3 F3 H3 g3 r3 => ?_) (wp_then h2)⟩
      have g23 := g2.trans g3
      have nze : ¬ Z.has c2 := gp.gd.noHas hc2
      have hqW : upd (upd H1 q0 (.dK (List.zip (dkeys (mergeD [] dv)) w1))) c2 (.dK []) q0 = some (.dK (List.zip (dkeys (mergeD [] dv)) w1)) := by rw [upd_ne hqe, upd_same]
      have hH3q := g23.hh q0 _ hqW nz
      have hH3e : H3 c2 = some (.dK []) := g23.hh c2 _ upd_same nze
      have hF3q : F3 q0 = none := g23.unk (a := q0) hqW hF1
      have hF3e : F3 c2 = none := g23.unk (a := c2) (o := .dK []) upd_same (gp.gd.noF hc2)
      refine ⟨hH3e, hH3q, hqe, Sum.inl n, v3, by cases r2; rfl, ?_⟩
      obtain ⟨w3, e3, rw3⟩ := put_reps (k := n) r3 (rw1.mono g23.ff)
      rw [e3]
      refine ⟨q0, _, rfl, upd_same, fun od => ?_⟩
      have hneW : W.H c2 = none := gp.back hc2
      have gq := (gpa.trans g23).poke (o := .dK [(Sum.inl n, v3)]) hneW hF3e nze
      have gr := (gq.poke (o := .dK (List.zip (dkeys (putD (mergeD [] dv) n d3)) w3)) hq0 hF3q nz).lockD (o := .frz od (.dK (List.zip (dkeys (putD (mergeD [] dv) n d3)) w3))) hq0 hF3q nz
      have S3 := S.step gr
      have rd3 : Rep (gx X) Z (upd F3 q0 (.frz od (.dK (List.zip (dkeys (putD (mergeD [] dv) n d3)) w3)))) (.ref q0) (.dic (putD (mergeD [] dv) n d3)) := .dic upd_same rfl (rw3.mono (Ex.new hF3q))
      refine ⟨.ref p, a1, ?_⟩
      refine ⟨Z, _, _, rfl, S3.envV, M.wp_mono (fun n4 d4 h4 v4 F4 H4 g4 r4 => ?_) (wp_then h3)⟩
      obtain ⟨km, e5, h5⟩ := asNK_wp h4
      subst e5
      clear h4
      obtain ⟨Tm, rfl, hkm⟩ := rep_nk r4
      have S4 := S3.step g4
      obtain ⟨p', c1, c2', c3, ys, c4, c5, c6⟩ := S4.own i _ hi rfl
      rw [a1] at c1
      cases c1
      have c5 : OnP (gx X) Z F4 kvs ys := c5
      rcases c5.get km with ⟨f1, f2⟩ | ⟨dv', pp', f1, f2, _⟩
      · rw [f1] at h5
        refine ⟨p, Tm, km, ys, q0, rfl, rfl, rfl, c4, c5.nok g4.gd.sub c6 hle2, hkm.mono g4.gd.sub, f2, ?_⟩
        have S5 := S4.poke hi rfl a1 (sl' := .on (kvs ++ [(km, putD (mergeD [] dv) n d3)])) (o := nstO X.prog X.w p (ys ++ [(km, Tm, q0)])) rfl
          ⟨_, upd_same, c5.snoc ⟨rfl, hkm, rd3.mono g4.ff⟩, by
            rw [List.map_append, List.nodup_append]
            refine ⟨c6, by simp, fun u hu v hv => ?_⟩
            have hv : v = km := by simpa using hv
            rw [hv]
            exact fun z => nkLook_none f1 (z ▸ hu)⟩
        exact h5 _ F4 _ S5 (gr.ff.trans g4.ff)
      · rw [f1] at h5
        exact h5.elim
  · exact q.elim
theorem ds_kput (i : Nat) (hu : X.A.units + 65 < cLine) (hN : X.N[i]? = some x) (hv : Vis X.env.scope x) (hm : PE X em (tD (gx X) fm)) (hs : PE X es (tD (gx X) fs)) (hn : PE X en (tD (gx X) fn)) (hp : PE X ep (tD (gx X) fp)) (hns : NoSl es)
    (hsw : swapsWith (.Dict [none, some en] [.Subscript (.Name x p1) es p2, ep] p3) (some (.Subscript (.Name x px) em pos')) pos.line X.env = pure false := by rfl) (hd : (x == ("__debug__" : Str)) = false := by decide) (hcd : (x == ("__classdict__" : Str)) = false := by decide) :
    PS X (.Assign [.Subscript (.Name x px) em pos'] (.Dict [none, some en] [.Subscript (.Name x p1) es p2, ep] p3) pos) (tS (gx X) (sKPut i fm fs fn fp)) :=
  (ps_nput hu (pe_var hN hv hd hcd) hm (pe_frz (pe_star1 (pe_nget hu (pe_var hN hv hd hcd) hs hns) hn hp)) hsw).weak fun _ _ _ q => kput_r q
/-- if len(d[m]) == w: return d[m] -/
def sKRet (i : Nat) (fm fw : EnvD → M D) : SEnv → M Ctl := fun se => match se[i]? with
  | some (.on kvs) => chk kvs.length (fm (lendV se) >>= fun d => asNK d >>= fun k => (match nkLook kvs k with
    | none => M.bad
    | some dv => fw (lendV se) >>= fun y => asI y >>= fun n => (match decide (V.int (dv.length : Int) = V.int n) with
      | false => M.ret (.nx se)
      | true => fm (lendV se) >>= fun d => asNK d >>= fun k => (match nkLook kvs k with
        | none => M.bad
        | some dv => M.ret (.rt (.dic dv))))))
  | _ => .bad
theorem kget_r {i : Nat} {G : Gx} {Z : Zs} {W0 W : Wd} {se : SEnv} {kvs : OnE} {α : Type} {g : List (Int × D) → M α} {R : Nat → α → Prop} {Q : VK} (hG : G = gx X) (S : SOk G Z W0 se σ W) (hi : se[i]? = some (.on kvs)) (hl : kvs.length ≤ 100000)
    (h : (fm (lendV se) >>= fun d => asNK d >>= fun k => (match nkLook kvs k with | none => M.bad | some dv => g dv)).wp W.n R)
    (hq : ∀ n1 dv a F1 H1, SOk G Z W0 se σ ⟨F1, H1, n1⟩ → Ex W.F F1 → Rep G Z F1 (.ref a) (.dic dv) → (g dv).wp n1 R → Q (.ref a) H1) : tNGet X.prog X.w X.K (tVar i) (tD (gx X) fm) σ W.H Q := by
  subst hG
  obtain ⟨p, a1, a2, a3, _⟩ := S.own i _ hi rfl
  refine ⟨.ref p, a1, Z, _, W, rfl, S.envV, M.wp_mono (fun n1 d q1 v F1 H1 g1 r1 => ?_) (wp_then h)⟩
  obtain ⟨k, e0, q2⟩ := asNK_wp q1
  subst e0
  clear q1
  obtain ⟨T, rfl, hk⟩ := rep_nk r1
  have S1 := S.step g1
  obtain ⟨p', b1, b2, b3, xs, b4, b5, b6⟩ := S1.own i _ hi rfl
  rw [a1] at b1
  cases b1
  have b5 : OnP (gx X) Z F1 kvs xs := b5
  rcases b5.get k with ⟨e1, e2⟩ | ⟨dv, pp, e1, e2, rd⟩
  · rw [e1] at q2
    exact q2.elim
  · rw [e1] at q2
    exact ⟨T, p, k, xs, pp, rfl, rfl, b4, b5.nok g1.gd.sub b6 hl, hk.mono g1.gd.sub, e2, hq n1 dv pp.2 F1 H1 S1 g1.ff rd q2⟩
theorem kret_r {i : Nat} (q : tS (gx X) (sKRet i fm fp) Dn σ H) :
    tIfS (tTest (tOp rEq (tCB (fun xs H Q => ∃ (a : Addr) (kvs : List (Key × V)), xs = [.ref a] ∧ Rd H a (.dK kvs) ∧ Q (.int kvs.length) H) (tCons (tNGet X.prog X.w X.K (tVar i) (tD (gx X) fm)) tNil)) (tD (gx X) fp)))
      (tRet (tNGet X.prog X.w X.K (tVar i) (tD (gx X) fm))) tNext Dn σ H := by
  obtain ⟨Z, W0, se, W, rfl, S, q⟩ := q
  unfold sKRet at q
  split at q
  · rename_i kvs hi
    obtain ⟨hl, q1⟩ := chk_wp q
    refine kget_r rfl S hi hl q1 fun n1 dv a F1 H1 S1 e1 rd q2 => ?_
    obtain ⟨a', o, vs, ea, ha, rs⟩ := rep_dic rd
    cases ea
    refine ⟨a, _, rfl, .inr ⟨o, S1.gd.sub _ _ ha⟩, ?_⟩
    rw [zip_len rs]
    refine ⟨Z, _, ⟨F1, H1, n1⟩, rfl, S1.envV, M.wp_mono (fun n2 d2 q3 v2 F2 H2 g2 r2 => ?_) (wp_then q2)⟩
    obtain ⟨n, en, q5⟩ := asI_wp (wp_then q3)
    subst en
    clear q3
    cases r2
    have S2 := S1.step g2
    refine ⟨rfl, ?_⟩
    cases hc : decide (V.int (dv.length : Int) = V.int n) with
    | false =>
      rw [hc] at q5
      exact ⟨_, rfl, (show SAft (gx X) Z W0 W.F Dn n2 (.nx se) from q5) _ F2 H2 S2 (e1.trans g2.ff)⟩
    | true =>
      rw [hc] at q5
      refine ⟨_, rfl, ?_⟩
      refine kget_r rfl S2 hi hl q5 fun n3 dv3 a3 F3 H3 S3 e3 rd3 q4 => ?_
      exact (show SAft (gx X) Z W0 W.F Dn n3 (.rt (.dic dv3)) from q4) _ F3 H3 S3.base rd3
  · exact q.elim
theorem ds_kret (i : Nat) (hu : X.A.units + 65 < cLine) (hN : X.N[i]? = some x) (hv : Vis X.env.scope x) (hgl : Gl X "len") (hml : X.mg "len" = none) (hm : PE X em (tD (gx X) fm)) (hm2 : PE X es (tD (gx X) fm)) (hw : PE X ep (tD (gx X) fp)) (hns : NoSl em) (hns2 : NoSl es)
    (hst : starEach [.Subscript (.Name x p1) em p2] X.env = (false, eval (.Subscript (.Name x p1) em p2) X.env) :: starEach [] X.env := by rfl) (hpl : (backTo p3 (starEach [] X.env)).any (·.1) = false := by rfl) (hb : behindInMarks .Eq ep = false := by rfl)
    (hd : (x == ("__debug__" : Str)) = false := by decide) (hcd : (x == ("__classdict__" : Str)) = false := by decide) {p4 p5 p6 p7 p8 : Pos} :
    PS X (.If (.Compare (.Call (.Name "len" p4) [.Subscript (.Name x p1) em p2] [] p3) [.Eq] [ep] p5) [.Return (some (.Subscript (.Name x p6) es p7)) p8] [] pos) (tS (gx X) (sKRet i fm fp)) :=
  (ps_if (pt_cmpR op_eq (pe_callB call_lenK hgl hml boot_len (pa_cons (pe_nget hu (pe_var hN hv hd hcd) hm hns) pa_nil hst) (he := hst) (hpl := hpl)) hw hb) (pss_one (ps_ret (pe_nget hu (pe_var hN hv hd hcd) hm2 hns2))) pss_nil).weak fun _ _ _ q => kret_r q
end
end Dv
end
section
set_option linter.all false
set_option maxRecDepth 100000
set_option maxHeartbeats 4000000
namespace Dv
open PySem PySem.Spec PyProof.Rows L2 Evl
section
variable {P : Program} {w : World} {K : PySem.W.Frag} {mg : Str → Option Value} {base : Heap}
def m_picks_by_spans : List D → M D := runD 9 (sSeq (sKNew 2 (eTup (aCons (eTup aNil) (aCons (eTup aNil) aNil))) (eD nDE)) (sSeq (sFor (iEnumDA (aCons (eVar 0) aNil)) (.two 3 4) (sSeq (sKFor 2 (.one 5) (sSeq (sFor (iOf (eVar 4)) (.two 6 7) (sSeq (sIf (bAnd (bOf (eBin (gIn true) (eVar 6) (eBin gIx (eVar 5) (eC (.int 0))))) (bOf (eBin (gIn true) (eVar 7) (eBin gIx (eVar 5) (eC (.int 1)))))) (sSeq (sSet 8 (eTup (aCons (eCall gTuple (aCons (eCall gSorted (aCons (eN (nLst (aStar (eBin gIx (eVar 5) (eC (.int 0))) (aCons (eVar 6) aNil)))) aNil)) aNil)) (aCons (eCall gTuple (aCons (eCall gSorted (aCons (eN (nLst (aStar (eBin gIx (eVar 5) (eC (.int 1))) (aCons (eVar 7) aNil)))) aNil)) aNil)) aNil)))) (sSeq (sKIf 2 (eVar 8) (sSeq (sKPut 2 (eVar 8) (eVar 5) (eVar 3) (eTup (aCons (eVar 6) (aCons (eVar 7) aNil)))) sNil)) (sSeq (sKRet 2 (eVar 8) (eVar 1)) sNil))) sNil) sNil)) sNil)) sNil)) (sSeq (sRet (eIf (bOf (eBin gEq (eVar 1) (eC (.int 0)))) (eD nDE) (eC .non))) sNil)))
theorem sc_picks_by_spans : FnScope ["book", "wanted", "known", "number", "plan", "span", "person", "desk", "more"] ["book", "wanted"] (defScope (top 45)) := ⟨rfl, rfl, rfl, by decide +kernel, rfl, by decide +kernel, by decide +kernel⟩
theorem d_picks_by_spans (T : Txt mg)  {f : Addr} {fd : FuncData} (F : Fun K "picks_by_spans" "picks_by_spans" (top 45) f fd) (hb : L2.Binds K fd ["book", "wanted"] []) (hm : mg "picks_by_spans" = some (.ref f)) : Def P w K mg base 1 "picks_by_spans" 2 m_picks_by_spans := by
  refine mk_def (N := ["book", "wanted", "known", "number", "plan", "span", "person", "desk", "more"]) F sc_picks_by_spans hb hm rfl fun cdv A outer s H E hr => ?_
  have nd := sc_picks_by_spans.nd
  exact (ds_cons (ds_knew 2 hr.u65 nd (by rfl) (by first | exact Or.inl (by rfl) | exact Or.inr (by rfl)) (de_tup (da_cons (de_tup da_nil) (da_cons (de_tup da_nil) da_nil))) (de_d dd_emp)) (ds_cons (ds_for PassesOwn.never (by rfl) (di_enumA (by rfl) T.enumerate (da_cons (de_var 0) da_nil)) (fs2 3 4 (bg2 3 4 (by rfl) nd)) (ds_cons (ds_kfor 2 PassesOwn.never (by rfl) (by rfl) T.list (by rfl) (by first | exact Or.inl (by rfl) | exact Or.inr (Or.inl (by rfl)) | exact Or.inr (Or.inr (by rfl))) (fs1 5 (bg1 5 nd)) (ds_cons (ds_for PassesOwn.never (by rfl) (di_of (de_var 4)) (fs2 6 7 (bg2 6 7 (by rfl) nd)) (ds_cons (ds_if (PW.pt (dw_and (dt_cmp (op_notInDD hr.u65) (de_var 6) (de_ix hr.u1 (de_var 5) de_int) (by rfl)) (dw_and1 (dt_cmp (op_notInDD hr.u65) (de_var 7) (de_ix hr.u1 (de_var 5) de_int) (by rfl))))) (ds_cons (ds_set 8 nd (by rfl) (by first | exact Or.inl (by rfl) | exact Or.inr (by rfl)) (de_tup (da_cons (de_callTy cr_tupleD (by rfl) T.tuple boot_tuple (da_cons (de_callB (cr_sortedD (by rfl)) (by rfl) T.sorted boot_sorted (da_cons (de_n (dn_lst (da_star (de_ix hr.u1 (de_var 5) de_int) (da_cons (de_var 6) da_nil)))) da_nil)) da_nil)) (da_cons (de_callTy cr_tupleD (by rfl) T.tuple boot_tuple (da_cons (de_callB (cr_sortedD (by rfl)) (by rfl) T.sorted boot_sorted (da_cons (de_n (dn_lst (da_star (de_ix hr.u1 (de_var 5) de_int) (da_cons (de_var 7) da_nil)))) da_nil)) da_nil)) da_nil)))) (ds_cons (ds_kif 2 hr.u65 (by rfl) (by first | exact Or.inl (by rfl) | exact Or.inr (Or.inl (by rfl)) | exact Or.inr (Or.inr (by rfl))) (de_var 8) (ds_cons (ds_kput 2 hr.u65 (by rfl) (by first | exact Or.inl (by rfl) | exact Or.inr (Or.inl (by rfl)) | exact Or.inr (Or.inr (by rfl))) (de_var 8) (de_var 5) (de_var 3) (de_tup (da_cons (de_var 6) (da_cons (de_var 7) da_nil))) (by intro _ _; rfl)) ds_nil)) (ds_cons (ds_kret 2 hr.u65 (by rfl) (by first | exact Or.inl (by rfl) | exact Or.inr (Or.inl (by rfl)) | exact Or.inr (Or.inr (by rfl))) (by rfl) T.len (de_var 8) (de_var 8) (de_var 1) (by intro _ _; rfl) (by intro _ _; rfl)) ds_nil))) ds_nil) ds_nil)) ds_nil)) ds_nil)) (ds_cons (ds_ret (de_if (dt_cmp (op_eqDD hr.units) (de_var 1) de_int (nomark _)) (de_d dd_emp) de_non)) ds_nil)))
def m_cut_of : List D → M D := runD 6 (sSeq (sPar [1, 2] (pV (eCall m_book_of (aCons (eVar 0) aNil)) (pV (eCall gLen (aCons (eBin gIx (eVar 0) (eC (.int 0))) aNil)) pNil))) (sSeq (sSet 3 (eBin gIx (eCall m_grow_of (aCons (eVar 1) (aCons (eD nDE) aNil))) (eUn gNeg (eC (.int 1))))) (sSeq (sIf (bOf (eBin (gCmp fun i j => decide (i < j)) (eCall gLen (aCons (eVar 3) aNil)) (eVar 2))) (sSeq (sSet 3 (eIf (bOf (eBin (gCmp fun i j => decide (i < j)) (eCall gLen (aCons (eVar 0) aNil)) (eBin gSub (eBin gMul (eC (.int 2)) (eVar 2)) (eC (.int 1))))) (eCall m_picks_by_spans (aCons (eVar 1) (aCons (eVar 2) aNil))) (eC .non))) sNil) sNil) (sSeq (sRet (eIf (bOf (eBin gIs (eVar 3) (eC .non))) (eC .non) (eD (nDc [4, 5] (iOf (eVar 3)) (tg1 5) bYes (eVar 5) (eBin gIx (eBin gIx (eVar 3) (eVar 5)) (eC (.int 0))))))) sNil))))
theorem sc_cut_of : FnScope ["table", "book", "many", "found", ".0", "row"] ["table"] (defScope (top 54)) := ⟨rfl, rfl, rfl, by decide +kernel, rfl, by decide +kernel, by decide +kernel⟩
theorem d_cut_of (T : Txt mg) (D_book_of : Def P w K mg base 1 "book_of" 1 m_book_of) (D_grow_of : Def P w K mg base 4 "grow_of" 2 m_grow_of) (D_picks_by_spans : Def P w K mg base 1 "picks_by_spans" 2 m_picks_by_spans) {f : Addr} {fd : FuncData} (F : Fun K "cut_of" "cut_of" (top 54) f fd) (hb : L2.Binds K fd ["table"] []) (hm : mg "cut_of" = some (.ref f)) : Def P w K mg base 5 "cut_of" 1 m_cut_of := by
  refine mk_def (N := ["table", "book", "many", "found", ".0", "row"]) F sc_cut_of hb hm rfl fun cdv A outer s H E hr => ?_
  have nd := sc_cut_of.nd
  exact (ds_cons (ds_par2 1 2 (by rfl) nd (by rfl) (by rfl) (by decide) (by rfl) (by rfl) (sa_v (de_defL D_book_of hr (by decide) (by rfl) (by rfl) (da_cons (de_var 0) da_nil) (lenC lenN)) (sa_v (de_callB cr_lenD (by rfl) T.len boot_len (da_cons (de_ix hr.u1 (de_var 0) de_int) da_nil)) sa_nil)) (by rfl)) (ds_cons (ds_set 3 nd (by rfl) (by first | exact Or.inl (by rfl) | exact Or.inr (by rfl)) (de_ix hr.u1 (de_defL D_grow_of hr (by decide) (by rfl) (by rfl) (da_cons (de_var 1) (da_cons (de_d dd_emp) da_nil)) (lenC (lenC lenN))) (de_neg de_int))) (ds_cons (ds_if (dt_cmp op_ltD (de_callB cr_lenD (by rfl) T.len boot_len (da_cons (de_var 3) da_nil)) (de_var 2) (nomark _)) (ds_cons (ds_set 3 nd (by rfl) (by first | exact Or.inl (by rfl) | exact Or.inr (by rfl)) (de_if (dt_cmp op_ltD (de_callB cr_lenD (by rfl) T.len boot_len (da_cons (de_var 0) da_nil)) (de_bin op_subD (de_bin op_mulD de_int (de_var 2)) de_int) (nomark _)) (de_defL D_picks_by_spans hr (by decide) (by rfl) (by rfl) (da_cons (de_var 1) (da_cons (de_var 2) da_nil)) (lenC (lenC lenN))) de_non)) ds_nil) ds_nil) (ds_cons (ds_ret (de_if (dt_cmp op_isD (de_var 3) de_non (nomark _)) de_non (de_d (dd_dc (by rfl) nd (di_of (de_var 3)) (blkOk_by (own := [(".0", 4), ("row", 5)]) (by rfl)) (fun _ _ _ _ _ => (bg1 5 nd)) (tgr1 5) (by decide) (fun _ _ _ _ _ => dts_nil) (fun _ _ _ _ _ => (de_var 5)) (fun _ _ _ _ _ => (de_ix hr.u1 (de_ix hr.u1 (de_var 3) (de_var 5)) de_int)))))) ds_nil))))
def m_cut : List D → M D := runD 1 (sSeq (sDrop (eCall m_need_table (aCons (eVar 0) aNil))) (sSeq (sIf (bAnd (bOf (eBin (gCmp fun i j => decide (j < i)) (eCall gLen (aCons (eBin gIx (eVar 0) (eC (.int 0))) aNil)) (eC (.int 6)))) (bOf (eBin (gCmp fun i j => decide (i < j)) (eCall gLen (aCons (eVar 0) aNil)) (eBin gSub (eBin gMul (eC (.int 2)) (eCall gLen (aCons (eBin gIx (eVar 0) (eC (.int 0))) aNil))) (eC (.int 1)))))) (sSeq sNever sNil) sNil) (sSeq (sRet (eCall m_cut_of (aCons (eVar 0) aNil))) sNil)))
theorem sc_cut : FnScope ["table"] ["table"] (defScope (top 57)) := ⟨rfl, rfl, rfl, by decide +kernel, rfl, by decide +kernel, by decide +kernel⟩
theorem d_cut (T : Txt mg) (D_need_table : Def P w K mg base 4 "need_table" 1 m_need_table) (D_cut_of : Def P w K mg base 5 "cut_of" 1 m_cut_of) {f : Addr} {fd : FuncData} (F : Fun K "cut" "cut" (top 57) f fd) (hb : L2.Binds K fd ["table"] []) (hm : mg "cut" = some (.ref f)) : Def P w K mg base 6 "cut" 1 m_cut := by
  refine mk_def (N := ["table"]) F sc_cut hb hm rfl fun cdv A outer s H E hr => ?_
  have nd := sc_cut.nd
  exact (ds_cons (ds_drop (de_defL D_need_table hr (by decide) (by rfl) (by rfl) (da_cons (de_var 0) da_nil) (lenC lenN))) (ds_cons (ds_if (PW.pt (dw_and (dt_cmp op_gtD (de_callB cr_lenD (by rfl) T.len boot_len (da_cons (de_ix hr.u1 (de_var 0) de_int) da_nil)) (de_gint (by rfl) T.MOST_CUT) (nomark _)) (dw_and1 (dt_cmp op_ltD (de_callB cr_lenD (by rfl) T.len boot_len (da_cons (de_var 0) da_nil)) (de_bin op_subD (de_bin op_mulD de_int (de_callB cr_lenD (by rfl) T.len boot_len (da_cons (de_ix hr.u1 (de_var 0) de_int) da_nil))) de_int) (nomark _))))) (ds_cons ds_never ds_nil) ds_nil) (ds_cons (ds_ret (de_defL D_cut_of hr (by decide) (by rfl) (by rfl) (da_cons (de_var 0) da_nil) (lenC lenN))) ds_nil)))
end
end Dv
end
section
set_option linter.all false
set_option maxRecDepth 100000
set_option maxHeartbeats 4000000
/-! D0: dict(list of pairs) with keys that are bools or texts. -/
namespace Dv
open PySem PySem.Spec PyProof.Rows L2 Evl
def mixKey : D → Option Bs
  | .tup [.bl b, _] => some (.inl b)
  | .tup [.str x, _] => some (.inr x)
  | _ => none
def mixKs : List D → Option (List Bs)
  | [] => some []
  | d :: r => match mixKey d, mixKs r with
    | some k, some ks => some (k :: ks)
    | _, _ => none
def bsEq : Bs → Bs → Bool
  | .inl a, .inl b => a == b
  | .inr a, .inr b => decide (a = b)
  | _, _ => false
theorem bsEq_iff {a b : Bs} : bsEq a b = true ↔ a = b := by
  cases a <;> cases b <;> simp [bsEq]
def apartB : List Bs → Bool
  | [] => true
  | k :: r => !r.any (bsEq k) && apartB r
theorem apartB_of : ∀ {ks : List Bs}, apartB ks = true → ks.Nodup
  | [], _ => .nil
  | k :: r, h => by
    have h : (!r.any (bsEq k) && apartB r) = true := h
    rw [Bool.and_eq_true] at h
    refine List.nodup_cons.mpr ⟨fun z => ?_, apartB_of h.2⟩
    have := h.1
    rw [Bool.not_eq_true', List.any_eq_false] at this
    exact this k z (bsEq_iff.mpr rfl)
def eMix (fs : EnvD → M (List D)) : EnvD → M D := fun env => do
  let ds ← fs env
  match ds with
  | [.lst l] => match mixKs l with
    | some ks => gd (apartB ks) (chk ks.length (.ret (.mix ks)))
    | none => .bad
  | _ => .bad
section
variable {X : Cx} {e : Expr} {p pos : Pos} {fs : EnvD → M (List D)}
theorem mix_pairs {pins : List (Addr × Obj)} {σ : L2.St} {F H : Hp} {s : Shared} {Z : Zs} (I : Inv X pins σ H s) (sub : Ex F H) : ∀ {vs : List V} {l : List D} {ks : List Bs}, Reps (gx X) Z F vs l → mixKs l = some ks →
    ∃ (as : List Addr) (us : List Value) (kvs : List (Bs × Value)), vs = as.map V.ref ∧ as.length = ks.length ∧ us.length = ks.length ∧ kvs.map (·.1) = ks ∧
      ∀ (j : Nat) (b : Addr), as[j]? = some b → ∃ u q, us[j]? = some u ∧ kvs[j]? = some q ∧ IsTup s.heap b #[u, q.2] ∧ bsIs q.1 u = true
  | _, _, ks, .nil, h => by
    cases h
    exact ⟨[], [], [], rfl, rfl, rfl, rfl, fun j b e => by simp at e⟩
  | _, _, ks, .cons (d := d) (ds := r) rd rr, h => by
    unfold mixKs at h
    cases e1 : mixKey d with
    | none => rw [e1] at h; cases h
    | some k =>
      cases e2 : mixKs r with
      | none => rw [e1, e2] at h; cases h
      | some ks' =>
        rw [e1, e2] at h
        cases h
        obtain ⟨as, us, kvs, h1, h2, h3, h4, h5⟩ := mix_pairs I sub rr e2
        have key : ∃ (y x : D), d = .tup [y, x] ∧ ∀ {v : V}, Rep (gx X) Z F v y → v = bsV k := by
          unfold mixKey at e1
          split at e1
          · cases e1
            exact ⟨_, _, rfl, fun r => by cases r; rfl⟩
          · cases e1
            exact ⟨_, _, rfl, fun r => by cases r; rfl⟩
          · cases e1
        obtain ⟨y, x, rfl, hy⟩ := key
        obtain ⟨a, ws, rfl, hs, rs⟩ := rep_tup rd
        cases rs with
        | cons ry rs =>
          cases rs with
          | cons rx rs =>
            cases rs
            have ey := hy ry
            subst ey
            obtain ⟨its, rv, ht, _⟩ := I.tuple (ex_t sub hs)
            obtain ⟨u, w2, rfl, ru, _⟩ := vals2 rv
            refine ⟨a :: as, u :: us, (k, w2) :: kvs, by rw [h1]; rfl, by simp [h2], by simp [h3], by simp [h4], fun j b e => ?_⟩
            cases j with
            | zero =>
              simp at e
              subst e
              exact ⟨u, (k, w2), rfl, rfl, ht, bs_is ru⟩
            | succ j =>
              obtain ⟨u', q, q1, q2, q3⟩ := h5 j b (by simpa using e)
              exact ⟨u', q, by simpa using q1, by simpa using q2, q3⟩
def rMix (X : Cx) : List V → Hp → VK → Prop := callD (gx X) fun ds => match ds with
  | [.lst l] => match mixKs l with
    | some ks => gd (apartB ks) (chk ks.length (.ret (.mix ks)))
    | none => .bad
  | _ => .bad
theorem call_mix (hc : X.calm = true) : CallR X (.type "dict") (rMix X) := by
  intro pins s σ H xs us0 Q I r h
  obtain ⟨Z, W, ds, rfl, g, rs, h⟩ := h
  dsimp only at h
  split at h
  · rename_i l
    cases ek : mixKs l with
    | none =>
      rw [ek] at h
      exact h.elim
    | some ks =>
      rw [ek] at h
      obtain ⟨ap, h⟩ := gd_wp h
      obtain ⟨hl, h⟩ := chk_wp h
      cases rs with
      | cons rl rn =>
      cases rn
      cases rl with
      | @lst a vs _ hF rl =>
      obtain ⟨u0, rfl, ru0⟩ := vals1 r
      cases ru0
      obtain ⟨as, us, kvs, rfl, h2, h3, h4, h5⟩ := mix_pairs I g.sub rl ek
      obtain ⟨hz, its, n, rv, hob⟩ := I.hok a _ (g.sub _ _ hF)
      have hlk : kvs.length = ks.length := by rw [← h4, List.length_map]
      have eits : its = as.map Value.ref := refs_at rv
      subst eits
      have nd : (kvs.map (·.1)).Nodup := by rw [h4]; exact apartB_of ap
      have at_ : ∀ (j : Nat) (k v : Value), (us.zip (kvs.map (·.2)))[j]? = some (k, v) → ∃ q, kvs[j]? = some q ∧ q.2 = v ∧ us[j]? = some k ∧ j < as.length := fun j k v e => by
        obtain ⟨e1, e2⟩ := List.getElem?_zip_eq_some.mp e
        rw [List.getElem?_map] at e2
        cases q : kvs[j]? with
        | none => rw [q] at e2; cases e2
        | some x =>
          rw [q] at e2
          cases e2
          have := (List.getElem?_eq_some_iff.mp q).1
          exact ⟨x, rfl, rfl, e1, by omega⟩
      have hlz : (us.zip (kvs.map (·.2))).length = ks.length := by
        rw [List.length_zip, List.length_map, h3, hlk, Nat.min_self]
      refine PySem.call_dict_pairs (knd := bsKind X.prog X.w) (kvs := kvs) (PairArg.list a (as.map Value.ref).toArray (fun j => as.getD j 0) (us.zip (kvs.map (·.2)))) (I.ok.hd hc) ⟨⟨_, n, hob, rfl, rfl, rfl⟩, ?_, fun j k v e => ?_⟩ ⟨by rw [hlz, hlk], fun j k v e => ?_⟩ (by rw [hlz]; exact szl hl) fun hp tk hd kp => ?_
      · simp [hlz, h2]
      · obtain ⟨q, q1, q2, q3, q4⟩ := at_ j k v e
        have hb : as[j]? = some as[j] := List.getElem?_eq_getElem q4
        obtain ⟨u, q', e1, e2, e3, _⟩ := h5 j _ hb
        rw [q3] at e1
        cases e1
        rw [q1] at e2
        cases e2
        subst q2
        have hg : as.getD j 0 = as[j] := by rw [List.getD_eq_getElem?_getD, hb]; rfl
        refine ⟨by simp [hb, hg], .inl ?_⟩
        show s.heap.IsTuple (as.getD j 0) #[k, q.2]
        rw [hg]
        exact e3
      · obtain ⟨q, q1, q2, q3, q4⟩ := at_ j k v e
        have hb : as[j]? = some as[j] := List.getElem?_eq_getElem q4
        obtain ⟨u, q', e1, e2, _, e4⟩ := h5 j _ hb
        rw [q3] at e1
        cases e1
        rw [q1] at e2
        cases e2
        subst q2
        exact ⟨q.1, q1, e4⟩
      · rw [merged_nil_of_nodup _ nd] at hd
        have hm : (s.heap.objs.size == sysModules) = false := beq_eq_false_iff_ne.mpr (Nat.ne_of_gt I.big)
        have ne : W.H s.heap.objs.size = none := I.hok.fresh (Nat.le_refl _)
        obtain ⟨o, es, ep, ho, hr⟩ := id hd
        refine ⟨.ref s.heap.objs.size, upd W.H s.heap.objs.size (.frz o (mixO X.prog X.w s.heap.objs.size ks)), I.laid (t' := tk) (fun b o e => kp b o (fun z => nomatch z) e) (Nat.le_refl _) ⟨ho, mixO_new hm h4 hd⟩, rfl, ?_⟩
        exact h _ _ _ (Gr.alloc g ne) (.mix upd_same)
  · exact h.elim
theorem de_mix (hc : X.calm = true) (hg : Gl X "dict") (hm : X.mg "dict" = none) (ha : PA X [e] (tDA (gx X) fs)) (he : starEach [e] X.env = (false, eval e X.env) :: starEach [] X.env := by rfl)
    (hpl : (backTo pos (starEach [] X.env)).any (·.1) = false := by rfl) : PE X (.Call (.Name "dict" p) [e] [] pos) (tD (gx X) (eMix fs)) :=
  (pe_callTy (call_mix hc) hg hm PyProof.Rows.boot_dict ha (he := he) (hpl := hpl)).weak fun σ H Q h => call_r (fun _ _ _ h => h) h
end
end Dv
end
section
set_option linter.all false
set_option maxRecDepth 100000
set_option maxHeartbeats 4000000
/-! D1: repr of a dict of ints; a call by keywords alone. -/
namespace Dv
open PySem PySem.Spec PyProof.Rows L2 Evl
def kvP : List (Int × Int) → List (PyData × PyData)
  | [] => []
  | p :: r => (.int p.1, .int p.2) :: kvP r
def smallI (i : Int) : Bool := Nat.ble i.natAbs 1000000
def textD (kvs : List (Int × Int)) : Str := PyData.shown (.dict (kvP kvs))
def gRepr : List D → M D
  | [.dic kvs] => match allI (kvs.map (·.2)) with
    | some ns => gd (((kvs.map (·.1)).all smallI && ns.all smallI) && Nat.ble (textD ((kvs.map (·.1)).zip ns)).length 100000) (.ret (.str (textD ((kvs.map (·.1)).zip ns))))
    | none => .bad
  | _ => .bad
theorem depth_kvP : ∀ kvs : List (Int × Int), PyData.depthKv (kvP kvs) = 0
  | [] => by simp [kvP, PyData.depthKv]
  | p :: r => by simp [kvP, PyData.depthKv, PyData.depth, depth_kvP r]
theorem log_small {i : Int} (h : smallI i = true) : i.natAbs.log2 < 1920 := by
  have h1 : i.natAbs ≤ 1000000 := Nat.le_of_ble_eq_true h
  by_cases hz : i.natAbs = 0
  · rw [hz]
    decide
  · have : i.natAbs.log2 < 20 := (Nat.log2_lt hz).mpr (by omega)
    omega
theorem show_kvP : ∀ {ks ns : List Int}, ks.all smallI = true → ns.all smallI = true → PyData.showableKv (kvP (ks.zip ns)) = true
  | [], _, _, _ => by simp [kvP, PyData.showableKv]
  | _ :: _, [], _, _ => by simp [kvP, PyData.showableKv]
  | k :: ks, n :: ns, h1, h2 => by
    rw [List.all_cons, Bool.and_eq_true] at h1 h2
    simp [kvP, PyData.showableKv, PyData.showable, log_small h1.1, log_small h2.1, show_kvP h1.2 h2.2]
section
variable {X : Cx}
theorem reads_kv {prog : Program} {w : World} {h : Heap} : ∀ {es : List DictEntry} {us : List (Key × Value)} {ks ns : List Int}, Pairs (mixKind prog w) es us → KV (List.zip (ks.map fun k => (Sum.inl k : Key)) (ns.map V.int)) us → ks.length = ns.length →
    ReadsAll h (es.map (·.key)) ((kvP (ks.zip ns)).map (·.1)) [] ∧ ReadsAll h (es.map (·.val)) ((kvP (ks.zip ns)).map (·.2)) []
  | _, _, [], [], p, kv, _ => by
    cases kv
    cases p
    exact ⟨.nil, .nil⟩
  | _, _, k :: ks, n :: ns, p, kv, hl => by
    cases kv with
    | cons a t =>
      cases p with
      | cons hk hv pr =>
        obtain ⟨h1, h2⟩ := reads_kv (h := h) pr t (Nat.succ.inj hl)
        obtain ⟨ea, ra⟩ := a
        rename_i kv0 us0 e0 es0
        obtain ⟨t1, e1⟩ := (show ∃ t, kv0.2 = Value.int n t from ra)
        rw [← ea] at hk
        obtain ⟨t2, e2⟩ := (show ∃ t, e0.key = Value.int k t from relV_key (show keyIs (Sum.inl k) e0.key = true from hk))
        refine ⟨?_, ?_⟩
        · show ReadsAll h (e0.key :: es0.map (·.key)) (PyData.int k :: (kvP (ks.zip ns)).map (·.1)) ([] ++ [])
          rw [e2]
          exact .cons (.int _ _) h1
        · show ReadsAll h (e0.val :: es0.map (·.val)) (PyData.int n :: (kvP (ks.zip ns)).map (·.2)) ([] ++ [])
          rw [hv, e1]
          exact .cons (.int _ _) h2
  | _, _, [], _ :: _, _, _, hl => by cases hl
  | _, _, _ :: _, [], _, _, hl => by cases hl
theorem cr_repr (hg : X.A.guards = some []) (hu : X.A.units + 65 < cLine) : CallR X (.builtin "repr") (callD (gx X) gRepr) := by
  intro pins s σ H xs us Q I r h
  obtain ⟨Z, W, ds, rfl, g, rs, h⟩ := h
  unfold gRepr at h
  split at h
  · rename_i kvs
    cases en : allI (kvs.map (·.2)) with
    | none =>
      rw [en] at h
      exact h.elim
    | some ns =>
      rw [en] at h
      dsimp only at h
      obtain ⟨hs, h⟩ := gd_wp h
      rw [Bool.and_eq_true, Bool.and_eq_true] at hs
      obtain ⟨v, rfl, r2⟩ := rep1 rs
      obtain ⟨a, o, vs, rfl, hF, rv⟩ := rep_dic r2
      have ens := allI_eq en
      rw [ens] at rv
      have evs := Reps.ints_eq rv
      subst evs
      obtain ⟨u, rfl, ru⟩ := vals1 r
      cases ru
      obtain ⟨hsys, hget, hx, es, ep, us', hdt, hsz, kv, hm⟩ := I.frzK (g.sub _ _ hF)
      obtain ⟨o', es', ho', _, hd', _, hp, _⟩ := hm
      rw [hget] at ho'
      cases ho'
      rw [hdt] at hd'
      cases hd'
      have hlen : (kvs.map (·.1)).length = ns.length := by
        have := congrArg List.length ens
        rw [List.length_map, List.length_map] at this
        rw [List.length_map, this]
      have kv' : KV (List.zip ((kvs.map (·.1)).map fun k => (Sum.inl k : Key)) (ns.map V.int)) us' := by
        have e : ((kvs.map (·.1)).map fun k => (Sum.inl k : Key)) = dkeys kvs := by
          unfold dkeys
          rw [List.map_map]
          rfl
        rw [e]
        exact kv
      obtain ⟨q1, q2⟩ := reads_kv (h := s.heap) hp kv' hlen
      have rd : Reads s.heap (.ref a) (.dict (kvP ((kvs.map (·.1)).zip ns))) (a :: [] ++ []) := .dict hget hx.1 hdt q1 q2
      refine repr_of_reads' (h₀ := s.heap) rd (by show PyData.showableKv _ = true; exact show_kvP hs.1.1 hs.1.2) (fun _ z => ?_) hg ?_ (fun _ _ e => e) (fun hp t tk kp => ?_) ?_
      · have z : sysModules = a := by simpa using z
        rw [z, beq_self_eq_true] at hsys
        cases hsys
      · show X.A.units + (PyData.depthKv _ + 1 + 1) < cLine
        rw [depth_kvP]
        omega
      · exact ⟨.str _, W.H, I.kept (t' := tk) kp, ⟨_, rfl⟩, h _ W.F W.H (Gr.refl g) (.str _)⟩
      · exact szl (Nat.le_of_ble_eq_true hs.2)
  · exact h.elim
end
section
variable {X : Cx} {C : Nat → Addr} {k j : Nat} {x p1 p2 : Str} {f : List D → M D} {e1 e2 : Expr} {fa fb : EnvD → M D} {p pos q1 q2 : Pos}
def kwF (f : List D → M D) : List D → M D
  | [u, v] => noErr (f [v, u])
  | _ => .bad
/-- x(p2=e1, p1=e2), where nothing is raised -/
theorem de_defEK (F : DefE2 X.prog X.w X.K X.mg X.base C k x p1 p2 f) (hr : Room j X.A) (hk : k ≤ j) (hg : Gl X x) (h1 : PE X e1 (tD (gx X) fa)) (h2 : PE X e2 (tD (gx X) fb)) (hdb : (x == ("__debug__" : Str)) = false := by decide) :
    PE X (.Call (.Name x p) [] [⟨some p2, e1, q1⟩, ⟨some p1, e2, q2⟩] pos) (tD (gx X) (eCall (kwF f) (aCons fa (aCons fb aNil)))) := by
  obtain ⟨fp, fd, Fp, hm, hkp, hb, hbk⟩ := F.ex
  refine ⟨fun pins s σ H Q J ⟨Z, env, W, hW, ok, h⟩ => ?_⟩
  subst hW
  apply wpAny_Call_Name_kw
  refine ld_glob J hg hm ?_ hdb
  have pk : PK X [⟨some p2, e1, q1⟩, ⟨some p1, e2, q2⟩] (tCons (tD (gx X) fa) (tCons (tD (gx X) fb) tNil)) := pk_cons h1 (pk_cons h2 pk_nil)
  have h' : tCons (tD (gx X) fa) (tCons (tD (gx X) fb) tNil) σ W.H fun zs H2 => ∃ v1 v2, zs = [v1, v2] ∧ spE (gx X) C 2 f [v2, v1] H2 Q E0 := by
    refine ⟨Z, env, W, rfl, ok, M.wp_mono (fun n1 d1 h1 v1 F1 H1 g1 r1 => ?_) (wp_then (wp_then h))⟩
    have h1 := wp_then h1
    refine ⟨Z, env, ⟨F1, H1, n1⟩, rfl, ok.step g1, M.wp_mono (fun n2 d2 h2 v2 F2 H2 g2 r2 => ?_) (wp_then h1)⟩
    refine ⟨v1, v2, rfl, rfl, Z, ⟨F2, H2, n2⟩, [d2, d1], rfl, g2.gd, .cons r2 (.cons (r1.mono g2.ff) .nil), ?_⟩
    refine M.wpE_mono (fun n3 d3 h3 v F3 H3 g3 r3 => h3 v F3 H3 ((g1.trans g2).trans g3) r3) (fun _ _ z => z) (noErr_wp (Q := Aft (gx X) Z W Q) (E := ErrP Z ⟨F2, H2, n2⟩ C E0) ?_)
    exact h2
  refine PySem.W.callWith_KW0 (h₀ := X.base) J.ok.mod.kin hkp (by rfl) (thn (pk.run pos pins s σ W.H _ J h') fun ws s1 ⟨zs, H1, J1, rz, v1, v2, ez, q⟩ => ⟨J1.kIn, ?_⟩) (by rfl)
  subst ez
  obtain ⟨w1, w2, rfl, rw1, rw2⟩ := vals2 rz
  show wpAny _ _ (call (.ref fp) [] [(p2, w1), (p1, w2)]) _ _ s1
  apply wpAny_call
  refine codeAny_mono (Fp.run X.A X.stack s1 H1 ⟨[], [(p2, w1), (p1, w2)]⟩ [w2, w1] [v2, v1] Q E0 (hr.mono hk) J1.env0 (.of_eq (hbk w2 w1)) (.cons rw2 (.cons rw1 .nil)) q) fun r s2 hq => ?_
  cases r with
  | error e => exact passL pins σ H1 s1 e s2 J1 hq
  | ok fl =>
    cases fl with
    | ret u => exact J1.after hq
    | next => exact hq.elim
    | brk => exact hq.elim
    | cont => exact hq.elim
end
end Dv
end
section
set_option linter.all false
set_option maxRecDepth 100000
set_option maxHeartbeats 4000000
/-! D2: x = a new dict, own; slots forgotten. -/
namespace Dv
open PySem PySem.Spec PyProof.Rows L2 Evl
def sNewD (i : Nat) (f : EnvD → M (List (Int × D))) : SEnv → M Ctl := fun se => do
  let kvs ← f (lendV se)
  .ret (.nx (se.set i (.od kvs)))
/-- what stands in those slots is forgotten -/
def forget : List Nat → SEnv → SEnv
  | [], se => se
  | i :: r, se => forget r (se.set i .no)
def sFg (is : List Nat) (g : SEnv → M Ctl) : SEnv → M Ctl := fun se => g (forget is se)
section
variable {G : Gx} {Z : Zs} {W0 W : Wd} {se : SEnv} {σ : L2.St} {Dn : Ends} {H : Hp} {g : SEnv → M Ctl}
theorem SOk.no (S : SOk G Z W0 se σ W) (i : Nat) : SOk G Z W0 (se.set i .no) σ W := by
  have at_ : ∀ {j : Nat} {t : Slot}, (se.set i .no)[j]? = some t → t = .no ∨ se[j]? = some t := fun {j t} h => by
    by_cases hj : i = j
    · subst hj
      by_cases hl : i < se.length
      · rw [List.getElem?_set_self hl] at h
        cases h
        exact .inl rfl
      · rw [List.getElem?_eq_none (by rw [List.length_set]; omega)] at h
        cases h
    · rw [List.getElem?_set_ne hj] at h
      exact .inr h
  refine ⟨S.g0, S.base, by rw [List.length_set]; exact S.len, fun j d h => ?_, fun j t h o => ?_, fun j k s t p ne hs ht os ot e1 e2 => ?_⟩
  · rcases at_ h with z | h
    · cases z
    · exact S.val j d h
  · rcases at_ h with rfl | h
    · cases o
    · exact S.own j t h o
  · rcases at_ hs with rfl | hs
    · cases os
    · rcases at_ ht with rfl | ht
      · cases ot
      · exact S.dis j k s t p ne hs ht os ot e1 e2
theorem SOk.forget (S : SOk G Z W0 se σ W) (is : List Nat) : SOk G Z W0 (Dv.forget is se) σ W := by
  induction is generalizing se with
  | nil => exact S
  | cons i r ih => exact ih (S.no i)
theorem fg_r {is : List Nat} (q : tS G (sFg is g) Dn σ H) : tS G g Dn σ H := by
  obtain ⟨Z, W0, se, W, rfl, S, q⟩ := q
  exact ⟨Z, W0, _, W, rfl, S.forget is, q⟩
theorem newD_r {i : Nat} {f : EnvD → M (List (Int × D))} (q : tS G (sNewD i f) Dn σ H) : tAsg (tDd G f) (gName i) Dn σ H := by
  obtain ⟨Z, W0, se, W, rfl, S, q⟩ := q
  refine ⟨Z, _, W, rfl, S.envV, M.wp_mono (fun n1 ds q1 a vs F1 H1 g1 hn hF ha r1 => ?_) (wp_then q)⟩
  exact q1 _ F1 H1 ((S.step g1).set (Hold := W.H) (sl := .od ds) i (S.held i) ⟨a, rfl, hn, hF, S.base.back hn, vs, ha, r1⟩) g1.ff
end
section
variable {X : Cx} {st : Stmt} {sts : List Stmt} {e : Expr} {pos pos' : Pos} {f : EnvD → M (List (Int × D))} {g : SEnv → M Ctl}
theorem ds_newD (i : Nat) {x : Str} (hN : X.N.Nodup) (hi : X.N[i]? = some x) (hx : Loc X.env.scope x) (he : PE X e (tDd (gx X) f)) (hs : swapsWith e (some (.Name x pos')) pos.line X.env = pure false := by rfl) (hf : X.fn x = true ∨ X.env.scope.names.lookup x = some .local := by first | exact .inl rfl | exact .inr rfl | assumption) :
    PS X (.Assign [.Name x pos'] e pos) (tS (gx X) (sNewD i f)) := (ps_set hN hi hx he hs hf).weak fun _ _ _ q => newD_r q
theorem ds_fg (is : List Nat) (h1 : PSs X sts (tS (gx X) g)) : PSs X sts (tS (gx X) (sFg is g)) := h1.weak fun _ _ _ q => fg_r q
end
end Dv
end
section
set_option linter.all false
set_option maxRecDepth 100000
set_option maxHeartbeats 4000000
namespace Dv
open PySem PySem.Spec PyProof.Rows L2 Evl
section
variable {P : Program} {w : World} {K : PySem.W.Frag} {mg : Str → Option Value} {base : Heap}
def m__law_near_cut : List D → M D := runD 15 (sSeq (sPar [3, 4] (pV (eCall m__law_draw (aCons (eVar 0) (aCons (eCall gLen (aCons (eVar 1) aNil)) aNil))) (pV (eCall m__law_draw (aCons (eVar 0) (aCons (eCall gLen (aCons (eBin gIx (eVar 1) (eC (.int 0))) aNil)) aNil))) pNil))) (sSeq (sSet 5 (eD (nDict (aCons (eN (nZipL (aCons (eCall m__law_mixed (aCons (eVar 0) (aCons (eN (nRng (eCall gLen (aCons (eVar 1) aNil)))) aNil))) (aCons (eCall m__law_mixed (aCons (eVar 0) (aCons (eN (nRng (eCall gLen (aCons (eBin gIx (eVar 1) (eC (.int 0))) aNil)))) aNil))) aNil)))) aNil)))) (sSeq (sIf (bOf (eBin gIs (eVar 2) (eC .non))) (sSeq (sRet (eCall m__law_pick (aCons (eVar 0) (aCons (eN (nLst (aCons (eVar 5) (aCons (eVar 5) (aCons (eC .non) (aCons (eD nDE) (aCons (eN (nLst aNil)) (aCons (eD (nD1 (eVar 3) (eVar 4))) aNil)))))))) aNil)))) sNil) sNil) (sSeq (sPar [6, 7, 8] (pD (nDict (aCons (eVar 2) aNil)) (pD (nDict (aCons (eVar 2) aNil)) (pD (nDict (aCons (eVar 2) aNil)) pNil)))) (sSeq (sSet 9 (eCall m__law_pick (aCons (eVar 0) (aCons (eCall gSorted (aCons (eVar 2) aNil)) aNil)))) (sSeq (sPop 6 (eVar 9)) (sSeq (sPut 7 (eVar 3) (eVar 4)) (sSeq (sPut 8 (eVar 9) (eCall m__law_pick (aCons (eVar 0) (aCons (eN (nLst (aCons (eVar 4) (aCons (eC .non) (aCons (eUn gNeg (eC (.int 1))) (aCons (eCall gLen (aCons (eBin gIx (eVar 1) (eC (.int 0))) aNil)) (aCons (eBin gEq (eBin gIx (eVar 2) (eVar 9)) (eC (.int 1))) (aCons (eC (.str "0")) aNil)))))))) aNil)))) (sSeq (sFzD 6 (sNewD 10 (nDict (aCons (eVar 6) aNil)))) (sSeq (sPut 10 (eVar 3) (eBin gIx (eVar 2) (eVar 9))) (sSeq (sSet 11 (eD (nDict (aCons (eN (nLc [13, 14] (iOf (eN (nRev (eCall gSorted (aCons (eVar 2) aNil))))) (tg1 14) bYes (eTup (aCons (eVar 14) (aCons (eBin gIx (eVar 2) (eVar 14)) aNil))))) aNil)))) (sSeq (sSet 12 (eMix (aCons (eN (nLc [13, 14] (iOf (eVar 2)) (tg1 14) bYes (eTup (aCons (eIf (bOf (eBin (gCmp fun i j => decide (i < j)) (eVar 14) (eC (.int 2)))) (eBin gEq (eVar 14) (eC (.int 1))) (eCall gStr (aCons (eVar 14) aNil))) (aCons (eBin gIx (eVar 2) (eVar 14)) aNil))))) aNil))) (sSeq (sFzD 10 (sFzD 8 (sFzD 7 (sRet (eCall m__law_pick (aCons (eVar 0) (aCons (eN (nLst (aCons (eVar 5) (aCons (eVar 2) (aCons (eVar 11) (aCons (eVar 6) (aCons (eVar 7) (aCons (eVar 8) (aCons (eVar 10) (aCons (eVar 10) (aCons (eVar 12) (aCons (eN (nList (aCons (eVar 2) aNil))) (aCons (eC .non) (aCons (eD nDE) aNil)))))))))))))) aNil))))))) sNil)))))))))))))
theorem sc__law_near_cut : FnScope ["_law_state", "_law_told", "_law_cut_here", "_law_row", "_law_column", "_law_drawn", "_law_less", "_law_more", "_law_bent", "_law_first", "_law_moved_here", "_law_back_here", "_law_named", ".0", "_law_item"] ["_law_state", "_law_told", "_law_cut_here"] (defScope (top 89)) := ⟨rfl, rfl, rfl, by decide +kernel, rfl, by decide +kernel, by decide +kernel⟩
theorem d__law_near_cut (T : Txt mg) (D__law_draw : Def P w K mg base 1 "_law_draw" 2 m__law_draw) (D__law_mixed : Def P w K mg base 2 "_law_mixed" 2 m__law_mixed) (D__law_pick : Def P w K mg base 2 "_law_pick" 2 m__law_pick) {f : Addr} {fd : FuncData} (F : Fun K "_law_near_cut" "_law_near_cut" (top 89) f fd) (hb : L2.Binds K fd ["_law_state", "_law_told", "_law_cut_here"] []) (hm : mg "_law_near_cut" = some (.ref f)) : Def P w K mg base 3 "_law_near_cut" 3 m__law_near_cut := by
  refine mk_def (N := ["_law_state", "_law_told", "_law_cut_here", "_law_row", "_law_column", "_law_drawn", "_law_less", "_law_more", "_law_bent", "_law_first", "_law_moved_here", "_law_back_here", "_law_named", ".0", "_law_item"]) F sc__law_near_cut hb hm rfl fun cdv A outer s H E hr => ?_
  have nd := sc__law_near_cut.nd
  exact (ds_cons (ds_par2 3 4 (by rfl) nd (by rfl) (by rfl) (by decide) (by rfl) (by rfl) (sa_v (de_defL D__law_draw hr (by decide) (by rfl) (by rfl) (da_cons (de_var 0) (da_cons (de_callB cr_lenD (by rfl) T.len boot_len (da_cons (de_var 1) da_nil)) da_nil)) (lenC (lenC lenN))) (sa_v (de_defL D__law_draw hr (by decide) (by rfl) (by rfl) (da_cons (de_var 0) (da_cons (de_callB cr_lenD (by rfl) T.len boot_len (da_cons (de_ix hr.u1 (de_var 1) de_int) da_nil)) da_nil)) (lenC (lenC lenN))) sa_nil)) (by rfl)) (ds_cons (ds_set 5 nd (by rfl) (by first | exact Or.inl (by rfl) | exact Or.inr (by rfl)) (de_d (dd_dict (by rfl) (by rfl) T.dict (da_cons (de_n (dn_listZip (by rfl) (by rfl) T.list (by rfl) T.zip (da_cons (de_defL D__law_mixed hr (by decide) (by rfl) (by rfl) (da_cons (de_var 0) (da_cons (de_n (dn_listRg (by rfl) (by rfl) T.list (by rfl) T.range (de_callB cr_lenD (by rfl) T.len boot_len (da_cons (de_var 1) da_nil)))) da_nil)) (lenC (lenC lenN))) (da_cons (de_defL D__law_mixed hr (by decide) (by rfl) (by rfl) (da_cons (de_var 0) (da_cons (de_n (dn_listRg (by rfl) (by rfl) T.list (by rfl) T.range (de_callB cr_lenD (by rfl) T.len boot_len (da_cons (de_ix hr.u1 (de_var 1) de_int) da_nil)))) da_nil)) (lenC (lenC lenN))) da_nil)))) da_nil)))) (ds_cons (ds_if (dt_cmp op_isD (de_var 2) de_non (nomark _)) (ds_cons (ds_ret (de_defL D__law_pick hr (by decide) (by rfl) (by rfl) (da_cons (de_var 0) (da_cons (de_n (dn_lst (da_cons (de_var 5) (da_cons (de_var 5) (da_cons de_non (da_cons (de_d dd_emp) (da_cons (de_n (dn_lst da_nil)) (da_cons (de_d (dd_one (de_var 3) (de_var 4))) da_nil)))))))) da_nil)) (lenC (lenC lenN)))) ds_nil) ds_nil) (ds_cons (ds_par3 6 7 8 (by rfl) nd (by rfl) (by rfl) (by rfl) (by decide) (by decide) (by decide) (by rfl) (by rfl) (by rfl) (sa_d (dd_dict (by rfl) (by rfl) T.dict (da_cons (de_var 2) da_nil)) (sa_d (dd_dict (by rfl) (by rfl) T.dict (da_cons (de_var 2) da_nil)) (sa_d (dd_dict (by rfl) (by rfl) T.dict (da_cons (de_var 2) da_nil)) sa_nil))) (by rfl)) (ds_cons (ds_set 9 nd (by rfl) (by first | exact Or.inl (by rfl) | exact Or.inr (by rfl)) (de_defL D__law_pick hr (by decide) (by rfl) (by rfl) (da_cons (de_var 0) (da_cons (de_callB (cr_sortedD (by rfl)) (by rfl) T.sorted boot_sorted (da_cons (de_var 2) da_nil)) da_nil)) (lenC (lenC lenN)))) (ds_cons (ds_pop 6 (by rfl) (by first | exact Or.inl (by rfl) | exact Or.inr (Or.inl (by rfl)) | exact Or.inr (Or.inr (by rfl))) (de_var 9) ⟨by rfl, by rfl, by rfl, by rfl⟩) (ds_cons (ds_put 7 hr.u1 (by rfl) (by first | exact Or.inl (by rfl) | exact Or.inr (Or.inl (by rfl)) | exact Or.inr (Or.inr (by rfl))) (de_var 3) (de_var 4)) (ds_cons (ds_put 8 hr.u1 (by rfl) (by first | exact Or.inl (by rfl) | exact Or.inr (Or.inl (by rfl)) | exact Or.inr (Or.inr (by rfl))) (de_var 9) (de_defL D__law_pick hr (by decide) (by rfl) (by rfl) (da_cons (de_var 0) (da_cons (de_n (dn_lst (da_cons (de_var 4) (da_cons de_non (da_cons (de_neg de_int) (da_cons (de_callB cr_lenD (by rfl) T.len boot_len (da_cons (de_ix hr.u1 (de_var 1) de_int) da_nil)) (da_cons (de_cmp (op_eqDD hr.units) (de_ix hr.u1 (de_var 2) (de_var 9)) de_int (nomark _)) (da_cons de_str da_nil)))))))) da_nil)) (lenC (lenC lenN)))) (ds_cons (ds_fzD 6 (ds_newD 10 nd (by rfl) (by first | exact Or.inl (by rfl) | exact Or.inr (by rfl)) (dd_dict (by rfl) (by rfl) T.dict (da_cons (de_var 6) da_nil)))) (ds_cons (ds_put 10 hr.u1 (by rfl) (by first | exact Or.inl (by rfl) | exact Or.inr (Or.inl (by rfl)) | exact Or.inr (Or.inr (by rfl))) (de_var 3) (de_ix hr.u1 (de_var 2) (de_var 9))) (ds_cons (ds_set 11 nd (by rfl) (by first | exact Or.inl (by rfl) | exact Or.inr (by rfl)) (de_d (dd_dict (by rfl) (by rfl) T.dict (da_cons (de_n (dn_lc (by rfl) nd (di_of (de_n (dn_rev (p4 := ⟨0, 0, 0, 0⟩) (de_callB (cr_sortedD (by rfl)) (by rfl) T.sorted boot_sorted (da_cons (de_var 2) da_nil))))) (blkOk_by (own := [(".0", 13), ("_law_item", 14)]) (by rfl)) (fun _ _ _ _ _ => (bg1 14 nd)) (tgr1 14) (by decide) (fun _ _ _ _ _ => dts_nil) (fun _ _ _ _ _ => (de_tup (da_cons (de_var 14) (da_cons (de_ix hr.u1 (de_var 2) (de_var 14)) da_nil)))))) da_nil)))) (ds_cons (ds_set 12 nd (by rfl) (by first | exact Or.inl (by rfl) | exact Or.inr (by rfl)) (de_mix (by rfl) (by rfl) T.dict (da_cons (de_n (dn_lc (by rfl) nd (di_of (de_var 2)) (blkOk_by (own := [(".0", 13), ("_law_item", 14)]) (by rfl)) (fun _ _ _ _ _ => (bg1 14 nd)) (tgr1 14) (by decide) (fun _ _ _ _ _ => dts_nil) (fun _ _ _ _ _ => (de_tup (da_cons (de_if (dt_cmp op_ltD (de_var 14) de_int (nomark _)) (de_cmp (op_eqDD hr.units) (de_var 14) de_int (nomark _)) (de_callTy cr_strD (by rfl) T.str boot_str (da_cons (de_var 14) da_nil))) (da_cons (de_ix hr.u1 (de_var 2) (de_var 14)) da_nil)))))) da_nil))) (ds_cons (ds_fzD 10 (ds_fzD 8 (ds_fzD 7 (ds_ret (de_defL D__law_pick hr (by decide) (by rfl) (by rfl) (da_cons (de_var 0) (da_cons (de_n (dn_lst (da_cons (de_var 5) (da_cons (de_var 2) (da_cons (de_var 11) (da_cons (de_var 6) (da_cons (de_var 7) (da_cons (de_var 8) (da_cons (de_var 10) (da_cons (de_var 10) (da_cons (de_var 12) (da_cons (de_n (dn_list (by rfl) (by rfl) T.list (da_cons (de_var 2) da_nil))) (da_cons de_non (da_cons (de_d dd_emp) da_nil)))))))))))))) da_nil)) (lenC (lenC lenN))))))) ds_nil)))))))))))))
end
end Dv
end
section
set_option linter.all false
set_option maxRecDepth 100000
set_option maxHeartbeats 4000000
/-! P0: x != y of two equal lists of lists of int dicts; of texts. -/
namespace PySem.SeqAt
open MeetsSeq MeetsSeq2 MeetsSeq3 SeqRoads2
open AutoSeq1 (wpAny_loadPart')
section
variable {prog : Program} {w : World}
theorem ne_loop_same (l b : Addr) (xs ys : Array Value) (n m : Nat) (dl db : Option Addr) (sl sb : Array (Option Value)) (hz : xs.size = ys.size) (k : Nat) :
    ∀ i : Nat, xs.size - i = k → MeetsIn prog w (Builtin.«list.__eq__.loop» ⟨[.ref l, .ref b, rawInt i, rawInt 3], []⟩)
      (fun A R s => s.heap.get? l = some { cls := .type "list", dict := dl, data := .seq xs n, slots := sl } ∧ s.heap.get? b = some { cls := .type "list", dict := db, data := .seq ys m, slots := sb } ∧
        (∀ j (q1 : j < xs.size) (q2 : j < ys.size), EqP prog w A.in1 s xs[j] ys[j] true) ∧ R (.ok (.ret (.bool false))) s) := by
  induction k with
  | zero =>
    intro i hk A R s q
    obtain ⟨hp, g, d, tk, os⟩ := s
    obtain ⟨gl, gb, ih, q⟩ := q
    wp_walk using wpAny_loadPart' gl, wpAny_loadPart' gb
    have n1 : xs[((i : Nat) : Int).toNat]? = none := by simp; omega
    have n2 : ys[((i : Nat) : Int).toNat]? = none := by simp; omega
    rw [n1, n2]
    wp_walk using wpAny_loadPart' gl, wpAny_loadPart' gb
    show R (.ok (.ret (.bool (xs.size != ys.size)))) _
    rw [hz, bne_self_eq_false]
    exact q
  | succ k ihk =>
    intro i hk A R s q
    obtain ⟨hp, g, d, tk, os⟩ := s
    obtain ⟨gl, gb, ih, q⟩ := q
    wp_walk using wpAny_loadPart' gl, wpAny_loadPart' gb
    have l1 : i < xs.size := by omega
    have l2 : i < ys.size := by omega
    have n1 : xs[((i : Nat) : Int).toNat]? = some xs[i] := by simp [l1]
    have n2 : ys[((i : Nat) : Int).toNat]? = some ys[i] := by simp [l2]
    have next : ((i : Int) + 1) = ((i + 1 : Nat) : Int) := by push_cast; rfl
    rw [n1, n2]
    refine wpAny_bind (ih i l1 l2 _ _ ?_)
    wp_walk
    rw [next]
    refine ⟨plainId_quiet plain_eq_loop _, codeAny_builtin entry_eq_loop ?_⟩
    rw [Around.under_plainId plain_eq_loop _]
    exact ihk (i + 1) (by omega) A R _ ⟨gl, gb, ih, q⟩
theorem list_ne_same (l b : Addr) (xs ys : Array Value) (n m : Nat) (dl db : Option Addr) (sl sb : Array (Option Value)) (hz : xs.size = ys.size) :
    MeetsIn prog w (Builtin.«list.__ne__» ⟨[.ref l, .ref b], []⟩)
      (fun A R s => s.heap.get? l = some { cls := .type "list", dict := dl, data := .seq xs n, slots := sl } ∧ s.heap.get? b = some { cls := .type "list", dict := db, data := .seq ys m, slots := sb } ∧
        (∀ j (q1 : j < xs.size) (q2 : j < ys.size), EqP prog w A.in1 s xs[j] ys[j] true) ∧ R (.ok (.ret (.bool false))) s) := by
  intro A R s q
  obtain ⟨hp, g, d, tk, os⟩ := s
  obtain ⟨gl, gb, ih, q⟩ := q
  have sub := AutoSeq1.sub_list_list
  have nz : ¬ (xs.size != ys.size) = true := by simp [hz]
  wp_walk using wpAny_loadPart' gl, wpAny_loadPart' gb
  refine ⟨plainId_quiet plain_eq_loop _, codeAny_builtin entry_eq_loop ?_⟩
  rw [Around.under_plainId plain_eq_loop _]
  exact ne_loop_same l b xs ys n m dl db sl sb hz _ 0 rfl A R _ ⟨gl, gb, ih, q⟩
theorem ne_lists_same {A : Around} {s : Shared} {l b : Addr} {xs ys : Array Value} (hl : s.heap.IsList l xs) (hb : s.heap.IsList b ys) (hz : xs.size = ys.size) (hu : A.units < cLine)
    (ih : ∀ j (q1 : j < xs.size) (q2 : j < ys.size), EqP prog w A.in1 s xs[j] ys[j] true) (E Q : Value → Shared → Prop) (q : Q (.bool false) s) : wpAny (model prog w) A (compareOp .NotEq (.ref l) (.ref b)) Q E s := by
  obtain ⟨⟨c1, d1, data1, s1⟩, g1, e1, n1, f1⟩ := id hl
  obtain ⟨⟨c2, d2, data2, s2⟩, g2, e2, n2, f2⟩ := id hb
  simp only at e1 f1 e2 f2
  subst e1 f1 e2 f2
  have t1 : s.TypeIs (.ref l) "list" := ⟨_, g1, rfl⟩
  have t2 : s.TypeIs (.ref b) "list" := ⟨_, g2, rfl⟩
  show wpAny (model prog w) A (richCompare .NotEq (.ref l) (.ref b)) Q E s
  exact wpAny_richCompare_same_room (op := .NotEq) t1 t2 F.slot_list_ne (call_meetsIn F.slot_list_ne t1 F.entry_list_ne (F.args_list_ne_2 _ _) (list_ne_same l b xs ys n1 n2 d1 d2 s1 s2 hz)
    ⟨g1, g2, ih, show Value.bool false ≠ Value.notImplemented ∧ Q (.bool false) s from ⟨(fun x => nomatch x), q⟩⟩) hu
end
end PySem.SeqAt
end
section
set_option linter.all false
set_option maxRecDepth 100000
set_option maxHeartbeats 4000000
/-! P1: x != y of two equal lists of lists of int dicts; of texts: the data's rules. -/
namespace Dv
open PySem PySem.Spec PyProof.Rows L2 Evl
open PySem.SeqAt (EqP eqP_refs)
def pairsI : List (Int × D) → Option (List (Int × Int))
  | [] => some []
  | (k, .int v) :: r => match pairsI r with
    | some ps => some ((k, v) :: ps)
    | none => none
  | _ :: _ => none
def sameP : List (Int × Int) → List (Int × Int) → Bool
  | [], [] => true
  | a :: r, b :: t => iEq a.1 b.1 && iEq a.2 b.2 && sameP r t
  | _, _ => false
def apartP : List (Int × Int) → Bool
  | [] => true
  | a :: r => !r.any (fun b => iEq b.1 a.1) && apartP r
def sameDd : D → D → Bool
  | .dic k, .dic l => match pairsI k, pairsI l with
    | some a, some b => sameP a b && apartP a
    | _, _ => false
  | _, _ => false
def sameLd : List D → List D → Bool
  | [], [] => true
  | a :: r, b :: t => sameDd a b && sameLd r t
  | _, _ => false
def sameLl : List D → List D → Bool
  | [], [] => true
  | .lst a :: r, .lst b :: t => sameLd a b && sameLl r t
  | _, _ => false
def gNeP : D → D → M D
  | .lst xs, .lst ys => gd (sameLl xs ys) (.ret (.bl false))
  | _, _ => .bad
def gNeS : D → D → M D
  | .str x, .str y => .ret (.bl (!decide (x = y)))
  | _, _ => .bad
theorem pairsI_eq : ∀ {k : List (Int × D)} {ps : List (Int × Int)}, pairsI k = some ps → k = ps.map fun p => (p.1, D.int p.2)
  | [], ps, h => by
    cases h
    rfl
  | (k, d) :: r, ps, h => by
    unfold pairsI at h
    split at h
    · cases h
      rename_i e
      cases e
    · rename_i e
      cases e
      split at h
      · rename_i e2
        cases h
        rw [pairsI_eq e2]
        rfl
      · cases h
    · cases h
theorem sameP_eq : ∀ {a b : List (Int × Int)}, sameP a b = true → a = b
  | [], [], _ => rfl
  | [], _ :: _, h => by cases h
  | _ :: _, [], h => by cases h
  | a :: r, b :: t, h => by
    have h : (iEq a.1 b.1 && iEq a.2 b.2 && sameP r t) = true := h
    rw [Bool.and_eq_true, Bool.and_eq_true] at h
    rw [sameP_eq h.2, Prod.ext (iEq_iff.mp h.1.1) (iEq_iff.mp h.1.2)]
theorem apartP_of : ∀ {a : List (Int × Int)}, apartP a = true → (a.map (·.1)).Nodup
  | [], _ => .nil
  | a :: r, h => by
    have h : (!r.any (fun b => iEq b.1 a.1) && apartP r) = true := h
    rw [Bool.and_eq_true] at h
    refine List.nodup_cons.mpr ⟨fun z => ?_, apartP_of h.2⟩
    obtain ⟨b, hb, e⟩ := List.mem_map.mp z
    have := h.1
    rw [Bool.not_eq_true', List.any_eq_false] at this
    exact this b hb (iEq_iff.mpr e)
theorem look_of : ∀ {a : List (Int × Int)} {p : Int × Int}, (a.map (·.1)).Nodup → p ∈ a → lookD (a.map fun p => (p.1, D.int p.2)) p.1 = some (.int p.2)
  | q :: r, p, nd, h => by
    have nd : (q.1 :: r.map (·.1)).Nodup := nd
    show (match iEq q.1 p.1 with | true => some (D.int q.2) | false => lookD (r.map fun (p : Int × Int) => (p.1, D.int p.2)) p.1) = _
    rcases List.mem_cons.mp h with rfl | h
    · rw [iEq_iff.mpr rfl]
    · have ne : q.1 ≠ p.1 := fun z => (List.nodup_cons.mp nd).1 (List.mem_map.mpr ⟨p, h, z.symm⟩)
      rw [iEq_no.mpr ne]
      exact look_of (List.nodup_cons.mp nd).2 h
section
variable {X : Cx} {pins : List (Addr × Obj)} {σ : L2.St} {s : Shared} {Z : Zs} {W : Wd}
theorem eqP_dd (I : Inv X pins σ W.H s) (g : Gd Z W) {A : Around} (hu : A.units + 2 < cLine) {x y : V} {d e : D} {u v : Value} (h : sameDd d e = true) (rx : Rep (gx X) Z W.F x d) (ry : Rep (gx X) Z W.F y e) (ru : RelV x u) (rv : RelV y v) : EqP X.prog X.w A s u v true := by
  unfold sameDd at h
  split at h
  · rename_i k l
    cases e1 : pairsI k with
    | none => rw [e1] at h; cases h
    | some a =>
      cases e2 : pairsI l with
      | none => rw [e1, e2] at h; cases h
      | some b =>
        rw [e1, e2] at h
        have h : (sameP a b && apartP a) = true := h
        rw [Bool.and_eq_true] at h
        have eab := sameP_eq h.1
        subst eab
        have nd := apartP_of h.2
        obtain ⟨p, o1, vs, rfl, hp, rp⟩ := rep_dic rx
        obtain ⟨q, o2, ws, rfl, hq, rq⟩ := rep_dic ry
        rw [pairsI_eq e1] at hp rp
        rw [pairsI_eq e2] at hq rq
        cases (show u = Value.ref p from ru)
        cases (show v = Value.ref q from rv)
        by_cases hpq : p = q
        · subst hpq
          exact (SeqAt.EqAt.same _).eqP
        obtain ⟨_, _, ya, va, ra, da⟩ := (show ObjOk X.prog X.w W.H s.heap p (.frz o1 (.dK _)) from I.hok p _ (g.sub _ _ hp))
        obtain ⟨_, _, yb, vb, rb, db⟩ := (show ObjOk X.prog X.w W.H s.heap q (.frz o2 (.dK _)) from I.hok q _ (g.sub _ _ hq))
        have hl : va.length = vb.length := by
          rw [← ra.length, ← rb.length, List.length_zip, List.length_zip, rp.length, rq.length]
        refine eqP_refs hpq fun E Q hq => ?_
        refine PySem.W.rcP_dicts (knd := mixKind X.prog X.w) (r := true) ya yb da db (by omega) (fun _ => hits_run (F := fun x y => ∃ i, x = V.int i ∧ y = V.int i) (fun x y v u f r r' => ?_) rb ra fun pr hm => ?_) E Q ?_
        · obtain ⟨i, rfl, rfl⟩ := f
          exact (eqAt_same r r' rfl).eqP
        · -- a pair of the first is one of the second
          have em : (a.map fun p => (p.1, D.int p.2)).map (·.2) = (a.map (·.2)).map D.int := by
            rw [List.map_map, List.map_map]
            rfl
          rw [em] at rp rq
          have ev := Reps.ints_eq rp
          have ew := Reps.ints_eq rq
          subst ev ew
          have ek : dkeys (a.map fun p => (p.1, D.int p.2)) = a.map fun p => (Sum.inl p.1 : Key) := by
            unfold dkeys
            rw [List.map_map]
            rfl
          have hm' : pr ∈ a.map fun p => ((Sum.inl p.1 : Key), V.int p.2) := by
            have : List.zip (dkeys (a.map fun p => (p.1, D.int p.2))) ((a.map (·.2)).map V.int) = a.map fun p => ((Sum.inl p.1 : Key), V.int p.2) := by
              rw [ek, List.map_map, List.zip_map']
              rfl
            rw [← this]
            exact hm
          obtain ⟨p0, hp0, rfl⟩ := List.mem_map.mp hm'
          obtain ⟨w0, hw0, rw0⟩ := val_some (vs := (a.map (·.2)).map V.int) (kvs := a.map fun p => (p.1, D.int p.2)) (by rw [em]; exact rq) (look_of nd hp0)
          exact ⟨w0, hw0, p0.2, rfl, rw0.int_inv⟩
        · rw [show (va.length == vb.length && true) = true from by rw [hl]; simp]
          exact hq
  · cases h
theorem eqP_lds (I : Inv X pins σ W.H s) (g : Gd Z W) {A : Around} (hu : A.units + 2 < cLine) : ∀ {xs ys : List D} {vs ws : List V} {us ts : List Value}, sameLd xs ys = true → Reps (gx X) Z W.F vs xs → Reps (gx X) Z W.F ws ys → Vals vs us → Vals ws ts →
    us.length = ts.length ∧ ∀ j (h1 : j < us.length) (h2 : j < ts.length), EqP X.prog X.w A s us[j] ts[j] true
  | [], [], _, _, _, _, _, .nil, .nil, .nil, .nil => ⟨rfl, fun j h1 => absurd h1 (Nat.not_lt_zero j)⟩
  | x :: xs, y :: ys, _, _, _, _, h, .cons a rx, .cons b ry, .cons c ru, .cons d rv => by
    have h : (sameDd x y && sameLd xs ys) = true := h
    rw [Bool.and_eq_true] at h
    obtain ⟨hl, ih⟩ := eqP_lds I g hu h.2 rx ry ru rv
    refine ⟨congrArg (· + 1) hl, fun j h1 h2 => ?_⟩
    cases j with
    | zero => exact eqP_dd I g hu h.1 a b c d
    | succ j => exact ih j (Nat.lt_of_succ_lt_succ h1) (Nat.lt_of_succ_lt_succ h2)
  | [], _ :: _, _, _, _, _, h, _, _, _, _ => by cases h
  | _ :: _, [], _, _, _, _, h, _, _, _, _ => by cases h
theorem eqP_lls (I : Inv X pins σ W.H s) (g : Gd Z W) {A : Around} (hu : A.units + 5 < cLine) : ∀ {xs ys : List D} {vs ws : List V} {us ts : List Value}, sameLl xs ys = true → Reps (gx X) Z W.F vs xs → Reps (gx X) Z W.F ws ys → Vals vs us → Vals ws ts →
    us.length = ts.length ∧ ∀ j (h1 : j < us.length) (h2 : j < ts.length), EqP X.prog X.w A s us[j] ts[j] true
  | [], [], _, _, _, _, _, .nil, .nil, .nil, .nil => ⟨rfl, fun j h1 => absurd h1 (Nat.not_lt_zero j)⟩
  | .lst x :: xs, .lst y :: ys, _, _, _, _, h, .cons a rx, .cons b ry, .cons c ru, .cons d rv => by
    have h : (sameLd x y && sameLl xs ys) = true := h
    rw [Bool.and_eq_true] at h
    obtain ⟨hl, ih⟩ := eqP_lls I g hu h.2 rx ry ru rv
    refine ⟨congrArg (· + 1) hl, fun j h1 h2 => ?_⟩
    cases j with
    | zero =>
      obtain ⟨p, vs, rfl, hp, rp⟩ := rep_lst a
      obtain ⟨q, ws, rfl, hq, rq⟩ := rep_lst b
      cases c
      cases d
      by_cases hpq : p = q
      · subst hpq
        exact (SeqAt.EqAt.same _).eqP
      obtain ⟨us, r1, p1, _⟩ := I.list (SqL.of (g.sub _ _ hp))
      obtain ⟨ts, r2, p2, _⟩ := I.list (SqL.of (g.sub _ _ hq))
      obtain ⟨hl2, ih2⟩ := eqP_lds I g (A := A.in1) (by show A.units + 1 + 2 < cLine; omega) h.1 rp rq r1 r2
      refine eqP_refs hpq fun E Q hq => ?_
      refine SeqAt.rcP_lists (e := fun _ => true) p1.isList p2.isList (by simpa using hl2) (by omega) (fun j h1 h2 => ?_) E Q ?_
      · have k := ih2 j (by simpa using h1) (by simpa using h2)
        simpa using k
      · rw [show ((List.range us.toArray.size).all fun _ => true) = true from List.all_eq_true.mpr fun _ _ => rfl]
        exact hq
    | succ j => exact ih j (Nat.lt_of_succ_lt_succ h1) (Nat.lt_of_succ_lt_succ h2)
end
theorem op_neP {X : Cx} (hu : X.A.units + 64 < cLine) : OpR X (compareOp .NotEq) (opD (gx X) gNeP) := by
  intro pins s σ H x y v u Q I rv ru ⟨Z, W, d, e, hW, g, rx, ry, h⟩
  subst hW
  unfold gNeP at h
  split at h
  · rename_i xs ys
    obtain ⟨hs, h⟩ := gd_wp h
    obtain ⟨p, vs, rfl, hp, rp⟩ := rep_lst rx
    obtain ⟨q, ws, rfl, hq, rq⟩ := rep_lst ry
    cases rv
    cases ru
    obtain ⟨us, r1, p1, _⟩ := I.list (SqL.of (g.sub _ _ hp))
    obtain ⟨ts, r2, p2, _⟩ := I.list (SqL.of (g.sub _ _ hq))
    obtain ⟨hl, ih⟩ := eqP_lls I g (A := X.A.in1) (by show X.A.units + 1 + 5 < cLine; omega) hs rp rq r1 r2
    refine SeqAt.ne_lists_same p1.isList p2.isList (by simpa using hl) (by omega) (fun j h1 h2 => ?_) _ _ ⟨.bl false, W.H, I, rfl, h _ W.F W.H (Gr.refl g) (.bl _)⟩
    have k := ih j (by simpa using h1) (by simpa using h2)
    simpa using k
  · exact h.elim
theorem op_neS {X : Cx} : OpR X (compareOp .NotEq) (opD (gx X) gNeS) :=
  op_ne.weak fun x y H Q ⟨Z, W, d, e, hW, g, rx, ry, h⟩ => by
    subst hW
    unfold gNeS at h
    split at h
    · rename_i a b
      cases rx
      cases ry
      refine ⟨rfl, ?_⟩
      have e : decide (V.str a = V.str b) = decide (a = b) := by
        by_cases q : a = b
        · rw [decide_eq_true q, decide_eq_true (congrArg V.str q)]
        · rw [decide_eq_false q, decide_eq_false fun z => q (V.str.inj z)]
      first
        | (rw [e]; exact h _ W.F W.H (Gr.refl g) (.bl _))
        | exact h _ W.F W.H (Gr.refl g) (.bl _)
    · exact h.elim
end Dv
end
section
set_option linter.all false
set_option maxRecDepth 100000
set_option maxHeartbeats 4000000
/-! C7: a turn of the law. -/
namespace Dv
open PySem PySem.Spec PyProof.Rows L2 Evl Kept
section
variable {P : Program} {w : World} {K : PySem.W.Frag} {mg : Str → Option Value} {base : Heap} {C : Nat → Addr} {CS : Addr}
abbrev lawN : List Str := ["_law_script", "_law_state", "_law_turn", "_law_menu", "_law_all_here", "_law_none_here", "_law_told", "_law_item", "_law_halves", "_law_found", "_law_due", "_law_drawn", "_law_some", "_law_lots", "_law_chosen", "_law_text", "_law_moved_here", "_law_shift", "_law_row", "_law_other", "_law_parts_here", "_law_book_here", "_law_pick_here", "_law_cells_here", "_law_line", "_law_dials_here", "_law_odd", "_law_wrong", ".0", "_law_pair", "_law_spot"]
theorem sc_law : FnScope lawN ["_law_script"] (defScope (top 92)) := ⟨rfl, rfl, rfl, by decide +kernel, rfl, by decide +kernel, by decide +kernel⟩
def lawTurn : List Stmt := match (defBody (top 92)).getD 1 (.Pass ⟨0, 0, 0, 0⟩) with
  | .For _ _ b _ _ => b
  | _ => []
/-- one item of a turn -/
def m_inner : SEnv → M Ctl := (sFg [8, 11, 12, 13, 14, 15, 16, 17, 10, 20, 21, 22, 19, 23, 18, 24] (sSeq (sIf (bNot (bOf (eCall m__law_is_cut (aCons (eVar 6) (aCons (eVar 7) aNil))))) (sSeq (sIf (bNot (bOf (eCaught 2 m_parting_byE (aCons (eVar 25) (aCons (eVar 7) aNil))))) (sSeq (sRet (eC (.bl false))) sNil) sNil) sNil) (sSeq (sPar [15, 16] (pV (eCall gRepr (aCons (eVar 7) aNil)) (pO (nLst aNil) pNil))) (sSeq (sFor (iOf (eVar 3)) (.one 17) (sSeq (sApp 16 (eD (nDict (aCons (eN (nLc [28, 18] (iRng1D (aCons (eCall gLen (aCons (eVar 3) aNil)) aNil)) (tg1 18) bYes (eTup (aCons (eVar 18) (aCons (eIndex (eVar 3) (eCall m__law_plus (aCons (eVar 25) (aCons (eBin gIx (eVar 3) (eBin gIx (eVar 7) (eVar 18))) (aCons (eVar 17) aNil))))) aNil))))) aNil)))) sNil)) (sSeq (sNewO 10 (nLc [28, 30] (iRng1D (aCons (eCall gLen (aCons (eVar 3) aNil)) aNil)) (tg1 30) bYes (eBin gIx (eN (nLc [28, 19] (iOf (eVar 16)) (tg1 19) (bOf (eBin gEq (eBin gIx (eVar 19) (eC (.int 0))) (eVar 30))) (eVar 19))) (eC (.int 0))))) (sSeq (sSet 20 (eN (nLst (aCons (eCall (fun ds => noErr (m_parting_byE ds)) (aCons (eVar 25) (aCons (eVar 7) aNil))) (aCons (eCall (kwF m_parting_byE) (aCons (eVar 7) (aCons (eVar 25) aNil))) aNil))))) (sSeq (sIf (bOr (bOf (eBin gNeP (eVar 20) (eN (nLst (aCons (eVar 10) (aCons (eVar 10) aNil)))))) (bOr (bNot (bOf (eCall m__law_is_parting (aCons (eVar 6) (aCons (eBin gIx (eVar 20) (eC (.int 0))) aNil))))) (bOf (eBin gIsNot (eCall m_is_parting (aCons (eVar 6) (aCons (eBin gIx (eVar 20) (eC (.int 0))) aNil))) (eC (.bl true)))))) (sSeq (sRet (eC (.bl false))) sNil) sNil) (sSeq (sSet 21 (eCall gTuple (aCons (eN (nLc [28, 18] (iOf (eVar 6)) (tg1 18) bYes (eCall gTuple (aCons (eN (nEnumL (aCons (eVar 18) aNil))) aNil)))) aNil))) (sSeq (sSet 22 (eD (nDict (aCons (eN (nLc [28, 18] (iOf (eVar 7)) (tg1 18) bYes (eTup (aCons (eVar 18) (aCons (eTup (aCons (eBin gIx (eVar 7) (eVar 18)) (aCons (eBin gIx (eBin gIx (eVar 6) (eVar 18)) (eBin gIx (eVar 7) (eVar 18))) aNil))) aNil))))) aNil)))) (sSeq (sIf (bOr (bNot (bOf (eCall m__law_is_pick (aCons (eVar 21) (aCons (eVar 22) aNil))))) (bOf (eBin gNe (eCall m_closing_by (aCons (eVar 25) (aCons (eVar 4) (aCons (eVar 22) aNil)))) (eRngT (eCall gLen (aCons (eVar 3) aNil)))))) (sSeq (sRet (eC (.bl false))) sNil) sNil) (sSeq (sPar [19, 23] (pV (eCall m_mate (aCons (eVar 6) (aCons (eBin gIx (eVar 20) (eC (.int 0))) aNil))) (pV (eN (nLst aNil)) pNil))) (sSeq (sFor (iZipD (aCons (eVar 6) (aCons (eVar 19) aNil))) (.two 18 24) (sSeq (sSet 23 (eBin gAdd (eVar 23) (eN (nZipL (aCons (eVar 18) (aCons (eVar 24) aNil)))))) sNil)) (sSeq (sIf (bOr (bNot (bOf (eCall m__law_is_table (aCons (eVar 19) aNil)))) (bOr (bOf (eBin gNe (eLenSet (eVar 23)) (eBin gMul (eCall gLen (aCons (eVar 3) aNil)) (eCall gLen (aCons (eVar 3) aNil))))) (bOr (bOf (eBin gIsNot (eCall m_is_cut (aCons (eVar 6) (aCons (eVar 7) aNil))) (eC (.bl true)))) (bOf (eBin gNeS (eCall gRepr (aCons (eVar 7) aNil)) (eVar 15)))))) (sSeq (sRet (eC (.bl false))) sNil) sNil) sNil)))))))))))) sNil))
/-- a turn of the law -/
def m_turn : SEnv → M Ctl := sFg [0, 2, 3, 4, 5, 6, 7, 8, 9, 10, 11, 12, 13, 14, 15, 16, 17, 18, 19, 20, 21, 22, 23, 24, 25, 26, 27, 28, 29, 30] (sSeq (sSet 25 (eCall m__law_dials (aCons (eVar 1) (aCons (eC (.int 6)) aNil)))) (sSeq (sSet 3 (eCall m__law_places (aCons (eVar 25) aNil))) (sSeq (sPar [4, 5] (pV (eCall gTuple (aCons (eVar 3) aNil)) (pV (eCall m__law_nothing (aCons (eVar 25) aNil)) pNil))) (sSeq (sSet 6 (eCall m_moves_table (aCons (eVar 25) (aCons (eVar 4) aNil)))) (sSeq (sIf (bOr (bOf (eBin gNe (eCall m_places (aCons (eVar 25) aNil)) (eVar 3))) (bOf (eBin gNe (eVar 6) (eCall gTuple (aCons (eN (nLc [28, 7] (iOf (eVar 3)) (tg1 7) bYes (eCall gTuple (aCons (eN (nLc [28, 29] (iOf (eCall m__law_move_plan (aCons (eVar 25) (aCons (eVar 7) aNil)))) (tg1 29) bYes (eBin gIx (eVar 29) (eC (.int 1))))) aNil)))) aNil))))) (sSeq (sRet (eC (.bl false))) sNil) sNil) (sSeq (sSet 8 (eN (nLc [28, 7] (iOf (eVar 3)) (tg1 7) (bAnd (bOf (eBin gNe (eVar 7) (eVar 5))) (bOf (eBin gEq (eCall m__law_plus (aCons (eVar 25) (aCons (eVar 7) (aCons (eVar 7) aNil)))) (eVar 5)))) (eVar 7)))) (sSeq (sPar [9, 10] (pV (eCall m_cut (aCons (eVar 6) aNil)) (pV (eBin gNe (eCall gLen (aCons (eVar 8) aNil)) (eC (.int 1))) pNil))) (sSeq (sIf (bOr (bOf (eBin gNe (eBin gIsNot (eVar 9) (eC .non)) (eVar 10))) (bOf (eBin gNe (eBin gEq (eCall m_total_of (aCons (eVar 25) (aCons (eVar 4) aNil))) (eVar 5)) (eVar 10)))) (sSeq (sRet (eC (.bl false))) sNil) sNil) (sSeq (sIf (bOf (eBin gNe (eBin gIs (eCall m_is_closing (aCons (eVar 25) (aCons (eVar 4) (aCons (eRngT (eCall gLen (aCons (eVar 3) aNil))) aNil)))) (eC (.bl true))) (eVar 10))) (sSeq (sRet (eC (.bl false))) sNil) sNil) (sSeq (sSet 11 (eD (nDict (aCons (eN (nZipL (aCons (eN (nRng (eCall gLen (aCons (eVar 3) aNil)))) (aCons (eCall m__law_mixed (aCons (eVar 1) (aCons (eN (nRng (eCall gLen (aCons (eVar 3) aNil)))) aNil))) aNil)))) aNil)))) (sSeq (sSet 12 (eN (nLst (aCons (eVar 11) aNil)))) (sSeq (sIf (bOf (eBin gIsNot (eVar 9) (eC .non))) (sSeq (sSet 13 (eCall m__law_all_cuts (aCons (eVar 6) aNil))) (sSeq (sSet 14 (eCall m__law_pick (aCons (eVar 1) (aCons (eVar 13) aNil)))) (sSeq (sSet 12 (eN (nLst (aCons (eVar 11) (aCons (eVar 9) (aCons (eD (nDict (aCons (eN (nEnumL (aCons (eVar 14) aNil))) aNil))) aNil)))))) sNil))) sNil) (sSeq (sFor (iOf (eVar 12)) (.one 7) m_inner) (sSeq (sPar [27, 26] (pV (eCall m__law_bad_dials (aCons (eVar 1) aNil)) (pV (eCall m__law_near_cut (aCons (eVar 1) (aCons (eVar 6) (aCons (eVar 9) aNil)))) pNil))) (sSeq (sIf (bNot (bOf (eCaught 1 m_parting_byE (aCons (eVar 27) (aCons (eVar 26) aNil))))) (sSeq (sRet (eC (.bl false))) sNil) sNil) (sSeq (sIf (bAnd (bNot (bOf (eCall m__law_is_cut (aCons (eVar 6) (aCons (eVar 26) aNil))))) (bNot (bOf (eCaught 2 m_parting_byE (aCons (eVar 25) (aCons (eVar 26) aNil)))))) (sSeq (sRet (eC (.bl false))) sNil) sNil) sNil))))))))))))))))
theorem d_turn (T : Txt mg) (D__law_dials : Def P w K mg base 3 "_law_dials" 2 m__law_dials) (D__law_places : Def P w K mg base 1 "_law_places" 1 m__law_places) (D__law_nothing : Def P w K mg base 1 "_law_nothing" 1 m__law_nothing) (D_moves_table : Def P w K mg base 5 "moves_table" 2 m_moves_table) (D__law_move_plan : Def P w K mg base 2 "_law_move_plan" 2 m__law_move_plan) (D_places : Def P w K mg base 4 "places" 1 m_places) (D__law_plus : Def P w K mg base 1 "_law_plus" 3 m__law_plus) (D_cut : Def P w K mg base 6 "cut" 1 m_cut) (D_total_of : Def P w K mg base 5 "total_of" 2 m_total_of) (D_is_closing : Def P w K mg base 6 "is_closing" 3 m_is_closing) (D__law_mixed : Def P w K mg base 2 "_law_mixed" 2 m__law_mixed) (D__law_all_cuts : Def P w K mg base 1 "_law_all_cuts" 1 m__law_all_cuts) (D__law_pick : Def P w K mg base 2 "_law_pick" 2 m__law_pick) (D__law_is_cut : Def P w K mg base 3 "_law_is_cut" 2 m__law_is_cut) (D_is_parting : Def P w K mg base 6 "is_parting" 2 m_is_parting) (D__law_is_parting : Def P w K mg base 4 "_law_is_parting" 2 m__law_is_parting) (D_closing_by : Def P w K mg base 6 "closing_by" 3 m_closing_by) (D__law_is_pick : Def P w K mg base 4 "_law_is_pick" 2 m__law_is_pick) (D_mate : Def P w K mg base 6 "mate" 2 m_mate) (D_is_cut : Def P w K mg base 5 "is_cut" 2 m_is_cut) (D__law_is_table : Def P w K mg base 4 "_law_is_table" 1 m__law_is_table) (D__law_near_cut : Def P w K mg base 3 "_law_near_cut" 3 m__law_near_cut) (D__law_bad_dials : Def P w K mg base 3 "_law_bad_dials" 1 m__law_bad_dials) (E_parting_by : DefE2 P w K mg base C 4 "parting_by" "dials" "cut" m_parting_byE) (ek : ExKit K mg C CS) (ca : CaughtAt K mg) {f c Pt : Addr} (tb : LamX.TabB base mg c Pt) (hP : (Pt, ("law" : Str) ++ ".<locals>." ++ "<lambda>") ∈ tbl0) (hu : ∀ p ∈ tbl0, p.1 = Pt → p.2 = ("law" : Str) ++ ".<locals>." ++ "<lambda>")
    (A : Around) (outer : List PySem.Env) (s : Shared) (H : Hp) (E : XK) (hr : Room 6 (A.deeper (envOfC "law" (defScope (top 92)) s.heap.objs.size f (.ref c)))) (hg : (A.deeper (envOfC "law" (defScope (top 92)) s.heap.objs.size f (.ref c))).guards = some []) :
    PSs (cxOf CX0 P w K mg base lawN "law" (defScope (top 92)) f (.ref c) A outer s H E).nox lawTurn (tS ⟨P, w, K⟩ m_turn) := by
  have nd := sc_law.nd
  exact ds_fg [0, 2, 3, 4, 5, 6, 7, 8, 9, 10, 11, 12, 13, 14, 15, 16, 17, 18, 19, 20, 21, 22, 23, 24, 25, 26, 27, 28, 29, 30] (ds_cons (ds_set 25 nd (by rfl) (by first | exact Or.inl (by rfl) | exact Or.inr (by rfl)) (de_defL D__law_dials hr (by decide) (by rfl) (by rfl) (da_cons (de_var 1) (da_cons de_int da_nil)) (lenC (lenC lenN)))) (ds_cons (ds_set 3 nd (by rfl) (by first | exact Or.inl (by rfl) | exact Or.inr (by rfl)) (de_defL D__law_places hr (by decide) (by rfl) (by rfl) (da_cons (de_var 25) da_nil) (lenC lenN))) (ds_cons (ds_tup2 4 5 (bg2 4 5 (by rfl) nd) (sa_v (de_callTy cr_tupleD (by rfl) T.tuple boot_tuple (da_cons (de_var 3) da_nil)) (sa_v (de_defL D__law_nothing hr (by decide) (by rfl) (by rfl) (da_cons (de_var 25) da_nil) (lenC lenN)) sa_nil))) (ds_cons (ds_set 6 nd (by rfl) (by first | exact Or.inl (by rfl) | exact Or.inr (by rfl)) (de_defL D_moves_table hr (by decide) (by rfl) (by rfl) (da_cons (de_var 25) (da_cons (de_var 4) da_nil)) (lenC (lenC lenN)))) (ds_cons (ds_if (PW.pt (dw_or (dt_cmp (op_neDD hr.units) (de_defL D_places hr (by decide) (by rfl) (by rfl) (da_cons (de_var 25) da_nil) (lenC lenN)) (de_var 3) (nomark _)) (dw_or1 (dt_cmp (op_neDD hr.units) (de_var 6) (de_callTy cr_tupleD (by rfl) T.tuple boot_tuple (da_cons (de_n (dn_lc (by rfl) nd (di_of (de_var 3)) (blkOk_by (own := [(".0", 28), ("_law_item", 7)]) (by rfl)) (fun _ _ _ _ _ => (bg1 7 nd)) (tgr1 7) (by decide) (fun _ _ _ _ _ => dts_nil) (fun _ _ _ _ _ => (de_callTy cr_tupleD (by rfl) T.tuple boot_tuple (da_cons (de_n (dn_lc (by rfl) nd (di_of (de_defL D__law_move_plan hr (by decide) (by rfl) (by rfl) (da_cons (de_var 25) (da_cons (de_var 7) da_nil)) (lenC (lenC lenN)))) (blkOk_by (own := [(".0", 28), ("_law_pair", 29)]) (by rfl)) (fun _ _ _ _ _ => (bg1 29 nd)) (tgr1 29) (by decide) (fun _ _ _ _ _ => dts_nil) (fun _ _ _ _ _ => (de_ix hr.u1 (de_var 29) de_int)))) da_nil))))) da_nil)) (nomark _))))) (ds_cons (ds_ret de_bl) ds_nil) ds_nil) (ds_cons (ds_lcV 8 (by rfl) nd (by rfl) (by rfl) (by rfl) (di_of (de_var 3)) (blkOk_by (own := [(".0", 28), ("_law_item", 7)]) (by rfl)) (fun _ _ _ _ _ => (bg1 7 nd)) (tgr1 7) (by decide) (fun _ _ _ _ _ => (dts_one (PW.pt (dw_and (dt_cmp (op_neDD hr.units) (de_var 7) (de_var 5) (nomark _)) (dw_and1 (dt_cmp (op_eqDD hr.units) (de_defL D__law_plus hr (by decide) (by rfl) (by rfl) (da_cons (de_var 25) (da_cons (de_var 7) (da_cons (de_var 7) da_nil))) (lenC (lenC (lenC lenN)))) (de_var 5) (nomark _))))))) (fun _ _ _ _ _ => (de_var 7))) (ds_cons (ds_par2 9 10 (by rfl) nd (by rfl) (by rfl) (by decide) (by rfl) (by rfl) (sa_v (de_defL D_cut hr (by decide) (by rfl) (by rfl) (da_cons (de_var 6) da_nil) (lenC lenN)) (sa_v (de_cmp (op_neDD hr.units) (de_callB cr_lenD (by rfl) T.len boot_len (da_cons (de_var 8) da_nil)) de_int (nomark _)) sa_nil)) (by rfl)) (ds_cons (ds_if (PW.pt (dw_or (dt_cmp (op_neDD hr.units) (de_cmp op_isNotD (de_var 9) de_non (nomark _)) (de_var 10) (nomark _)) (dw_or1 (dt_cmp (op_neDD hr.units) (de_cmp (op_eqDD hr.units) (de_defL D_total_of hr (by decide) (by rfl) (by rfl) (da_cons (de_var 25) (da_cons (de_var 4) da_nil)) (lenC (lenC lenN))) (de_var 5) (nomark _)) (de_var 10) (nomark _))))) (ds_cons (ds_ret de_bl) ds_nil) ds_nil) (ds_cons (ds_if (dt_cmp (op_neDD hr.units) (de_cmp op_isD (de_defL D_is_closing hr (by decide) (by rfl) (by rfl) (da_cons (de_var 25) (da_cons (de_var 4) (da_cons (de_tupRg (by rfl) (by rfl) T.tuple (by rfl) T.range (de_callB cr_lenD (by rfl) T.len boot_len (da_cons (de_var 3) da_nil))) da_nil))) (lenC (lenC (lenC lenN)))) de_bl (nomark _)) (de_var 10) (nomark _)) (ds_cons (ds_ret de_bl) ds_nil) ds_nil) (ds_cons (ds_set 11 nd (by rfl) (by first | exact Or.inl (by rfl) | exact Or.inr (by rfl)) (de_d (dd_dict (by rfl) (by rfl) T.dict (da_cons (de_n (dn_listZip (by rfl) (by rfl) T.list (by rfl) T.zip (da_cons (de_n (dn_listRg (by rfl) (by rfl) T.list (by rfl) T.range (de_callB cr_lenD (by rfl) T.len boot_len (da_cons (de_var 3) da_nil)))) (da_cons (de_defL D__law_mixed hr (by decide) (by rfl) (by rfl) (da_cons (de_var 1) (da_cons (de_n (dn_listRg (by rfl) (by rfl) T.list (by rfl) T.range (de_callB cr_lenD (by rfl) T.len boot_len (da_cons (de_var 3) da_nil)))) da_nil)) (lenC (lenC lenN))) da_nil)))) da_nil)))) (ds_cons (ds_set 12 nd (by rfl) (by first | exact Or.inl (by rfl) | exact Or.inr (by rfl)) (de_n (dn_lst (da_cons (de_var 11) da_nil)))) (ds_cons (ds_if (dt_cmp op_isNotD (de_var 9) de_non (nomark _)) (ds_cons (ds_set 13 nd (by rfl) (by first | exact Or.inl (by rfl) | exact Or.inr (by rfl)) (de_defL D__law_all_cuts hr (by decide) (by rfl) (by rfl) (da_cons (de_var 6) da_nil) (lenC lenN))) (ds_cons (ds_set 14 nd (by rfl) (by first | exact Or.inl (by rfl) | exact Or.inr (by rfl)) (de_defL D__law_pick hr (by decide) (by rfl) (by rfl) (da_cons (de_var 1) (da_cons (de_var 13) da_nil)) (lenC (lenC lenN)))) (ds_cons (ds_set 12 nd (by rfl) (by first | exact Or.inl (by rfl) | exact Or.inr (by rfl)) (de_n (dn_lst (da_cons (de_var 11) (da_cons (de_var 9) (da_cons (de_d (dd_dict (by rfl) (by rfl) T.dict (da_cons (de_n (dn_listEn (by rfl) (by rfl) T.list (by rfl) T.enumerate (da_cons (de_var 14) da_nil))) da_nil))) da_nil)))))) ds_nil))) ds_nil) (ds_cons (ds_for PassesOwn.never (by rfl) (di_of (de_var 12)) (fs1 7 (bg1 7 nd)) (ds_fg [8, 11, 12, 13, 14, 15, 16, 17, 10, 20, 21, 22, 19, 23, 18, 24] (ds_cons (ds_if (dt_not (dt_val (de_defL D__law_is_cut hr (by decide) (by rfl) (by rfl) (da_cons (de_var 6) (da_cons (de_var 7) da_nil)) (lenC (lenC lenN))))) (ds_cons (ds_if (dt_not (dt_val (de_caught ek ca E_parting_by.one T.isinstance (by rfl) (by rfl) (by rfl) (.inr rfl) ek.cut.mgx tb rfl hP hu hr (by decide) (LamX.lamS_by (sc := defScope (top 92)) (by decide +kernel)) (by rfl) (by intros; rfl) (by rfl) (lenC (lenC lenN)) (fun _ _ _ _ _ _ _ => (da_cons (de_var 25) (da_cons (de_var 7) da_nil)))))) (ds_cons (ds_ret de_bl) ds_nil) ds_nil) ds_nil) (ds_cons (ds_tup2 15 16 (bg2 15 16 (by rfl) nd) (sa_v (de_callB (cr_repr hg hr.u65) (by rfl) T.repr boot_repr (da_cons (de_var 7) da_nil)) (sa_o (dn_lst da_nil) sa_nil))) (ds_cons (ds_for PassesOwn.never (by rfl) (di_of (de_var 3)) (fs1 17 (bg1 17 nd)) (ds_cons (ds_app 16 (by rfl) (by first | exact Or.inl (by rfl) | exact Or.inr (Or.inl (by rfl)) | exact Or.inr (Or.inr (by rfl))) (de_d (dd_dict (by rfl) (by rfl) T.dict (da_cons (de_n (dn_lc (by rfl) nd (di_rng (by rfl) T.range (da_cons (de_callB cr_lenD (by rfl) T.len boot_len (da_cons (de_var 3) da_nil)) da_nil)) (blkOk_by (own := [(".0", 28), ("_law_row", 18)]) (by rfl)) (fun _ _ _ _ _ => (bg1 18 nd)) (tgr1 18) (by decide) (fun _ _ _ _ _ => dts_nil) (fun _ _ _ _ _ => (de_tup (da_cons (de_var 18) (da_cons (de_index hr.u65 (de_var 3) (de_defL D__law_plus hr (by decide) (by rfl) (by rfl) (da_cons (de_var 25) (da_cons (de_ix hr.u1 (de_var 3) (de_ix hr.u1 (de_var 7) (de_var 18))) (da_cons (de_var 17) da_nil))) (lenC (lenC (lenC lenN))))) da_nil)))))) da_nil)))) ds_nil)) (ds_cons (ds_lcO 10 (by rfl) nd (by rfl) (by rfl) (by rfl) (di_rng (by rfl) T.range (da_cons (de_callB cr_lenD (by rfl) T.len boot_len (da_cons (de_var 3) da_nil)) da_nil)) (blkOk_by (own := [(".0", 28), ("_law_spot", 30)]) (by rfl)) (fun _ _ _ _ _ => (bg1 30 nd)) (tgr1 30) (by decide) (fun _ _ _ _ _ => dts_nil) (fun _ _ _ _ _ => (de_ix hr.u1 (de_n (dn_lc (by rfl) nd (di_of (de_var 16)) (blkOk_by (own := [(".0", 28), ("_law_other", 19)]) (by rfl)) (fun _ _ _ _ _ => (bg1 19 nd)) (tgr1 19) (by decide) (fun _ _ _ _ _ => (dts_one (dt_cmp (op_eqDD hr.units) (de_ix hr.u1 (de_var 19) de_int) (de_var 30) (nomark _)))) (fun _ _ _ _ _ => (de_var 19)))) de_int))) (ds_cons (ds_set 20 nd (by rfl) (by first | exact Or.inl (by rfl) | exact Or.inr (by rfl)) (de_n (dn_lst (da_cons (de_defE E_parting_by.one hr (by decide) (by rfl) (da_cons (de_var 25) (da_cons (de_var 7) da_nil)) (lenC (lenC lenN))) (da_cons (de_defEK E_parting_by hr (by decide) (by rfl) (de_var 7) (de_var 25)) da_nil))))) (ds_cons (ds_if (PW.pt (dw_or (dt_cmp (op_neP hr.units) (de_var 20) (de_n (dn_lst (da_cons (de_var 10) (da_cons (de_var 10) da_nil)))) (nomark _)) (dw_or (dt_not (dt_val (de_defL D__law_is_parting hr (by decide) (by rfl) (by rfl) (da_cons (de_var 6) (da_cons (de_ix hr.u1 (de_var 20) de_int) da_nil)) (lenC (lenC lenN))))) (dw_or1 (dt_cmp op_isNotD (de_defL D_is_parting hr (by decide) (by rfl) (by rfl) (da_cons (de_var 6) (da_cons (de_ix hr.u1 (de_var 20) de_int) da_nil)) (lenC (lenC lenN))) de_bl (nomark _)))))) (ds_cons (ds_ret de_bl) ds_nil) ds_nil) (ds_cons (ds_set 21 nd (by rfl) (by first | exact Or.inl (by rfl) | exact Or.inr (by rfl)) (de_callTy cr_tupleD (by rfl) T.tuple boot_tuple (da_cons (de_n (dn_lc (by rfl) nd (di_of (de_var 6)) (blkOk_by (own := [(".0", 28), ("_law_row", 18)]) (by rfl)) (fun _ _ _ _ _ => (bg1 18 nd)) (tgr1 18) (by decide) (fun _ _ _ _ _ => dts_nil) (fun _ _ _ _ _ => (de_callTy cr_tupleD (by rfl) T.tuple boot_tuple (da_cons (de_n (dn_listEn (by rfl) (by rfl) T.list (by rfl) T.enumerate (da_cons (de_var 18) da_nil))) da_nil))))) da_nil))) (ds_cons (ds_set 22 nd (by rfl) (by first | exact Or.inl (by rfl) | exact Or.inr (by rfl)) (de_d (dd_dict (by rfl) (by rfl) T.dict (da_cons (de_n (dn_lc (by rfl) nd (di_of (de_var 7)) (blkOk_by (own := [(".0", 28), ("_law_row", 18)]) (by rfl)) (fun _ _ _ _ _ => (bg1 18 nd)) (tgr1 18) (by decide) (fun _ _ _ _ _ => dts_nil) (fun _ _ _ _ _ => (de_tup (da_cons (de_var 18) (da_cons (de_tup (da_cons (de_ix hr.u1 (de_var 7) (de_var 18)) (da_cons (de_ix hr.u1 (de_ix hr.u1 (de_var 6) (de_var 18)) (de_ix hr.u1 (de_var 7) (de_var 18))) da_nil))) da_nil)))))) da_nil)))) (ds_cons (ds_if (PW.pt (dw_or (dt_not (dt_val (de_defL D__law_is_pick hr (by decide) (by rfl) (by rfl) (da_cons (de_var 21) (da_cons (de_var 22) da_nil)) (lenC (lenC lenN))))) (dw_or1 (dt_cmp (op_neDD hr.units) (de_defL D_closing_by hr (by decide) (by rfl) (by rfl) (da_cons (de_var 25) (da_cons (de_var 4) (da_cons (de_var 22) da_nil))) (lenC (lenC (lenC lenN)))) (de_tupRg (by rfl) (by rfl) T.tuple (by rfl) T.range (de_callB cr_lenD (by rfl) T.len boot_len (da_cons (de_var 3) da_nil))) (nomark _))))) (ds_cons (ds_ret de_bl) ds_nil) ds_nil) (ds_cons (ds_par2 19 23 (by rfl) nd (by rfl) (by rfl) (by decide) (by rfl) (by rfl) (sa_v (de_defL D_mate hr (by decide) (by rfl) (by rfl) (da_cons (de_var 6) (da_cons (de_ix hr.u1 (de_var 20) de_int) da_nil)) (lenC (lenC lenN))) (sa_v (de_n (dn_lst da_nil)) sa_nil)) (by rfl)) (ds_cons (ds_for PassesOwn.never (by rfl) (di_zip (by rfl) T.zip (da_cons (de_var 6) (da_cons (de_var 19) da_nil))) (fs2 18 24 (bg2 18 24 (by rfl) nd)) (ds_cons (ds_set 23 nd (by rfl) (by first | exact Or.inl (by rfl) | exact Or.inr (by rfl)) (de_bin op_addD (de_var 23) (de_n (dn_listZip (by rfl) (by rfl) T.list (by rfl) T.zip (da_cons (de_var 18) (da_cons (de_var 24) da_nil)))))) ds_nil)) (ds_cons (ds_if (PW.pt (dw_or (dt_not (dt_val (de_defL D__law_is_table hr (by decide) (by rfl) (by rfl) (da_cons (de_var 19) da_nil) (lenC lenN)))) (dw_or (dt_cmp (op_neDD hr.units) (de_lenSet (by rfl) hr.units (by rfl) T.len (by rfl) T.set (de_var 23)) (de_bin op_mulD (de_callB cr_lenD (by rfl) T.len boot_len (da_cons (de_var 3) da_nil)) (de_callB cr_lenD (by rfl) T.len boot_len (da_cons (de_var 3) da_nil))) (nomark _)) (dw_or (dt_cmp op_isNotD (de_defL D_is_cut hr (by decide) (by rfl) (by rfl) (da_cons (de_var 6) (da_cons (de_var 7) da_nil)) (lenC (lenC lenN))) de_bl (nomark _)) (dw_or1 (dt_cmp op_neS (de_callB (cr_repr hg hr.u65) (by rfl) T.repr boot_repr (da_cons (de_var 7) da_nil)) (de_var 15) (nomark _))))))) (ds_cons (ds_ret de_bl) ds_nil) ds_nil) ds_nil)))))))))))) ds_nil))) (ds_cons (ds_tup2 27 26 (bg2 27 26 (by rfl) nd) (sa_v (de_defL D__law_bad_dials hr (by decide) (by rfl) (by rfl) (da_cons (de_var 1) da_nil) (lenC lenN)) (sa_v (de_defL D__law_near_cut hr (by decide) (by rfl) (by rfl) (da_cons (de_var 1) (da_cons (de_var 6) (da_cons (de_var 9) da_nil))) (lenC (lenC (lenC lenN)))) sa_nil))) (ds_cons (ds_if (dt_not (dt_val (de_caught ek ca E_parting_by.one T.isinstance (by rfl) (by rfl) (by rfl) (.inl rfl) ek.dials.mgx tb rfl hP hu hr (by decide) (LamX.lamS_by (sc := defScope (top 92)) (by decide +kernel)) (by rfl) (by intros; rfl) (by rfl) (lenC (lenC lenN)) (fun _ _ _ _ _ _ _ => (da_cons (de_var 27) (da_cons (de_var 26) da_nil)))))) (ds_cons (ds_ret de_bl) ds_nil) ds_nil) (ds_cons (ds_if (PW.pt (dw_and (dt_not (dt_val (de_defL D__law_is_cut hr (by decide) (by rfl) (by rfl) (da_cons (de_var 6) (da_cons (de_var 26) da_nil)) (lenC (lenC lenN))))) (dw_and1 (dt_not (dt_val (de_caught ek ca E_parting_by.one T.isinstance (by rfl) (by rfl) (by rfl) (.inr rfl) ek.cut.mgx tb rfl hP hu hr (by decide) (LamX.lamS_by (sc := defScope (top 92)) (by decide +kernel)) (by rfl) (by intros; rfl) (by rfl) (lenC (lenC lenN)) (fun _ _ _ _ _ _ _ => (da_cons (de_var 25) (da_cons (de_var 26) da_nil))))))))) (ds_cons (ds_ret de_bl) ds_nil) ds_nil) ds_nil))))))))))))))))
end
end Dv
end
section
set_option linter.all false
set_option maxRecDepth 100000
set_option maxHeartbeats 4000000
/-! U1: is it a cross-cut? The law's answer and the program's are one, for any dict of ints within the table. -/
namespace Dv
open PySem PySem.Spec PyProof.Rows L2 Evl
theorem ret_bind {α β : Type} (a : α) (g : α → M β) : (M.ret a >>= g) = g a := rfl
theorem ret_bind2 {α β : Type} (a : α) (g : α → M β) : M.bind (M.ret a) g = g a := rfl
theorem err_bind {α β : Type} (c : Nat) (g : α → M β) : (M.err c >>= g) = M.err c := rfl
theorem seq_det {g h : SEnv → M Ctl} {se se' : SEnv} (e : g se = .ret (.nx se')) : sSeq g h se = h se' := by
  unfold sSeq
  rw [e]
  rfl
theorem seq_rt {g h : SEnv → M Ctl} {se : SEnv} {d : D} (e : g se = .ret (.rt d)) : sSeq g h se = .ret (.rt d) := by
  unfold sSeq
  rw [e]
  rfl
theorem if_det {ft : EnvD → M Bool} {g h : SEnv → M Ctl} {se : SEnv} {b : Bool} (e : ft (lendO se) = .ret b) : sIf ft g h se = cond b (g se) (h se) := by
  unfold sIf
  rw [e]
  cases b <;> rfl
theorem run_rt {m : Nat} {g : SEnv → M Ctl} {ds : List D} {d : D} (e : g (ds.map Slot.v ++ List.replicate (m - ds.length) .no) = .ret (.rt d)) : runD m g ds = .ret d := by
  unfold runD
  rw [e]
  rfl
theorem btw (k lo hi : Int) : m_is_between [.int k, .int lo, .int hi] = .ret (.bl (decide (lo ≤ k) && decide (k ≤ hi))) := by
  have h : ∀ a, decide (lo ≤ k) = a → m_is_between [.int k, .int lo, .int hi] = .ret (.bl (a && decide (k ≤ hi))) := fun a ha => by
    refine run_rt (seq_rt ?_)
    have e : (eChain (gCmp fun i j => decide (i ≤ j)) (gCmp fun i j => decide (i ≤ j)) (eVar 1) (eVar 0) (eVar 2)) (lendO ([D.int k, .int lo, .int hi].map Slot.v ++ List.replicate (3 - [D.int k, .int lo, .int hi].length) .no)) = .ret (.bl (a && decide (k ≤ hi))) := by
      show (asB (.bl (decide (lo ≤ k))) >>= fun x => match x with
        | true => (M.ret (D.int hi) >>= fun z => gCmp (fun i j => decide (i ≤ j)) (.int k) z)
        | false => .ret (.bl false)) = _
      rw [ha]
      cases a <;> rfl
    have e2 : (eAnd (eUn (gIsi isInt) (eVar 0)) (eAnd (eNot (eUn (gIsi isBl) (eVar 0))) (eChain (gCmp fun i j => decide (i ≤ j)) (gCmp fun i j => decide (i ≤ j)) (eVar 1) (eVar 0) (eVar 2)))) (lendO ([D.int k, .int lo, .int hi].map Slot.v ++ List.replicate (3 - [D.int k, .int lo, .int hi].length) .no)) = .ret (.bl (a && decide (k ≤ hi))) := e
    unfold sRet
    rw [e2]
    rfl
  exact h _ rfl
theorem below (k hi : Int) : m__law_is_below [.int k, .int hi] = .ret (.bl (decide (0 ≤ k) && decide (k < hi))) := by
  have h : ∀ a, decide (0 ≤ k) = a → m__law_is_below [.int k, .int hi] = .ret (.bl (a && decide (k < hi))) := fun a ha => by
    refine run_rt (seq_rt ?_)
    have e : (eChain (gCmp fun i j => decide (i ≤ j)) (gCmp fun i j => decide (i < j)) (eC (.int 0)) (eVar 0) (eVar 1)) (lendO ([D.int k, .int hi].map Slot.v ++ List.replicate (2 - [D.int k, .int hi].length) .no)) = .ret (.bl (a && decide (k < hi))) := by
      show (asB (.bl (decide (0 ≤ k))) >>= fun x => match x with
        | true => (M.ret (D.int hi) >>= fun z => gCmp (fun i j => decide (i < j)) (.int k) z)
        | false => .ret (.bl false)) = _
      rw [ha]
      cases a <;> rfl
    have e2 : (eAnd (eCall m__law_is_whole (aCons (eVar 0) aNil)) (eChain (gCmp fun i j => decide (i ≤ j)) (gCmp fun i j => decide (i < j)) (eC (.int 0)) (eVar 0) (eVar 1))) (lendO ([D.int k, .int hi].map Slot.v ++ List.replicate (2 - [D.int k, .int hi].length) .no)) = .ret (.bl (a && decide (k < hi))) := e
    unfold sRet
    rw [e2]
    rfl
  exact h _ rfl
/-! ### comprehensions -/
theorem goLc_all {vs : List Nat} {i : Nat} {ft : EnvD → M Bool} {fe : EnvD → M D} {env : EnvD} {g : Int → D} : ∀ (p : List Int) (acc : List D), (∀ k ∈ p, ft ((wipeD env vs).set i (some (.int k))) = .ret true) → (∀ k ∈ p, fe ((wipeD env vs).set i (some (.int k))) = .ret (g k)) →
    goLc vs (tg1 i) ft fe env (p.map D.int) acc = .ret (acc ++ p.map g)
  | [], acc, _, _ => by simp [goLc]
  | k :: p, acc, h1, h2 => by
    show (ft ((wipeD env vs).set i (some (.int k))) >>= fun b => match b with
      | true => (fe ((wipeD env vs).set i (some (.int k))) >>= fun y => goLc vs (tg1 i) ft fe env (p.map D.int) (acc ++ [y]))
      | false => goLc vs (tg1 i) ft fe env (p.map D.int) acc) = _
    rw [h1 k List.mem_cons_self]
    show (fe ((wipeD env vs).set i (some (.int k))) >>= fun y => goLc vs (tg1 i) ft fe env (p.map D.int) (acc ++ [y])) = _
    rw [h2 k List.mem_cons_self]
    show goLc vs (tg1 i) ft fe env (p.map D.int) (acc ++ [g k]) = _
    rw [goLc_all p (acc ++ [g k]) (fun j hj => h1 j (List.mem_cons_of_mem _ hj)) fun j hj => h2 j (List.mem_cons_of_mem _ hj)]
    simp
theorem goLc_no {vs : List Nat} {i : Nat} {ft : EnvD → M Bool} {fe : EnvD → M D} {env : EnvD} : ∀ (p : List Int) (acc : List D), (∀ k ∈ p, ft ((wipeD env vs).set i (some (.int k))) = .ret false) → goLc vs (tg1 i) ft fe env (p.map D.int) acc = .ret acc
  | [], acc, _ => rfl
  | k :: p, acc, h1 => by
    show (ft ((wipeD env vs).set i (some (.int k))) >>= fun b => match b with
      | true => (fe ((wipeD env vs).set i (some (.int k))) >>= fun y => goLc vs (tg1 i) ft fe env (p.map D.int) (acc ++ [y]))
      | false => goLc vs (tg1 i) ft fe env (p.map D.int) acc) = _
    rw [h1 k List.mem_cons_self]
    exact goLc_no p acc fun j hj => h1 j (List.mem_cons_of_mem _ hj)
theorem chk_le {α : Type} {n : Nat} {m : M α} (h : n ≤ 100000) : chk n m = m := by
  unfold chk
  rw [Nat.ble_eq_true_of_le h]
theorem nLc_all {vs : List Nat} {fi : EnvD → M (List D)} {i : Nat} {fe : EnvD → M D} {env : EnvD} {g : Int → D} {p : List Int} (hl : p.length ≤ 100) (hi : fi env = .ret (p.map D.int)) (h2 : ∀ k ∈ p, fe ((wipeD env vs).set i (some (.int k))) = .ret (g k)) :
    nLc vs fi (tg1 i) bYes fe env = .ret (p.map g) := by
  unfold nLc
  rw [hi]
  show chk (p.map D.int).length (goLc vs (tg1 i) bYes fe env (p.map D.int) []) = _
  rw [chk_le (by rw [List.length_map]; omega), goLc_all p [] (fun _ _ => rfl) h2]
  rfl
theorem nLc_no {vs : List Nat} {fi : EnvD → M (List D)} {i : Nat} {ft : EnvD → M Bool} {fe : EnvD → M D} {env : EnvD} {p : List Int} (hl : p.length ≤ 100) (hi : fi env = .ret (p.map D.int)) (h2 : ∀ k ∈ p, ft ((wipeD env vs).set i (some (.int k))) = .ret false) :
    nLc vs fi (tg1 i) ft fe env = .ret [] := by
  unfold nLc
  rw [hi]
  show chk (p.map D.int).length (goLc vs (tg1 i) ft fe env (p.map D.int) []) = _
  rw [chk_le (by rw [List.length_map]; omega), goLc_no p [] h2]
/-! ### a table of ints -/
def tI (l : List Int) : D := .tup (l.map D.int)
def tT (l : List (List Int)) : D := .tup (l.map tI)
def kvF (p : List Int) (f : Int → Int) : List (Int × D) := p.map fun k => (k, D.int (f k))
def sgn (rows : List (List Int)) (k j : Int) : Int := (rows.getD k.toNat []).getD j.toNat 0
theorem look_kvF {f : Int → Int} : ∀ {p : List Int} {k : Int}, k ∈ p → lookD (kvF p f) k = some (.int (f k))
  | q :: p, k, h => by
    show (match iEq q k with | true => some (D.int (f q)) | false => lookD (kvF p f) k) = _
    by_cases e : q = k
    · rw [iEq_iff.mpr e, e]
    · rw [iEq_no.mpr e]
      rcases List.mem_cons.mp h with h | h
      · exact absurd h.symm e
      · exact look_kvF h
theorem ix_tab {rows : List (List Int)} {k : Int} (h0 : 0 ≤ k) (h1 : k < rows.length) : gIx (tT rows) (.int k) = .ret (tI (rows.getD k.toNat [])) := by
  obtain ⟨m, rfl⟩ := Int.eq_ofNat_of_zero_le h0
  have hm : m < rows.length := by omega
  show (match (rows.map tI)[m]? with | some d => M.ret d | none => .bad) = _
  rw [List.getElem?_map, List.getElem?_eq_getElem hm]
  show M.ret (tI rows[m]) = _
  rw [Int.toNat_natCast, List.getD_eq_getElem?_getD, List.getElem?_eq_getElem hm]
  rfl
theorem ix_row {r : List Int} {k : Int} (h0 : 0 ≤ k) (h1 : k < r.length) : gIx (tI r) (.int k) = .ret (.int (r.getD k.toNat 0)) := by
  obtain ⟨m, rfl⟩ := Int.eq_ofNat_of_zero_le h0
  have hm : m < r.length := by omega
  show (match (r.map D.int)[m]? with | some d => M.ret d | none => .bad) = _
  rw [List.getElem?_map, List.getElem?_eq_getElem hm]
  show M.ret (D.int r[m]) = _
  rw [Int.toNat_natCast, List.getD_eq_getElem?_getD, List.getElem?_eq_getElem hm]
  rfl
theorem ix_kvF {p : List Int} {f : Int → Int} {k : Int} (h : k ∈ p) : gIx (.dic (kvF p f)) (.int k) = .ret (.int (f k)) := by
  show (match lookD (kvF p f) k with | some d => M.ret d | none => .bad) = _
  rw [look_kvF h]
theorem allI_map : ∀ l : List Int, allI (l.map D.int) = some l
  | [] => rfl
  | i :: r => by
    show (match allI (r.map D.int) with | some ns => some (i :: ns) | none => none) = _
    rw [allI_map r]
theorem lenSet_int {l : List Int} (h : l.length ≤ 100) : gLenSet (.lst (l.map D.int)) = .ret (.int ((dedI [] l).length : Nat)) := by
  show (match allI (l.map D.int) with
    | some ns => gd (Nat.ble ns.length 900) (M.ret (D.int ((dedI [] ns).length : Nat)))
    | none => _) = _
  rw [allI_map]
  show gd (Nat.ble l.length 900) _ = _
  rw [Nat.ble_eq_true_of_le (by omega)]
  rfl
/-- all within the table -/
structure CutIn (rows : List (List Int)) (p : List Int) (f : Int → Int) : Prop where
  sq : ∀ r ∈ rows, r.length = rows.length
  pos : 0 < rows.length
  few : rows.length ≤ 50
  len : p.length = rows.length
  key : ∀ k ∈ p, 0 ≤ k ∧ k < rows.length
  val : ∀ k ∈ p, 0 ≤ f k ∧ f k < rows.length
def cutB (rows : List (List Int)) (p : List Int) (f : Int → Int) : Bool :=
  iEq ((dedI [] (p.map fun k => sgn rows k (f k))).length : Nat) (p.length : Nat) && iEq ((dedI [] (p.map f)).length : Nat) (p.length : Nat)
theorem iof_kvF (p : List Int) (f : Int → Int) {env : EnvD} {i : Nat} (h : env[i]? = some (some (.dic (kvF p f)))) : iOf (eVar i) env = .ret (p.map D.int) := by
  unfold iOf eVar
  rw [h]
  show M.ret ((kvF p f).map fun q => D.int q.1) = _
  unfold kvF
  rw [List.map_map]
  rfl
end Dv
end
section
set_option linter.all false
set_option maxRecDepth 100000
set_option maxHeartbeats 4000000
/-! U2: both functions at such a dict. -/
namespace Dv
open PySem PySem.Spec PyProof.Rows L2 Evl
variable {rows : List (List Int)} {p : List Int} {f : Int → Int}
theorem CutIn.row (C : CutIn rows p f) {k : Int} (h : k ∈ p) : (rows.getD k.toNat []).length = rows.length := by
  obtain ⟨h0, h1⟩ := C.key k h
  have hm : k.toNat < rows.length := by omega
  rw [List.getD_eq_getElem?_getD, List.getElem?_eq_getElem hm]
  exact C.sq _ (List.getElem_mem hm)
/-- what len(table), len(table[0]) tell -/
theorem len_tab : gLen [tT rows] = .ret (.int (rows.length : Nat)) := by
  show M.ret (D.int ((rows.map tI).length : Nat)) = _
  rw [List.length_map]
theorem len_row {r : List Int} : gLen [tI r] = .ret (.int (r.length : Nat)) := by
  show M.ret (D.int ((r.map D.int).length : Nat)) = _
  rw [List.length_map]
theorem CutIn.first (C : CutIn rows p f) : (gIx (tT rows) (.int 0) >>= fun x => gLen [x]) = .ret (.int (rows.length : Nat)) := by
  have h0 : (0 : Int) < rows.length := by have := C.pos; omega
  rw [ix_tab (Int.le_refl 0) h0, ret_bind, len_row]
  have hm : (0 : Int).toNat < rows.length := by have := C.pos; simpa using this
  rw [List.getD_eq_getElem?_getD, List.getElem?_eq_getElem hm]
  show M.ret (D.int (rows[(0 : Int).toNat].length : Nat)) = _
  rw [C.sq _ (List.getElem_mem hm)]
theorem len_kvF : gLen [.dic (kvF p f)] = .ret (.int (p.length : Nat)) := by
  show M.ret (D.int ((kvF p f).length : Nat)) = _
  unfold kvF
  rw [List.length_map]
theorem CutIn.sign (C : CutIn rows p f) {k : Int} (h : k ∈ p) : (gIx (tT rows) (.int k) >>= fun r => gIx (.dic (kvF p f)) (.int k) >>= fun c => gIx r c) = .ret (.int (sgn rows k (f k))) := by
  obtain ⟨h0, h1⟩ := C.key k h
  obtain ⟨v0, v1⟩ := C.val k h
  rw [ix_tab h0 h1, ret_bind, ix_kvF h, ret_bind]
  exact ix_row v0 (by rw [C.row h]; exact v1)
theorem ne_eq {a : Nat} : (gNe (.int a) (.int a)) = .ret (.bl false) := by
  show M.ret (D.bl (!iEq (a : Int) a)) = _
  rw [iEq_iff.mpr rfl]
  rfl
theorem eq_int {a b : Int} : (gEq (.int a) (.int b)) = .ret (.bl (iEq a b)) := rfl
/-! ### answers put together -/
section
variable {env : EnvD} {fa fb fc : EnvD → M D} {ta tb : EnvD → M Bool} {g : D → D → M D} {h : List D → M D} {a b c : D} {x y : Bool} {r : M D}
theorem t_call1 (e1 : fa env = .ret a) (e : h [a] = r) : eCall h (aCons fa aNil) env = r := by
  unfold eCall aCons
  rw [e1]
  exact e
theorem t_call2 (e1 : fa env = .ret a) (e2 : fb env = .ret b) (e : h [a, b] = r) : eCall h (aCons fa (aCons fb aNil)) env = r := by
  unfold eCall aCons
  rw [e1]
  show ((do let x ← fb env; let r ← aNil env; M.ret (x :: r)) >>= fun r => M.ret (a :: r)) >>= h = r
  rw [e2]
  exact e
theorem t_call3 (e1 : fa env = .ret a) (e2 : fb env = .ret b) (e3 : fc env = .ret c) (e : h [a, b, c] = r) : eCall h (aCons fa (aCons fb (aCons fc aNil))) env = r := by
  have q : aCons fb (aCons fc aNil) env = .ret [b, c] := by
    unfold aCons
    rw [e2]
    show ((do let x ← fc env; let r ← aNil env; M.ret (x :: r)) >>= fun r => M.ret (b :: r)) = _
    rw [e3]
    rfl
  unfold eCall
  rw [show aCons fa (aCons fb (aCons fc aNil)) env = .ret [a, b, c] from by
    show (fa env >>= fun x => aCons fb (aCons fc aNil) env >>= fun r => M.ret (x :: r)) = _
    rw [e1, q]
    rfl]
  exact e
theorem t_bin (e1 : fa env = .ret a) (e2 : fb env = .ret b) (e : g a b = r) : eBin g fa fb env = r := by
  unfold eBin
  rw [e1]
  show (fb env >>= fun y => g a y) = r
  rw [e2]
  exact e
theorem t_un {g : D → M D} (e1 : fa env = .ret a) (e : g a = r) : eUn g fa env = r := by
  unfold eUn
  rw [e1]
  exact e
theorem t_of (e1 : fa env = .ret (.bl x)) : bOf fa env = .ret x := by
  unfold bOf
  rw [e1]
  rfl
theorem t_not (e1 : ta env = .ret x) : bNot ta env = .ret (!x) := by
  unfold bNot
  rw [e1]
  rfl
theorem t_or (e1 : ta env = .ret x) (e2 : x = false → tb env = .ret y) : bOr ta tb env = .ret (x || y) := by
  unfold bOr
  rw [e1]
  cases x with
  | true => rfl
  | false => exact e2 rfl
theorem t_band (e1 : ta env = .ret x) (e2 : x = true → tb env = .ret y) : bAnd ta tb env = .ret (x && y) := by
  unfold bAnd
  rw [e1]
  cases x with
  | true => exact e2 rfl
  | false => rfl
theorem t_and (e1 : fa env = .ret (.bl x)) (e2 : x = true → fb env = .ret (.bl y)) : eAnd fa fb env = .ret (.bl (x && y)) := by
  unfold eAnd
  rw [e1]
  cases x with
  | true => exact e2 rfl
  | false => rfl
theorem t_n {f : EnvD → M (List D)} {l : List D} (e : f env = .ret l) : eN f env = .ret (.lst l) := by
  unfold eN
  rw [e]
  rfl
theorem t_set {i : Nat} {f : EnvD → M D} {se : SEnv} {d : D} (e : f (lendV se) = .ret d) : sSet i f se = .ret (.nx (se.set i (.v d))) := by
  unfold sSet
  rw [e]
  rfl
theorem t_ret {f : EnvD → M D} {se : SEnv} {d : D} (e : f (lendO se) = .ret d) : sRet f se = .ret (.rt d) := by
  unfold sRet
  rw [e]
  rfl
end
theorem allBl (l : List Int) : gAll [.lst (l.map fun _ => D.bl true)] = .ret (.bl true) := by
  have h : ∀ l : List Int, allB (l.map fun _ => D.bl true) = some (l.map fun _ => true) := fun l => by
    induction l with
    | nil => rfl
    | cons i r ih =>
      show (match allB (r.map fun _ => D.bl true) with | some ns => some (true :: ns) | none => none) = _
      rw [ih]
      rfl
  have h2 : ∀ l : List Int, bAll (l.map fun _ => true) = true := fun l => by
    induction l with
    | nil => rfl
    | cons i r ih => exact ih
  show (match allB (l.map fun _ => D.bl true) with | some bs => M.ret (D.bl (bAll bs)) | none => .bad) = _
  rw [h]
  show M.ret (D.bl (bAll (l.map fun _ => true))) = _
  rw [h2]
theorem CutIn.len0 (C : CutIn rows p f) {env : EnvD} (h : env[0]? = some (some (tT rows))) : eCall gLen (aCons (eBin gIx (eVar 0) (eC (.int 0))) aNil) env = .ret (.int (rows.length : Nat)) := by
  have h0 : (0 : Int) < rows.length := by have := C.pos; omega
  have hv : eVar 0 env = .ret (tT rows) := by
    unfold eVar
    rw [h]
  have hm : (0 : Int).toNat < rows.length := by have := C.pos; simpa using this
  refine t_call1 (t_bin hv (show eC (.int 0) env = .ret (.int 0) from rfl) (ix_tab (Int.le_refl 0) h0)) ?_
  rw [len_row, List.getD_eq_getElem?_getD, List.getElem?_eq_getElem hm]
  show M.ret (D.int (rows[(0 : Int).toNat].length : Nat)) = _
  rw [C.sq _ (List.getElem_mem hm)]
theorem vr {env : EnvD} {i : Nat} {d : D} (h : env[i]? = some (some d)) : eVar i env = .ret d := by
  unfold eVar
  rw [h]
theorem cuts_right_eq (C : CutIn rows p f) : m_cuts_right [tT rows, .dic (kvF p f)] = .ret (.bl (cutB rows p f)) := by
  have hp : p.length ≤ 100 := by have := C.few; have := C.len; omega
  refine run_rt ?_
  show sSeq _ _ [.v (tT rows), .v (.dic (kvF p f)), .no, .no, .no, .no] = _
  have T1 : bOr (bNot (bOf (eUn (gIsi isDic) (eVar 1)))) (bOf (eBin gNe (eCall gLen (aCons (eVar 1) aNil)) (eCall gLen (aCons (eBin gIx (eVar 0) (eC (.int 0))) aNil)))) (lendO [.v (tT rows), .v (.dic (kvF p f)), .no, .no, .no, .no]) = .ret false :=
    t_or (x := false) (y := false) (show _ = M.ret false from rfl) fun _ => t_of (t_bin (t_call1 (vr rfl) len_kvF) (C.len0 rfl) (by rw [C.len]; exact ne_eq))
  rw [seq_det (se' := [.v (tT rows), .v (.dic (kvF p f)), .no, .no, .no, .no]) ((if_det T1).trans rfl)]
  have between : ∀ (k hi : Int), 0 ≤ k → k < hi → m_is_between [.int k, .int 0, .int (hi - 1)] = .ret (.bl true) := fun k hi h0 h1 => by
    rw [btw, decide_eq_true h0, decide_eq_true (show k ≤ hi - 1 by omega)]
    rfl
  have T2 : (bNot (bOf (eCall gAll (aCons (eN (nLc [4, 5] (iOf (eVar 1)) (tg1 5) bYes (eAnd (eCall m_is_between (aCons (eVar 5) (aCons (eC (.int 0)) (aCons (eBin gSub (eCall gLen (aCons (eVar 0) aNil)) (eC (.int 1))) aNil)))) (eCall m_is_between (aCons (eBin gIx (eVar 1) (eVar 5)) (aCons (eC (.int 0)) (aCons (eBin gSub (eCall gLen (aCons (eBin gIx (eVar 0) (eC (.int 0))) aNil)) (eC (.int 1))) aNil))))))) aNil)))) (lendO [.v (tT rows), .v (.dic (kvF p f)), .no, .no, .no, .no]) = .ret false := by
    refine t_not (x := true) (t_of (t_call1 (t_n (nLc_all (g := fun _ => .bl true) hp (iof_kvF p f rfl) fun k hk => ?_)) (allBl p)))
    obtain ⟨h0, h1⟩ := C.key k hk
    obtain ⟨v0, v1⟩ := C.val k hk
    exact t_and (x := true) (y := true) (t_call3 (vr rfl) (show _ = M.ret (D.int 0) from rfl) (t_bin (t_call1 (vr rfl) len_tab) (show _ = M.ret (D.int 1) from rfl) rfl) (between _ _ h0 h1)) fun _ =>
      t_call3 (t_bin (vr rfl) (vr rfl) (ix_kvF hk)) (show _ = M.ret (D.int 0) from rfl) (t_bin (C.len0 rfl) (show _ = M.ret (D.int 1) from rfl) rfl) (between _ _ v0 v1)
  rw [seq_det (se' := [.v (tT rows), .v (.dic (kvF p f)), .no, .no, .no, .no]) ((if_det T2).trans rfl)]
  have T3 : eN (nLc [4, 5] (iOf (eVar 1)) (tg1 5) bYes (eBin gIx (eBin gIx (eVar 0) (eVar 5)) (eBin gIx (eVar 1) (eVar 5)))) (lendV [.v (tT rows), .v (.dic (kvF p f)), .no, .no, .no, .no]) = .ret (.lst ((p.map fun k => sgn rows k (f k)).map D.int)) := by
    rw [List.map_map]
    refine t_n (nLc_all (g := fun k => .int (sgn rows k (f k))) hp (iof_kvF p f rfl) fun k hk => ?_)
    obtain ⟨h0, h1⟩ := C.key k hk
    obtain ⟨v0, v1⟩ := C.val k hk
    exact t_bin (t_bin (vr rfl) (vr rfl) (ix_tab h0 h1)) (t_bin (vr rfl) (vr rfl) (ix_kvF hk)) (ix_row v0 (by rw [C.row hk]; exact v1))
  have T4 : eN (nLc [4, 5] (iOf (eVar 1)) (tg1 5) bYes (eBin gIx (eVar 1) (eVar 5))) (lendV [.v (tT rows), .v (.dic (kvF p f)), .no, .no, .no, .no]) = .ret (.lst ((p.map f).map D.int)) := by
    rw [List.map_map]
    exact t_n (nLc_all (g := fun k => .int (f k)) hp (iof_kvF p f rfl) fun k hk => t_bin (vr rfl) (vr rfl) (ix_kvF hk))
  rw [seq_det (se' := [.v (tT rows), .v (.dic (kvF p f)), .v (.lst ((p.map fun k => sgn rows k (f k)).map D.int)), .v (.lst ((p.map f).map D.int)), .no, .no]) (by
    unfold sPar pV
    rw [T3]
    show ((do let d ← eN _ _; let r ← pNil _; M.ret (Slot.v d :: r)) >>= fun r => M.ret (Slot.v _ :: r)) >>= _ = _
    rw [T4]
    rfl)]
  refine seq_rt (t_ret ?_)
  exact t_and (t_bin (t_un (vr rfl) (lenSet_int (by rw [List.length_map]; exact hp))) (t_call1 (vr rfl) len_kvF) eq_int) fun _ => t_bin (t_un (vr rfl) (lenSet_int (by rw [List.length_map]; exact hp))) (t_call1 (vr rfl) len_kvF) eq_int
theorem law_cut_eq (C : CutIn rows p f) : m__law_is_cut [tT rows, .dic (kvF p f)] = .ret (.bl (cutB rows p f)) := by
  have hp : p.length ≤ 100 := by have := C.few; have := C.len; omega
  refine run_rt ?_
  show sSeq _ _ [.v (tT rows), .v (.dic (kvF p f)), .no, .no, .no] = _
  have inside : ∀ (k hi : Int), 0 ≤ k → k < hi → m__law_is_below [.int k, .int hi] = .ret (.bl true) := fun k hi h0 h1 => by
    rw [below, decide_eq_true h0, decide_eq_true h1]
    rfl
  have nil_ne : gNe (.lst []) (.lst []) = .ret (.bl false) := rfl
  have T1 : (bOr (bNot (bOf (eUn (gIsi isDic) (eVar 1)))) (bOr (bOf (eBin gNe (eCall gLen (aCons (eVar 1) aNil)) (eCall gLen (aCons (eBin gIx (eVar 0) (eC (.int 0))) aNil)))) (bOf (eBin gNe (eN (nLc [3, 4] (iOf (eVar 1)) (tg1 4) (bNot (bOf (eCall m__law_is_below (aCons (eVar 4) (aCons (eCall gLen (aCons (eVar 0) aNil)) aNil))))) (eC (.int 1)))) (eN (nLst aNil)))))) (lendO [.v (tT rows), .v (.dic (kvF p f)), .no, .no, .no]) = .ret false := by
    refine t_or (x := false) (y := false) (show _ = M.ret false from rfl) fun _ => t_or (x := false) (y := false) (t_of (t_bin (t_call1 (vr rfl) len_kvF) (C.len0 rfl) (by rw [C.len]; exact ne_eq))) fun _ => ?_
    refine t_of (t_bin (t_n (nLc_no hp (iof_kvF p f rfl) fun k hk => ?_)) (show _ = M.ret (D.lst []) from rfl) nil_ne)
    obtain ⟨h0, h1⟩ := C.key k hk
    exact t_not (x := true) (t_of (t_call2 (vr rfl) (t_call1 (vr rfl) len_tab) (inside _ _ h0 h1)))
  rw [seq_det (se' := [.v (tT rows), .v (.dic (kvF p f)), .no, .no, .no]) ((if_det T1).trans rfl)]
  have T2 : (bOf (eBin gNe (eN (nLc [3, 4] (iOf (eVar 1)) (tg1 4) (bNot (bOf (eCall m__law_is_below (aCons (eBin gIx (eVar 1) (eVar 4)) (aCons (eCall gLen (aCons (eBin gIx (eVar 0) (eC (.int 0))) aNil)) aNil))))) (eC (.int 1)))) (eN (nLst aNil)))) (lendO [.v (tT rows), .v (.dic (kvF p f)), .no, .no, .no]) = .ret false := by
    refine t_of (t_bin (t_n (nLc_no hp (iof_kvF p f rfl) fun k hk => ?_)) (show _ = M.ret (D.lst []) from rfl) nil_ne)
    obtain ⟨v0, v1⟩ := C.val k hk
    exact t_not (x := true) (t_of (t_call2 (t_bin (vr rfl) (vr rfl) (ix_kvF hk)) (C.len0 rfl) (inside _ _ v0 v1)))
  rw [seq_det (se' := [.v (tT rows), .v (.dic (kvF p f)), .no, .no, .no]) ((if_det T2).trans rfl)]
  have T3 : eN (nLc [3, 4] (iOf (eVar 1)) (tg1 4) bYes (eBin gIx (eBin gIx (eVar 0) (eVar 4)) (eBin gIx (eVar 1) (eVar 4)))) (lendV [.v (tT rows), .v (.dic (kvF p f)), .no, .no, .no]) = .ret (.lst ((p.map fun k => sgn rows k (f k)).map D.int)) := by
    rw [List.map_map]
    refine t_n (nLc_all (g := fun k => .int (sgn rows k (f k))) hp (iof_kvF p f rfl) fun k hk => ?_)
    obtain ⟨h0, h1⟩ := C.key k hk
    obtain ⟨v0, v1⟩ := C.val k hk
    exact t_bin (t_bin (vr rfl) (vr rfl) (ix_tab h0 h1)) (t_bin (vr rfl) (vr rfl) (ix_kvF hk)) (ix_row v0 (by rw [C.row hk]; exact v1))
  rw [seq_det (t_set T3)]
  refine seq_rt (t_ret ?_)
  have vals : eN (nVals (eVar 1)) (lendO ([Slot.v (tT rows), .v (.dic (kvF p f)), .no, .no, .no].set 2 (.v (.lst ((p.map fun k => sgn rows k (f k)).map D.int))))) = .ret (.lst ((p.map f).map D.int)) := by
    refine t_n ?_
    unfold nVals
    rw [vr (d := .dic (kvF p f)) rfl]
    show (gd (Nat.ble (kvF p f).length 1000) (M.ret (kvF p f)) >>= fun ks => M.ret (ks.map (·.2))) = _
    rw [Nat.ble_eq_true_of_le (by unfold kvF; rw [List.length_map]; omega)]
    show M.ret ((kvF p f).map (·.2)) = _
    unfold kvF
    rw [List.map_map, List.map_map]
    rfl
  exact t_and (t_bin (t_un (vr rfl) (lenSet_int (by rw [List.length_map]; exact hp))) (t_call1 (vr rfl) len_kvF) eq_int) fun _ => t_bin (t_un vals (lenSet_int (by rw [List.length_map]; exact hp))) (t_call1 (vr rfl) len_kvF) eq_int
end Dv
end
section
set_option linter.all false
set_option maxRecDepth 100000
set_option maxHeartbeats 4000000
/-! V0: the turn in pieces. Printed by gen_v.py. -/
namespace Dv
open PySem PySem.Spec PyProof.Rows L2 Evl Kept
def tn1 : SEnv → M Ctl := sSet 25 (eCall m__law_dials (aCons (eVar 1) (aCons (eC (.int 6)) aNil)))
def tn2 : SEnv → M Ctl := sSet 3 (eCall m__law_places (aCons (eVar 25) aNil))
def tn3 : SEnv → M Ctl := sPar [4, 5] (pV (eCall gTuple (aCons (eVar 3) aNil)) (pV (eCall m__law_nothing (aCons (eVar 25) aNil)) pNil))
def tn4 : SEnv → M Ctl := sSet 6 (eCall m_moves_table (aCons (eVar 25) (aCons (eVar 4) aNil)))
def tn5 : SEnv → M Ctl := sIf (bOr (bOf (eBin gNe (eCall m_places (aCons (eVar 25) aNil)) (eVar 3))) (bOf (eBin gNe (eVar 6) (eCall gTuple (aCons (eN (nLc [28, 7] (iOf (eVar 3)) (tg1 7) bYes (eCall gTuple (aCons (eN (nLc [28, 29] (iOf (eCall m__law_move_plan (aCons (eVar 25) (aCons (eVar 7) aNil)))) (tg1 29) bYes (eBin gIx (eVar 29) (eC (.int 1))))) aNil)))) aNil))))) (sSeq (sRet (eC (.bl false))) sNil) sNil
def tn6 : SEnv → M Ctl := sSet 8 (eN (nLc [28, 7] (iOf (eVar 3)) (tg1 7) (bAnd (bOf (eBin gNe (eVar 7) (eVar 5))) (bOf (eBin gEq (eCall m__law_plus (aCons (eVar 25) (aCons (eVar 7) (aCons (eVar 7) aNil)))) (eVar 5)))) (eVar 7)))
def tn7 : SEnv → M Ctl := sPar [9, 10] (pV (eCall m_cut (aCons (eVar 6) aNil)) (pV (eBin gNe (eCall gLen (aCons (eVar 8) aNil)) (eC (.int 1))) pNil))
def tn8 : SEnv → M Ctl := sIf (bOr (bOf (eBin gNe (eBin gIsNot (eVar 9) (eC .non)) (eVar 10))) (bOf (eBin gNe (eBin gEq (eCall m_total_of (aCons (eVar 25) (aCons (eVar 4) aNil))) (eVar 5)) (eVar 10)))) (sSeq (sRet (eC (.bl false))) sNil) sNil
def tn9 : SEnv → M Ctl := sIf (bOf (eBin gNe (eBin gIs (eCall m_is_closing (aCons (eVar 25) (aCons (eVar 4) (aCons (eRngT (eCall gLen (aCons (eVar 3) aNil))) aNil)))) (eC (.bl true))) (eVar 10))) (sSeq (sRet (eC (.bl false))) sNil) sNil
def tn10 : SEnv → M Ctl := sSet 11 (eD (nDict (aCons (eN (nZipL (aCons (eN (nRng (eCall gLen (aCons (eVar 3) aNil)))) (aCons (eCall m__law_mixed (aCons (eVar 1) (aCons (eN (nRng (eCall gLen (aCons (eVar 3) aNil)))) aNil))) aNil)))) aNil)))
def tn11 : SEnv → M Ctl := sSet 12 (eN (nLst (aCons (eVar 11) aNil)))
def tn12 : SEnv → M Ctl := sIf (bOf (eBin gIsNot (eVar 9) (eC .non))) (sSeq (sSet 13 (eCall m__law_all_cuts (aCons (eVar 6) aNil))) (sSeq (sSet 14 (eCall m__law_pick (aCons (eVar 1) (aCons (eVar 13) aNil)))) (sSeq (sSet 12 (eN (nLst (aCons (eVar 11) (aCons (eVar 9) (aCons (eD (nDict (aCons (eN (nEnumL (aCons (eVar 14) aNil))) aNil))) aNil)))))) sNil))) sNil
def tn13 : SEnv → M Ctl := sFor (iOf (eVar 12)) (.one 7) m_inner
def tn14 : SEnv → M Ctl := sPar [27, 26] (pV (eCall m__law_bad_dials (aCons (eVar 1) aNil)) (pV (eCall m__law_near_cut (aCons (eVar 1) (aCons (eVar 6) (aCons (eVar 9) aNil)))) pNil))
def tn15 : SEnv → M Ctl := sIf (bNot (bOf (eCaught 1 m_parting_byE (aCons (eVar 27) (aCons (eVar 26) aNil))))) (sSeq (sRet (eC (.bl false))) sNil) sNil
def tn16 : SEnv → M Ctl := sIf (bAnd (bNot (bOf (eCall m__law_is_cut (aCons (eVar 6) (aCons (eVar 26) aNil))))) (bNot (bOf (eCaught 2 m_parting_byE (aCons (eVar 25) (aCons (eVar 26) aNil)))))) (sSeq (sRet (eC (.bl false))) sNil) sNil
theorem turn_is : m_turn = sFg [0, 2, 3, 4, 5, 6, 7, 8, 9, 10, 11, 12, 13, 14, 15, 16, 17, 18, 19, 20, 21, 22, 23, 24, 25, 26, 27, 28, 29, 30] (sSeq tn1 (sSeq tn2 (sSeq tn3 (sSeq tn4 (sSeq tn5 (sSeq tn6 (sSeq tn7 (sSeq tn8 (sSeq tn9 (sSeq tn10 (sSeq tn11 (sSeq tn12 (sSeq tn13 (sSeq tn14 (sSeq tn15 (sSeq tn16 sNil)))))))))))))))) := rfl
def in1 : SEnv → M Ctl := sIf (bNot (bOf (eCall m__law_is_cut (aCons (eVar 6) (aCons (eVar 7) aNil))))) (sSeq (sIf (bNot (bOf (eCaught 2 m_parting_byE (aCons (eVar 25) (aCons (eVar 7) aNil))))) (sSeq (sRet (eC (.bl false))) sNil) sNil) sNil) (sSeq (sPar [15, 16] (pV (eCall gRepr (aCons (eVar 7) aNil)) (pO (nLst aNil) pNil))) (sSeq (sFor (iOf (eVar 3)) (.one 17) (sSeq (sApp 16 (eD (nDict (aCons (eN (nLc [28, 18] (iRng1D (aCons (eCall gLen (aCons (eVar 3) aNil)) aNil)) (tg1 18) bYes (eTup (aCons (eVar 18) (aCons (eIndex (eVar 3) (eCall m__law_plus (aCons (eVar 25) (aCons (eBin gIx (eVar 3) (eBin gIx (eVar 7) (eVar 18))) (aCons (eVar 17) aNil))))) aNil))))) aNil)))) sNil)) (sSeq (sNewO 10 (nLc [28, 30] (iRng1D (aCons (eCall gLen (aCons (eVar 3) aNil)) aNil)) (tg1 30) bYes (eBin gIx (eN (nLc [28, 19] (iOf (eVar 16)) (tg1 19) (bOf (eBin gEq (eBin gIx (eVar 19) (eC (.int 0))) (eVar 30))) (eVar 19))) (eC (.int 0))))) (sSeq (sSet 20 (eN (nLst (aCons (eCall (fun ds => noErr (m_parting_byE ds)) (aCons (eVar 25) (aCons (eVar 7) aNil))) (aCons (eCall (kwF m_parting_byE) (aCons (eVar 7) (aCons (eVar 25) aNil))) aNil))))) (sSeq (sIf (bOr (bOf (eBin gNeP (eVar 20) (eN (nLst (aCons (eVar 10) (aCons (eVar 10) aNil)))))) (bOr (bNot (bOf (eCall m__law_is_parting (aCons (eVar 6) (aCons (eBin gIx (eVar 20) (eC (.int 0))) aNil))))) (bOf (eBin gIsNot (eCall m_is_parting (aCons (eVar 6) (aCons (eBin gIx (eVar 20) (eC (.int 0))) aNil))) (eC (.bl true)))))) (sSeq (sRet (eC (.bl false))) sNil) sNil) (sSeq (sSet 21 (eCall gTuple (aCons (eN (nLc [28, 18] (iOf (eVar 6)) (tg1 18) bYes (eCall gTuple (aCons (eN (nEnumL (aCons (eVar 18) aNil))) aNil)))) aNil))) (sSeq (sSet 22 (eD (nDict (aCons (eN (nLc [28, 18] (iOf (eVar 7)) (tg1 18) bYes (eTup (aCons (eVar 18) (aCons (eTup (aCons (eBin gIx (eVar 7) (eVar 18)) (aCons (eBin gIx (eBin gIx (eVar 6) (eVar 18)) (eBin gIx (eVar 7) (eVar 18))) aNil))) aNil))))) aNil)))) (sSeq (sIf (bOr (bNot (bOf (eCall m__law_is_pick (aCons (eVar 21) (aCons (eVar 22) aNil))))) (bOf (eBin gNe (eCall m_closing_by (aCons (eVar 25) (aCons (eVar 4) (aCons (eVar 22) aNil)))) (eRngT (eCall gLen (aCons (eVar 3) aNil)))))) (sSeq (sRet (eC (.bl false))) sNil) sNil) (sSeq (sPar [19, 23] (pV (eCall m_mate (aCons (eVar 6) (aCons (eBin gIx (eVar 20) (eC (.int 0))) aNil))) (pV (eN (nLst aNil)) pNil))) (sSeq (sFor (iZipD (aCons (eVar 6) (aCons (eVar 19) aNil))) (.two 18 24) (sSeq (sSet 23 (eBin gAdd (eVar 23) (eN (nZipL (aCons (eVar 18) (aCons (eVar 24) aNil)))))) sNil)) (sSeq (sIf (bOr (bNot (bOf (eCall m__law_is_table (aCons (eVar 19) aNil)))) (bOr (bOf (eBin gNe (eLenSet (eVar 23)) (eBin gMul (eCall gLen (aCons (eVar 3) aNil)) (eCall gLen (aCons (eVar 3) aNil))))) (bOr (bOf (eBin gIsNot (eCall m_is_cut (aCons (eVar 6) (aCons (eVar 7) aNil))) (eC (.bl true)))) (bOf (eBin gNeS (eCall gRepr (aCons (eVar 7) aNil)) (eVar 15)))))) (sSeq (sRet (eC (.bl false))) sNil) sNil) sNil)))))))))))
theorem inner_is : m_inner = sFg [8, 11, 12, 13, 14, 15, 16, 17, 10, 20, 21, 22, 19, 23, 18, 24] (sSeq in1 sNil) := rfl
end Dv
end
section
set_option linter.all false
set_option maxRecDepth 100000
set_option maxHeartbeats 4000000
/-! V1: the eight dials, and what the turn's slots hold. Printed by gen_d.py. -/
namespace Dv
open PySem PySem.Spec PyProof.Rows L2 Evl Kept
def lT (l : List (List Int)) : D := .lst (l.map tI)
structure Dial where
  dl : List Int
  menu : List (List Int)
  none : List Int
  rows : List (List Int)
  /-- the cross-cut that the program finds -/
  found : Option (List Int)
  cuts : List (List Int)
def dz0 : Dial := ⟨[2], [[0], [1]], [0], [[0, 1], [1, 0]], none, []⟩
def dz1 : Dial := ⟨[3], [[0], [1], [2]], [0], [[0, 1, 2], [1, 2, 0], [2, 0, 1]], some [0, 1, 2], [[0, 1, 2], [1, 2, 0], [2, 0, 1]]⟩
def dz2 : Dial := ⟨[4], [[0], [1], [2], [3]], [0], [[0, 1, 2, 3], [1, 2, 3, 0], [2, 3, 0, 1], [3, 0, 1, 2]], none, []⟩
def dz3 : Dial := ⟨[2, 2], [[0, 0], [0, 1], [1, 0], [1, 1]], [0, 0], [[0, 1, 2, 3], [1, 0, 3, 2], [2, 3, 0, 1], [3, 2, 1, 0]], some [0, 2, 3, 1], [[0, 2, 3, 1], [0, 3, 1, 2], [1, 2, 0, 3], [1, 3, 2, 0], [2, 0, 1, 3], [2, 1, 3, 0], [3, 0, 2, 1], [3, 1, 0, 2]]⟩
def dz4 : Dial := ⟨[5], [[0], [1], [2], [3], [4]], [0], [[0, 1, 2, 3, 4], [1, 2, 3, 4, 0], [2, 3, 4, 0, 1], [3, 4, 0, 1, 2], [4, 0, 1, 2, 3]], some [0, 1, 2, 3, 4], [[0, 1, 2, 3, 4], [0, 2, 4, 1, 3], [0, 3, 1, 4, 2], [1, 2, 3, 4, 0], [1, 3, 0, 2, 4], [1, 4, 2, 0, 3], [2, 0, 3, 1, 4], [2, 3, 4, 0, 1], [2, 4, 1, 3, 0], [3, 0, 2, 4, 1], [3, 1, 4, 2, 0], [3, 4, 0, 1, 2], [4, 0, 1, 2, 3], [4, 1, 3, 0, 2], [4, 2, 0, 3, 1]]⟩
def dz5 : Dial := ⟨[6], [[0], [1], [2], [3], [4], [5]], [0], [[0, 1, 2, 3, 4, 5], [1, 2, 3, 4, 5, 0], [2, 3, 4, 5, 0, 1], [3, 4, 5, 0, 1, 2], [4, 5, 0, 1, 2, 3], [5, 0, 1, 2, 3, 4]], none, []⟩
def dz6 : Dial := ⟨[2, 3], [[0, 0], [0, 1], [0, 2], [1, 0], [1, 1], [1, 2]], [0, 0], [[0, 1, 2, 3, 4, 5], [1, 2, 0, 4, 5, 3], [2, 0, 1, 5, 3, 4], [3, 4, 5, 0, 1, 2], [4, 5, 3, 1, 2, 0], [5, 3, 4, 2, 0, 1]], none, []⟩
def dz7 : Dial := ⟨[3, 2], [[0, 0], [0, 1], [1, 0], [1, 1], [2, 0], [2, 1]], [0, 0], [[0, 1, 2, 3, 4, 5], [1, 0, 3, 2, 5, 4], [2, 3, 4, 5, 0, 1], [3, 2, 5, 4, 1, 0], [4, 5, 0, 1, 2, 3], [5, 4, 1, 0, 3, 2]], none, []⟩
def dials8 : List Dial := [dz0, dz1, dz2, dz3, dz4, dz5, dz6, dz7]
def dicI (l : List Int) : D := .dic (l.zipIdx.map fun p => ((p.2 : Int), .int p.1))
def Dial.fd (x : Dial) : D := match x.found with | some l => dicI l | none => .non
def Dial.due (x : Dial) : Bool := match x.found with | some _ => true | none => false
def se0 : SEnv := (List.replicate 31 Slot.no).set 1 (.v .st)
def Dial.e1 (x : Dial) : SEnv := se0.set 25 (.v (tI x.dl))
def Dial.e2 (x : Dial) : SEnv := x.e1.set 3 (.v (lT x.menu))
def Dial.e3 (x : Dial) : SEnv := (x.e2.set 4 (.v (tT x.menu))).set 5 (.v (tI x.none))
def Dial.e4 (x : Dial) : SEnv := x.e3.set 6 (.v (tT x.rows))
def plusM : List Int → List Int → List Int → List Int
  | d :: ds, a :: as, b :: bs => (a + b) % d :: plusM ds as bs
  | _, _, _ => []
def Dial.halves (x : Dial) : List (List Int) := x.menu.filter fun a => a != x.none && plusM x.dl a a == x.none
def Dial.e6 (x : Dial) : SEnv := x.e4.set 8 (.v (lT x.halves))
def Dial.e7 (x : Dial) : SEnv := (x.e6.set 9 (.v x.fd)).set 10 (.v (.bl x.due))
def outM {α : Type} (p : α → Bool) : Nat → M α → Bool
  | _, .ret a => p a
  | k + 1, .ask j f => Nat.ble 1 j && (Nat.ble j 1000 && (List.range j).all fun i => outM p k (f i))
  | _, _ => false
theorem outM_wp {α : Type} {p : α → Bool} {Q : Nat → α → Prop} : ∀ {k : Nat} {m : M α} {n : Nat}, outM p k m = true → k ≤ n → (∀ n' a, n ≤ n' + k → n' ≤ n → p a = true → Q n' a) → m.wp n Q
  | k, .ret a, n, h, hk, q => q n a (by omega) (Nat.le_refl n) (by cases k <;> exact h)
  | k + 1, .ask j f, n, h, hk, q => by
    have h : (Nat.ble 1 j && (Nat.ble j 1000 && (List.range j).all fun i => outM p k (f i))) = true := h
    rw [Bool.and_eq_true, Bool.and_eq_true, List.all_eq_true] at h
    refine ⟨Nat.le_of_ble_eq_true h.1, Nat.le_of_ble_eq_true h.2.1, by omega, fun i hi => ?_⟩
    refine outM_wp (h.2.2 i (List.mem_range.mpr hi)) (by omega) fun n' a h1 h2 h3 => q n' a (by omega) (by omega) h3
  | 0, .ask j f, n, h, hk, q => by cases h
  | k, .err c, n, h, hk, q => by cases k <;> cases h
  | k, .bad, n, h, hk, q => by cases k <;> cases h
end Dv
end
section
set_option linter.all false
set_option maxRecDepth 100000
set_option maxHeartbeats 4000000
/-! V6: what a drawn order is; a dict of two orders. -/
namespace Dv
open PySem PySem.Spec PyProof.Rows L2 Evl Kept
def R_ (n : Nat) : List Int := (List.range n).map fun i => ((i : Nat) : Int)
def nodB : List Int → Bool
  | [] => true
  | i :: r => !hasI r i && nodB r
/-- an order of the numbers below n -/
def ordB (n : Nat) (l : List Int) : Bool := Nat.beq l.length n && (nodB l && l.all fun i => decide (0 ≤ i) && decide (i < n))
def lookI : List Int → List Int → Int → Int
  | a :: p, b :: q, k => if a = k then b else lookI p q k
  | _, _, _ => 0
def okL (x : Dial) (l : List Int) : Bool := ordB x.rows.length l && (!cutB x.rows (R_ x.rows.length) (lookI (R_ x.rows.length) l) || x.cuts.contains l)
def okLD (x : Dial) (d : D) : Bool := match d with
  | .lst ds => match allI ds with
    | some l => okL x l
    | none => false
  | _ => false
theorem okLD_of {x : Dial} {d : D} (h : okLD x d = true) : ∃ l, d = .lst (l.map D.int) ∧ okL x l = true := by
  unfold okLD at h
  split at h
  · split at h
    · rename_i ds l e
      exact ⟨l, by rw [allI_eq e], h⟩
    · cases h
  · cases h
structure Ord (n : Nat) (l : List Int) : Prop where
  len : l.length = n
  nod : nodB l = true
  in_ : ∀ i ∈ l, 0 ≤ i ∧ i < n
theorem ord_of {n : Nat} {l : List Int} (h : ordB n l = true) : Ord n l := by
  unfold ordB at h
  rw [Bool.and_eq_true, Bool.and_eq_true, List.all_eq_true] at h
  refine ⟨Nat.eq_of_beq_eq_true h.1, h.2.1, fun i hi => ?_⟩
  have := h.2.2 i hi
  rw [Bool.and_eq_true, decide_eq_true_eq, decide_eq_true_eq] at this
  exact this
def mxE (x : Dial) : M D := m__law_mixed [.st, .lst ((R_ x.rows.length).map D.int)]
/-! ### dict(list(zip(p, q))) -/
def zipP (p q : List Int) : List (Int × D) := (List.zip p q).map fun r => (r.1, D.int r.2)
theorem prD_zip : ∀ p q : List Int, prD (zipD (p.map D.int) (q.map D.int)) = some (zipP p q)
  | [], q => rfl
  | _ :: _, [] => rfl
  | a :: p, b :: q => by
    have := prD_zip p q
    show (match some (a, D.int b), prD (zipD (p.map D.int) (q.map D.int)) with | some p, some ps => some (p :: ps) | _, _ => none) = _
    rw [this]
    rfl
theorem hasD_no {k : Int} : ∀ {p q : List Int}, hasI p k = false → hasD (zipP p q) k = false
  | [], _, _ => rfl
  | _ :: _, [], _ => rfl
  | a :: p, b :: q, h => by
    have h : (iEq a k || hasI p k) = false := h
    rw [Bool.or_eq_false_iff] at h
    show (iEq a k || hasD (zipP p q) k) = false
    rw [h.1, hasD_no h.2]
    rfl
theorem hasD_app {k : Int} : ∀ {a b : List (Int × D)}, hasD (a ++ b) k = (hasD a k || hasD b k)
  | [], b => rfl
  | (i, d) :: a, b => by
    show (iEq i k || hasD (a ++ b) k) = ((iEq i k || hasD a k) || hasD b k)
    rw [hasD_app, Bool.or_assoc]
theorem merge_zip : ∀ {p q : List Int} {acc : List (Int × D)}, nodB p = true → (∀ k ∈ p, hasD acc k = false) → mergeD acc (zipP p q) = acc ++ zipP p q
  | [], q, acc, _, _ => by simp [zipP, mergeD]
  | a :: p, [], acc, _, _ => by simp [zipP, mergeD]
  | a :: p, b :: q, acc, hn, h => by
    have hn : (!hasI p a && nodB p) = true := hn
    rw [Bool.and_eq_true, Bool.not_eq_true'] at hn
    show mergeD (putD acc a (.int b)) (zipP p q) = acc ++ (a, .int b) :: zipP p q
    have e : putD acc a (.int b) = acc ++ [(a, D.int b)] := by
      unfold putD
      rw [h a List.mem_cons_self]
    rw [e, merge_zip hn.2 fun k hk => ?_]
    · simp
    · rw [hasD_app, h k (List.mem_cons_of_mem _ hk)]
      show (false || (iEq a k || false)) = false
      rw [Bool.false_or, Bool.or_false, iEq_no]
      intro e
      subst e
      have := hn.1
      rw [hasI_eq, decide_eq_false_iff_not] at this
      exact this hk
theorem zip_kvF : ∀ {p q : List Int}, p.length = q.length → nodB p = true → zipP p q = kvF p (lookI p q)
  | [], [], _, _ => rfl
  | a :: p, b :: q, hl, hn => by
    have hn : (!hasI p a && nodB p) = true := hn
    rw [Bool.and_eq_true, Bool.not_eq_true', hasI_eq, decide_eq_false_iff_not] at hn
    have ih := zip_kvF (p := p) (q := q) (by simpa using hl) hn.2
    show (a, D.int b) :: zipP p q = (a, D.int (lookI (a :: p) (b :: q) a)) :: p.map fun k => (k, D.int (lookI (a :: p) (b :: q) k))
    have e1 : lookI (a :: p) (b :: q) a = b := if_pos rfl
    rw [e1, ih]
    congr 1
    unfold kvF
    refine List.map_congr_left fun k hk => ?_
    have e2 : lookI (a :: p) (b :: q) k = lookI p q k := if_neg fun e => hn.1 (by rw [e]; exact hk)
    rw [e2]
theorem look_in {n : Nat} : ∀ {p q : List Int} {k : Int}, k ∈ p → p.length = q.length → (∀ i ∈ q, 0 ≤ i ∧ i < (n : Int)) → 0 ≤ lookI p q k ∧ lookI p q k < (n : Int)
  | a :: p, b :: q, k, hk, hl, h => by
    show 0 ≤ (if a = k then b else lookI p q k) ∧ (if a = k then b else lookI p q k) < (n : Int)
    split
    · exact h b List.mem_cons_self
    · rename_i ne
      rcases List.mem_cons.mp hk with e | hk
      · exact absurd e.symm ne
      · exact look_in hk (by simpa using hl) fun i hi => h i (List.mem_cons_of_mem _ hi)
theorem gDict_zip {p q : List Int} (hn : nodB p = true) (hl : p.length = q.length) : gDict [.lst (zipD (p.map D.int) (q.map D.int))] = .ret (kvF p (lookI p q)) := by
  show (match prD (zipD (p.map D.int) (q.map D.int)) with | some ps => M.ret (mergeD [] ps) | none => .bad) = _
  rw [prD_zip]
  show M.ret (mergeD [] (zipP p q)) = _
  rw [merge_zip hn fun _ _ => rfl, List.nil_append, zip_kvF hl hn]
/-- a square table of ints -/
def sqB (rows : List (List Int)) : Bool := (rows.all fun r => Nat.beq r.length rows.length) && (Nat.ble 1 rows.length && Nat.ble rows.length 50)
theorem cutIn_of {rows : List (List Int)} (hs : sqB rows = true) {p : List Int} {f : Int → Int} (hp : Ord rows.length p) (hf : ∀ k ∈ p, 0 ≤ f k ∧ f k < rows.length) : CutIn rows p f := by
  unfold sqB at hs
  rw [Bool.and_eq_true, Bool.and_eq_true, List.all_eq_true] at hs
  exact ⟨fun r hr => Nat.eq_of_beq_eq_true (hs.1 r hr), Nat.le_of_ble_eq_true hs.2.1, Nat.le_of_ble_eq_true hs.2.2, hp.len, hp.in_, hf⟩
end Dv
end
section
set_option linter.all false
set_option maxRecDepth 100000
set_option maxHeartbeats 4000000
/-! V8: parting_by's errors; the inner turn at a drawn dict. -/
namespace Dv
open PySem PySem.Spec PyProof.Rows L2 Evl Kept
/-! ### draws, put together -/
section
variable {env : EnvD} {se : SEnv} {fa fb : EnvD → M D} {fn : EnvD → M (List D)} {fd : EnvD → M (List (Int × D))} {a b : D} {n : Nat}
theorem w_set {i : Nat} {Q : Nat → Ctl → Prop} (h : (fa (lendV se)).wp n fun n' d => Q n' (.nx (se.set i (.v d)))) : (sSet i fa se).wp n Q := M.wp_bind.mpr h
theorem w_ret {Q : Nat → Ctl → Prop} (h : (fa (lendO se)).wp n fun n' d => Q n' (.rt d)) : (sRet fa se).wp n Q := M.wp_bind.mpr h
theorem w_seq {g h : SEnv → M Ctl} {Q : Nat → Ctl → Prop} (q : (g se).wp n fun n' c => (match c with | .nx se' => h se' | .rt d => M.ret (.rt d)).wp n' Q) : (sSeq g h se).wp n Q := M.wp_bind.mpr q
theorem w_eD {Q : Nat → D → Prop} (h : (fd env).wp n fun n' l => Q n' (.dic l)) : (eD fd env).wp n Q := M.wp_bind.mpr h
theorem w_eN {Q : Nat → D → Prop} (h : (fn env).wp n fun n' l => Q n' (.lst l)) : (eN fn env).wp n Q := M.wp_bind.mpr h
theorem w_one {Q : Nat → List D → Prop} (h : (fa env).wp n fun n' d => Q n' [d]) : (aCons fa aNil env).wp n Q := M.wp_bind.mpr h
theorem w_two {Q : Nat → List D → Prop} (h : (fa env).wp n fun n1 a => (fb env).wp n1 fun n' b => Q n' [a, b]) : (aCons fa (aCons fb aNil) env).wp n Q := M.wp_bind.mpr (M.wp_mono (fun n1 a q => M.wp_bind.mpr (M.wp_bind.mpr q)) h)
theorem w_det {α : Type} {m : M α} {x : α} {Q : Nat → α → Prop} (e : m = .ret x) (h : Q n x) : m.wp n Q := by
  rw [e]
  exact h
theorem w_nDict {Q : Nat → List (Int × D) → Prop} (h : (fn env).wp n fun n' ds => (gDict ds).wp n' Q) : (nDict fn env).wp n Q := M.wp_bind.mpr h
theorem w_call {g : List D → M D} {Q : Nat → D → Prop} (h : (fn env).wp n fun n' ds => (g ds).wp n' Q) : (eCall g fn env).wp n Q := M.wp_bind.mpr h
theorem w_bind {α β : Type} {m : M α} {g : α → M β} {Q : Nat → β → Prop} (h : m.wp n fun n' a => (g a).wp n' Q) : (m >>= g).wp n Q := M.wp_bind.mpr h
end
/-! ### errors of parting_by -/
theorem bad_dials {d odd : D} (h : m_need_dialsE [d] = .err 1) : m_parting_byE [d, odd] = .err 1 := by
  show (do let c ← sSeq (sDropE m_need_dialsE (aCons (eVar 0) aNil)) _ [.v d, .v odd, .no, .no, .no, .no, .no, .no]; _) = _
  have e : sDropE m_need_dialsE (aCons (eVar 0) aNil) [.v d, .v odd, .no, .no, .no, .no, .no, .no] = .err 1 := by
    show (m_need_dialsE [d] >>= _) = _
    rw [h]
    rfl
  unfold sSeq
  rw [e]
  rfl
def Dial.pl (x : Dial) : D := match m_places_of [tI x.dl] with | .ret d => d | _ => .non
def pb1 : SEnv → M Ctl := sDropE m_need_dialsE (aCons (eVar 0) aNil)
def pb2 : SEnv → M Ctl := sNE (sSet 2 (eCall m_places_of (aCons (eVar 0) aNil)))
def pb3 : SEnv → M Ctl := sNE (sSet 3 (eCall m_table_of (aCons (eCall m_book_by (aCons (eVar 0) (aCons (eVar 2) aNil))) aNil)))
def pb4 : SEnv → M Ctl := sIfE (bNot (bOf (eCall m_cuts_right (aCons (eVar 3) (aCons (eVar 1) aNil))))) (sSeq (sErr 2) sNil) sNil
structure PB (x : Dial) : Prop where
  p1 : ∀ d, pb1 [.v (tI x.dl), .v d, .no, .no, .no, .no, .no, .no] = .ret (.nx [.v (tI x.dl), .v d, .no, .no, .no, .no, .no, .no])
  p2 : ∀ d, pb2 [.v (tI x.dl), .v d, .no, .no, .no, .no, .no, .no] = .ret (.nx [.v (tI x.dl), .v d, .v x.pl, .no, .no, .no, .no, .no])
  p3 : ∀ d, pb3 [.v (tI x.dl), .v d, .v x.pl, .no, .no, .no, .no, .no] = .ret (.nx [.v (tI x.dl), .v d, .v x.pl, .v (tT x.rows), .no, .no, .no, .no])
theorem bad_cut {x : Dial} (P : PB x) {d : D} (h : m_cuts_right [tT x.rows, d] = .ret (.bl false)) : m_parting_byE [tI x.dl, d] = .err 2 := by
  show (do let c ← sSeq pb1 (sSeq pb2 (sSeq pb3 (sSeq pb4 _))) [.v (tI x.dl), .v d, .no, .no, .no, .no, .no, .no]; _) = _
  rw [seq_det (P.p1 d), seq_det (P.p2 d), seq_det (P.p3 d)]
  have e : pb4 [.v (tI x.dl), .v d, .v x.pl, .v (tT x.rows), .no, .no, .no, .no] = .err 2 := by
    show (noErr (bNot (bOf (eCall m_cuts_right (aCons (eVar 3) (aCons (eVar 1) aNil)))) (lendO [.v (tI x.dl), .v d, .v x.pl, .v (tT x.rows), .no, .no, .no, .no])) >>= _) = _
    rw [t_not (t_of (t_call2 (vr rfl) (vr rfl) h))]
    rfl
  unfold sSeq
  rw [e]
  rfl
theorem caught_of {cB c : Nat} {f : List D → M D} {fa fb : EnvD → M D} {env : EnvD} {a b : D} (ea : fa env = .ret a) (eb : fb env = .ret b) (h : f [a, b] = .err c) (hc : c = 1 ∨ c = 2) : eCaught cB f (aCons fa (aCons fb aNil)) env = .ret (.bl (Nat.beq c cB)) := by
  have q : aCons fa (aCons fb aNil) env = .ret [a, b] := by
    unfold aCons
    rw [ea]
    show ((do let x ← fb env; let r ← aNil env; M.ret (x :: r)) >>= fun r => M.ret (a :: r)) = _
    rw [eb]
    rfl
  unfold eCaught
  rw [q]
  show (catch_ (f [a, b]) >>= _) = _
  rw [h]
  rcases hc with rfl | rfl <;> rfl
/-! ### slots forgotten -/
def fgI : List Nat := [8, 11, 12, 13, 14, 15, 16, 17, 10, 20, 21, 22, 19, 23, 18, 24]
theorem forget_set {i : Nat} {t : Slot} : ∀ {is : List Nat} {se : SEnv}, i ∉ is → forget is (se.set i t) = (forget is se).set i t
  | [], se, _ => rfl
  | j :: r, se, h => by
    rw [List.mem_cons, not_or] at h
    show forget r ((se.set i t).set j .no) = (forget r (se.set j .no)).set i t
    rw [← forget_set h.2, List.set_comm _ _ (fun e => h.1 e)]
def cn (se : SEnv) : SEnv := forget fgI (se.set 7 .no)
def Dial.ec0 (x : Dial) : SEnv := x.e4.set 9 (.v x.fd)
theorem cn_item {x : Dial} {se : SEnv} (h : cn se = x.ec0) (d : D) : forget fgI (se.set 7 (.v d)) = x.ec0.set 7 (.v d) := by
  rw [← h]
  show _ = (forget fgI (se.set 7 .no)).set 7 (.v d)
  rw [← forget_set (by decide), List.set_set]
theorem inner_fg : m_inner = sFg fgI (sSeq in1 sNil) := inner_is
def resI (x : Dial) (d : D) : Option SEnv := match sSeq in1 sNil (x.ec0.set 7 (.v d)) with
  | .ret (.nx se) => some (cn se)
  | _ => none
theorem resI_of {x : Dial} {d : D} (h : resI x d = some x.ec0) {se : SEnv} (hs : cn se = x.ec0) : ∃ se', m_inner (se.set 7 (.v d)) = .ret (.nx se') ∧ cn se' = x.ec0 := by
  rw [inner_fg]
  show ∃ se', sSeq in1 sNil (forget fgI (se.set 7 (.v d))) = _ ∧ _
  rw [cn_item hs]
  unfold resI at h
  split at h
  · rename_i se' e
    exact ⟨se', e, by injection h⟩
  · cases h
theorem cn_ec0 (x : Dial) (d : D) : cn (x.ec0.set 7 (.v d)) = x.ec0 := by kernel_rfl
/-- an item that is no cross-cut -/
theorem inner_no {x : Dial} (P : PB x) {d : D} (e1 : m__law_is_cut [tT x.rows, d] = .ret (.bl false)) (e2 : m_cuts_right [tT x.rows, d] = .ret (.bl false)) : resI x d = some x.ec0 := by
  have v6 : eVar 6 (lendO (x.ec0.set 7 (.v d))) = .ret (tT x.rows) := rfl
  have v7 : eVar 7 (lendO (x.ec0.set 7 (.v d))) = .ret d := rfl
  have v25 : eVar 25 (lendO (x.ec0.set 7 (.v d))) = .ret (tI x.dl) := rfl
  have T1 : (bNot (bOf (eCall m__law_is_cut (aCons (eVar 6) (aCons (eVar 7) aNil))))) (lendO (x.ec0.set 7 (.v d))) = .ret true := t_not (t_of (t_call2 v6 v7 e1))
  have T2 : (bNot (bOf (eCaught 2 m_parting_byE (aCons (eVar 25) (aCons (eVar 7) aNil))))) (lendO (x.ec0.set 7 (.v d))) = .ret false := t_not (x := true) (t_of (caught_of (c := 2) v25 v7 (bad_cut P e2) (.inr rfl)))
  have e : in1 (x.ec0.set 7 (.v d)) = .ret (.nx (x.ec0.set 7 (.v d))) := by
    unfold in1
    rw [if_det T1]
    show sSeq (sIf (bNot (bOf (eCaught 2 m_parting_byE (aCons (eVar 25) (aCons (eVar 7) aNil))))) _ _) sNil _ = _
    rw [seq_det ((if_det T2).trans rfl)]
    rfl
  unfold resI
  rw [seq_det e]
  exact congrArg some (cn_ec0 x d)
end Dv
end
section
set_option linter.all false
set_option maxRecDepth 100000
set_option maxHeartbeats 4000000
/-! V9: near values: what _law_near_cut may answer. -/
namespace Dv
open PySem PySem.Spec PyProof.Rows L2 Evl Kept
/-- a statement on draws that no unfolding reaches -/
structure WP {α : Type} (m : M α) (n : Nat) (Q : Nat → α → Prop) : Prop where
  out : m.wp n Q
section
variable {α β : Type} {n : Nat}
theorem p_up {m : M α} {P Q : Nat → α → Prop} (h : WP m n P) (q : ∀ n' a, P n' a → Q n' a) : WP m n Q := ⟨M.wp_mono q h.out⟩
theorem p_bind {m : M α} {g : α → M β} {Q : Nat → β → Prop} (h : WP m n fun n' a => WP (g a) n' Q) : WP (m >>= g) n Q := ⟨M.wp_bind.mpr (M.wp_mono (fun _ _ z => z.out) h.out)⟩
theorem p_det {m : M α} {a : α} {Q : Nat → α → Prop} (e : m = .ret a) (h : Q n a) : WP m n Q := ⟨by rw [e]; exact h⟩
theorem p_eq {m m' : M α} {Q : Nat → α → Prop} (e : m = m') (h : WP m' n Q) : WP m n Q := by
  rw [e]
  exact h
theorem p_out {p : α → Bool} {Q : Nat → α → Prop} {k : Nat} {m : M α} (h : outM p k m = true) (hk : k ≤ n) (q : ∀ n' a, n ≤ n' + k → n' ≤ n → p a = true → Q n' a) : WP m n Q := ⟨outM_wp h hk q⟩
variable {env : EnvD} {se : SEnv} {fa fb : EnvD → M D} {fn : EnvD → M (List D)} {fd : EnvD → M (List (Int × D))} {a b : D} {g h : SEnv → M Ctl}
theorem p_set {i : Nat} {Q : Nat → Ctl → Prop} (q : WP (fa (lendV se)) n fun n' d => Q n' (.nx (se.set i (.v d)))) : WP (sSet i fa se) n Q := p_bind (p_up q fun _ _ z => ⟨z⟩)
theorem p_ret {Q : Nat → Ctl → Prop} (q : WP (fa (lendO se)) n fun n' d => Q n' (.rt d)) : WP (sRet fa se) n Q := p_bind (p_up q fun _ _ z => ⟨z⟩)
theorem p_nx {Q : Nat → Ctl → Prop} (q : WP (g se) n fun n' c => ∃ se', c = .nx se' ∧ WP (h se') n' Q) : WP (sSeq g h se) n Q := p_bind (p_up q fun n' c z => by
  obtain ⟨se', rfl, z⟩ := z
  exact z)
theorem p_rt {Q : Nat → Ctl → Prop} (q : WP (g se) n fun n' c => ∃ d, c = .rt d ∧ Q n' (.rt d)) : WP (sSeq g h se) n Q := p_bind (p_up q fun n' c z => by
  obtain ⟨d, rfl, z⟩ := z
  exact ⟨z⟩)
theorem p_rets {Q : Nat → Ctl → Prop} (q : WP (fa (lendO se)) n fun n' d => Q n' (.rt d)) : WP (sSeq (sRet fa) h se) n Q := p_rt (p_ret (p_up q fun n' d z => ⟨d, rfl, z⟩))
theorem p_run {k : Nat} {ds : List D} {Q : Nat → D → Prop} (q : WP (g (ds.map Slot.v ++ List.replicate (k - ds.length) .no)) n fun n' c => ∃ d, c = .rt d ∧ Q n' d) : WP (runD k g ds) n Q := p_bind (p_up q fun n' c z => by
  obtain ⟨d, rfl, z⟩ := z
  exact ⟨z⟩)
theorem p_eD {Q : Nat → D → Prop} (q : WP (fd env) n fun n' l => Q n' (.dic l)) : WP (eD fd env) n Q := p_bind (p_up q fun _ _ z => ⟨z⟩)
theorem p_eN {Q : Nat → D → Prop} (q : WP (fn env) n fun n' l => Q n' (.lst l)) : WP (eN fn env) n Q := p_bind (p_up q fun _ _ z => ⟨z⟩)
theorem p_one {Q : Nat → List D → Prop} (q : WP (fa env) n fun n' d => Q n' [d]) : WP (aCons fa aNil env) n Q := p_bind (p_up q fun _ _ z => ⟨z⟩)
theorem p_two {Q : Nat → List D → Prop} (q : WP (fa env) n fun n1 a => WP (fb env) n1 fun n' b => Q n' [a, b]) : WP (aCons fa (aCons fb aNil) env) n Q := p_bind (p_up q fun _ _ z => p_bind (p_bind (p_up z fun _ _ y => ⟨⟨y⟩⟩)))
theorem p_nDict {Q : Nat → List (Int × D) → Prop} (q : WP (fn env) n fun n' ds => WP (gDict ds) n' Q) : WP (nDict fn env) n Q := p_bind q
theorem p_call {f : List D → M D} {Q : Nat → D → Prop} (q : WP (fn env) n fun n' ds => WP (f ds) n' Q) : WP (eCall f fn env) n Q := p_bind q
end
theorem p_draw {k n : Nat} {Q : Nat → D → Prop} (h1 : 0 < k) (h2 : k ≤ 1000) (hn : 0 < n) (h : ∀ i : Nat, i < k → Q (n - 1) (.int i)) : WP (m__law_draw [.st, .int k]) n Q := ⟨⟨h1, h2, hn, h⟩⟩
theorem p_pick {ds : List D} {n : Nat} {Q : Nat → D → Prop} (h1 : 0 < ds.length) (h2 : ds.length ≤ 1000) (hn : 0 < n) (h : ∀ d ∈ ds, Q (n - 1) d) : WP (m__law_pick [.st, .lst ds]) n Q := by
  refine p_run (p_rets ?_)
  show WP (M.ret (D.lst ds) >>= fun x => m__law_draw [.st, .int ds.length] >>= fun y => gIx x y) n _
  refine p_bind (p_det (a := D.lst ds) rfl (p_bind (p_draw h1 h2 hn fun i hi => p_det (a := ds[i]) ?_ ⟨_, rfl, h _ (List.getElem_mem hi)⟩)))
  show (match ds[i]? with | some d => M.ret d | none => M.bad) = _
  rw [List.getElem?_eq_getElem hi]
theorem p_pickL {f1 f2 : EnvD → M D} {env : EnvD} {ds : List D} {n : Nat} {Q : Nat → D → Prop} (e1 : f1 env = .ret .st) (e2 : f2 env = .ret (.lst ds)) (h1 : 0 < ds.length) (h2 : ds.length ≤ 1000) (hn : 0 < n) (h : ∀ d ∈ ds, Q (n - 1) d) : WP (eCall m__law_pick (aCons f1 (aCons f2 aNil)) env) n Q := p_eq (t_call2 e1 e2 rfl) (p_pick h1 h2 hn h)
theorem mixN_of {x : Dial} (h : outM (okLD x) 6 (mxE x) = true) {n : Nat} {Q : Nat → D → Prop} (hn : 6 ≤ n) (q : ∀ n' l, n ≤ n' + 6 → n' ≤ n → okL x l = true → Q n' (.lst (l.map D.int))) : WP (m__law_mixed [.st, .lst ((R_ x.rows.length).map D.int)]) n Q :=
  p_out h hn fun n' d h1 h2 h3 => by
    obtain ⟨l, rfl, hl⟩ := okLD_of h3
    exact q n' l h1 h2 hl
theorem okL_ord {x : Dial} {l : List Int} (h : okL x l = true) : Ord x.rows.length l := by
  unfold okL at h
  rw [Bool.and_eq_true] at h
  exact ord_of h.1
def okOdd (x : Dial) (d : D) : Prop := ∃ b, m__law_is_cut [tT x.rows, d] = .ret (.bl b) ∧ (b = false → m_cuts_right [tT x.rows, d] = .ret (.bl false))
def okOddB (x : Dial) (d : D) : Bool := match m__law_is_cut [tT x.rows, d], m_cuts_right [tT x.rows, d] with
  | .ret (.bl true), _ => true
  | .ret (.bl false), .ret (.bl false) => true
  | _, _ => false
theorem okOdd_of {x : Dial} {d : D} (h : okOddB x d = true) : okOdd x d := by
  unfold okOddB at h
  split at h
  · rename_i e
    exact ⟨true, e, fun e => by cases e⟩
  · rename_i e1 e2
    exact ⟨false, e1, fun _ => e2⟩
  · cases h
theorem okOdd_kv {x : Dial} (hs : sqB x.rows = true) {p : List Int} {f : Int → Int} (hp : Ord x.rows.length p) (hf : ∀ k ∈ p, 0 ≤ f k ∧ f k < x.rows.length) : okOdd x (.dic (kvF p f)) := by
  have C := cutIn_of hs hp hf
  exact ⟨_, law_cut_eq C, fun e => by rw [cuts_right_eq C, e]⟩
def nc1 : SEnv → M Ctl := sPar [3, 4] (pV (eCall m__law_draw (aCons (eVar 0) (aCons (eCall gLen (aCons (eVar 1) aNil)) aNil))) (pV (eCall m__law_draw (aCons (eVar 0) (aCons (eCall gLen (aCons (eBin gIx (eVar 1) (eC (.int 0))) aNil)) aNil))) pNil))
def nc2 : SEnv → M Ctl := sSet 5 (eD (nDict (aCons (eN (nZipL (aCons (eCall m__law_mixed (aCons (eVar 0) (aCons (eN (nRng (eCall gLen (aCons (eVar 1) aNil)))) aNil))) (aCons (eCall m__law_mixed (aCons (eVar 0) (aCons (eN (nRng (eCall gLen (aCons (eBin gIx (eVar 1) (eC (.int 0))) aNil)))) aNil))) aNil)))) aNil)))
def nc3 : SEnv → M Ctl := sSeq (sRet (eCall m__law_pick (aCons (eVar 0) (aCons (eN (nLst (aCons (eVar 5) (aCons (eVar 5) (aCons (eC .non) (aCons (eD nDE) (aCons (eN (nLst aNil)) (aCons (eD (nD1 (eVar 3) (eVar 4))) aNil)))))))) aNil)))) sNil
def ncT : EnvD → M Bool := bOf (eBin gIs (eVar 2) (eC .non))
def nc4 : SEnv → M Ctl := sPar [6, 7, 8] (pD (nDict (aCons (eVar 2) aNil)) (pD (nDict (aCons (eVar 2) aNil)) (pD (nDict (aCons (eVar 2) aNil)) pNil)))
def nc5 : SEnv → M Ctl := sSet 9 (eCall m__law_pick (aCons (eVar 0) (aCons (eCall gSorted (aCons (eVar 2) aNil)) aNil)))
def nc6 : SEnv → M Ctl := sPop 6 (eVar 9)
def nc7 : SEnv → M Ctl := sPut 7 (eVar 3) (eVar 4)
def ncL : EnvD → M D := eN (nLst (aCons (eVar 4) (aCons (eC .non) (aCons (eUn gNeg (eC (.int 1))) (aCons (eCall gLen (aCons (eBin gIx (eVar 1) (eC (.int 0))) aNil)) (aCons (eBin gEq (eBin gIx (eVar 2) (eVar 9)) (eC (.int 1))) (aCons (eC (.str "0")) aNil)))))))
def nc8 : SEnv → M Ctl := sPut 8 (eVar 9) (eCall m__law_pick (aCons (eVar 0) (aCons ncL aNil)))
def nc9 : SEnv → M Ctl := sFzD 6 (sNewD 10 (nDict (aCons (eVar 6) aNil)))
def nc10 : SEnv → M Ctl := sPut 10 (eVar 3) (eBin gIx (eVar 2) (eVar 9))
def ncBack : EnvD → M D := eD (nDict (aCons (eN (nLc [13, 14] (iOf (eN (nRev (eCall gSorted (aCons (eVar 2) aNil))))) (tg1 14) bYes (eTup (aCons (eVar 14) (aCons (eBin gIx (eVar 2) (eVar 14)) aNil))))) aNil))
def ncName : EnvD → M D := eMix (aCons (eN (nLc [13, 14] (iOf (eVar 2)) (tg1 14) bYes (eTup (aCons (eIf (bOf (eBin (gCmp fun i j => decide (i < j)) (eVar 14) (eC (.int 2)))) (eBin gEq (eVar 14) (eC (.int 1))) (eCall gStr (aCons (eVar 14) aNil))) (aCons (eBin gIx (eVar 2) (eVar 14)) aNil))))) aNil)
def ncAll : EnvD → M D := eN (nLst (aCons (eVar 5) (aCons (eVar 2) (aCons (eVar 11) (aCons (eVar 6) (aCons (eVar 7) (aCons (eVar 8) (aCons (eVar 10) (aCons (eVar 10) (aCons (eVar 12) (aCons (eN (nList (aCons (eVar 2) aNil))) (aCons (eC .non) (aCons (eD nDE) aNil)))))))))))))
def nc13 : SEnv → M Ctl := sFzD 10 (sFzD 8 (sFzD 7 (sRet (eCall m__law_pick (aCons (eVar 0) (aCons ncAll aNil))))))
theorem near_is : m__law_near_cut = runD 15 (sSeq nc1 (sSeq nc2 (sSeq (sIf ncT nc3 sNil) (sSeq nc4 (sSeq nc5 (sSeq nc6 (sSeq nc7 (sSeq nc8 (sSeq nc9 (sSeq nc10 (sSeq (sSet 11 ncBack) (sSeq (sSet 12 ncName) (sSeq nc13 sNil))))))))))))) := rfl
/-- what the first two statements of it leave -/
structure NearX (x : Dial) : Prop where
  sq : sqB x.rows = true
  mix : outM (okLD x) 6 (mxE x) = true
  rng1 : ∀ a2 a3 a4 : Slot, eN (nRng (eCall gLen (aCons (eVar 1) aNil))) (lendV [.v .st, .v (tT x.rows), a2, a3, a4, .no, .no, .no, .no, .no, .no, .no, .no, .no, .no]) = .ret (.lst ((R_ x.rows.length).map D.int))
  rng2 : ∀ a2 a3 a4 : Slot, eN (nRng (eCall gLen (aCons (eBin gIx (eVar 1) (eC (.int 0))) aNil))) (lendV [.v .st, .v (tT x.rows), a2, a3, a4, .no, .no, .no, .no, .no, .no, .no, .no, .no, .no]) = .ret (.lst ((R_ x.rows.length).map D.int))
  len2 : eCall gLen (aCons (eBin gIx (eVar 1) (eC (.int 0))) aNil) (lendV [.v .st, .v (tT x.rows), .v x.fd, .no, .no, .no, .no, .no, .no, .no, .no, .no, .no, .no, .no]) = .ret (.int x.rows.length)
theorem NearX.pos {x : Dial} (N : NearX x) : 0 < x.rows.length ∧ x.rows.length ≤ 50 := by
  have := N.sq
  unfold sqB at this
  rw [Bool.and_eq_true, Bool.and_eq_true] at this
  exact ⟨Nat.le_of_ble_eq_true this.2.1, Nat.le_of_ble_eq_true this.2.2⟩
theorem mem_R {n i : Nat} (h : i < n) : (i : Int) ∈ R_ n := List.mem_map.mpr ⟨i, List.mem_range.mpr h, rfl⟩
end Dv
end
section
set_option linter.all false
set_option maxRecDepth 100000
set_option maxHeartbeats 4000000
/-! V3: no pick of six, told by weights. Printed by gen_p.py. -/
namespace Dv
open PySem PySem.Spec PyProof.Rows L2 Evl Kept
def pkT : EnvD → M Bool := bAnd (bOf (eBin (gIn true) (eVar 6) (eBin gIx (eVar 5) (eC (.int 0))))) (bOf (eBin (gIn true) (eVar 7) (eBin gIx (eVar 5) (eC (.int 1)))))
def pkM : EnvD → M D := eTup (aCons (eCall gTuple (aCons (eCall gSorted (aCons (eN (nLst (aStar (eBin gIx (eVar 5) (eC (.int 0))) (aCons (eVar 6) aNil)))) aNil)) aNil)) (aCons (eCall gTuple (aCons (eCall gSorted (aCons (eN (nLst (aStar (eBin gIx (eVar 5) (eC (.int 1))) (aCons (eVar 7) aNil)))) aNil)) aNil)) aNil))
def pkA : SEnv → M Ctl := sKIf 2 (eVar 8) (sSeq (sKPut 2 (eVar 8) (eVar 5) (eVar 3) (eTup (aCons (eVar 6) (aCons (eVar 7) aNil)))) sNil)
def pkB : SEnv → M Ctl := sKRet 2 (eVar 8) (eVar 1)
def pk3 : SEnv → M Ctl := sSeq (sIf pkT (sSeq (sSet 8 pkM) (sSeq pkA (sSeq pkB sNil))) sNil) sNil
def pk2 : SEnv → M Ctl := sSeq (sFor (iOf (eVar 4)) (.two 6 7) pk3) sNil
def pk1 : SEnv → M Ctl := sSeq (sKFor 2 (.one 5) pk2) sNil
theorem picks_is : m_picks_by_spans = runD 9 (sSeq (sKNew 2 (eTup (aCons (eTup aNil) (aCons (eTup aNil) aNil))) (eD nDE)) (sSeq (sFor (iEnumDA (aCons (eVar 0) aNil)) (.two 3 4) pk1) (sSeq (sRet (eIf (bOf (eBin gEq (eVar 1) (eC (.int 0)))) (eD nDE) (eC .non))) sNil))) := rfl
def S6 : List (List Int) := [[], [0], [1], [2], [3], [4], [5], [0, 1], [0, 2], [0, 3], [0, 4], [0, 5], [1, 2], [1, 3], [1, 4], [1, 5], [2, 3], [2, 4], [2, 5], [3, 4], [3, 5], [4, 5], [0, 1, 2], [0, 1, 3], [0, 1, 4], [0, 1, 5], [0, 2, 3], [0, 2, 4], [0, 2, 5], [0, 3, 4], [0, 3, 5], [0, 4, 5], [1, 2, 3], [1, 2, 4], [1, 2, 5], [1, 3, 4], [1, 3, 5], [1, 4, 5], [2, 3, 4], [2, 3, 5], [2, 4, 5], [3, 4, 5], [0, 1, 2, 3], [0, 1, 2, 4], [0, 1, 2, 5], [0, 1, 3, 4], [0, 1, 3, 5], [0, 1, 4, 5], [0, 2, 3, 4], [0, 2, 3, 5], [0, 2, 4, 5], [0, 3, 4, 5], [1, 2, 3, 4], [1, 2, 3, 5], [1, 2, 4, 5], [1, 3, 4, 5], [2, 3, 4, 5], [0, 1, 2, 3, 4], [0, 1, 2, 3, 5], [0, 1, 2, 4, 5], [0, 1, 3, 4, 5], [0, 2, 3, 4, 5], [1, 2, 3, 4, 5], [0, 1, 2, 3, 4, 5]]
def R6 : List Int := [0, 1, 2, 3, 4, 5]
def wS (w : Int → Int) : List Int → Int
  | [] => 0
  | i :: r => w i + wS w r
def inB (s : List Int) (p : Int) : Bool := match gIn true (.int p) (.tup (s.map D.int)) with
  | .ret (.bl b) => b == !s.contains p
  | _ => false
theorem s6_in : (S6.all fun s => R6.all fun p => inB s p) = true := by kernel_rfl
theorem s6_full : (S6.all fun s => !Nat.beq s.length 6 || s == R6) = true := by kernel_rfl
theorem s6_few : (S6.all fun s => Nat.ble s.length 6) = true := by kernel_rfl
theorem s6_more : (S6.all fun s => R6.all fun p => s.contains p || (S6.contains (srtI (s ++ [p])) && Nat.beq (srtI (s ++ [p])).length (s.length + 1))) = true := by kernel_rfl
theorem s6_two : (S6.flatMap fun a => S6.map fun b => (a, b)).length = 4096 := by kernel_rfl
structure Wt (rows : List (List Int)) (w : Int → Int) (m : Int) : Prop where
  sum : (S6.all fun s => R6.all fun p => s.contains p || iEq (wS w (srtI (s ++ [p]))) (wS w s + w p)) = true
  six : rows.length = 6
  row : (rows.zipIdx.all fun r => r.1.zipIdx.all fun q => R6.contains (q.2 : Int) && (R6.contains q.1 && decide (m ∣ w q.1 - w (q.2 : Int) - w (r.2 : Int)))) = true
  off : ¬ m ∣ 0 - wS w [5, 4, 3, 2, 1, 0]
theorem len_le {α : Type} [DecidableEq α] : ∀ (l L : List α), l.Nodup → (∀ x ∈ l, x ∈ L) → l.length ≤ L.length
  | [], L, _, _ => Nat.zero_le _
  | x :: r, L, hn, h => by
    rw [List.nodup_cons] at hn
    have hx := h x List.mem_cons_self
    have h2 := len_le r (L.erase x) hn.2 fun y hy => (List.mem_erase_of_ne (fun (e : y = x) => hn.1 (by rw [← e]; exact hy))).mpr (h y (List.mem_cons_of_mem _ hy))
    rw [List.length_erase_of_mem hx] at h2
    have := List.length_pos_of_mem hx
    rw [List.length_cons]
    omega
theorem merge_len : ∀ (l acc : List (Int × D)), (mergeD acc l).length ≤ acc.length + l.length
  | [], acc => by simp [mergeD]
  | (k, d) :: r, acc => by
    have h1 := merge_len r (putD acc k d)
    have h2 := put_len acc k d
    show (mergeD (putD acc k d) r).length ≤ _
    rw [List.length_cons]
    omega
where
  put_len (kvs : List (Int × D)) (k : Int) (d : D) : (putD kvs k d).length ≤ kvs.length + 1 := by
    unfold putD
    have set_len : ∀ l : List (Int × D), (setD l k d).length = l.length := fun l => by
      induction l with
      | nil => rfl
      | cons q r ih =>
        obtain ⟨i, e⟩ := q
        unfold setD
        split <;> simp [ih]
    cases hasD kvs k with
    | true => exact Nat.le_trans (Nat.le_of_eq (set_len kvs)) (Nat.le_succ _)
    | false => simp
theorem goFor_inv {tg : TgS} {g : SEnv → M Ctl} : ∀ {ds : List D} {P : Nat → SEnv → Prop} {se : SEnv}, P 0 se → (∀ i d, ds[i]? = some d → ∀ se, P i se → ∃ se1 se2, tg.bind d se = some se1 ∧ g se1 = .ret (.nx se2) ∧ P (i + 1) se2) → ∃ se', goFor tg g ds se = .ret (.nx se') ∧ P ds.length se'
  | [], P, se, h, _ => ⟨se, rfl, h⟩
  | d :: r, P, se, h, st => by
    obtain ⟨se1, se2, e1, e2, h2⟩ := st 0 d rfl se h
    obtain ⟨se', e3, h3⟩ := goFor_inv (tg := tg) (g := g) (ds := r) (P := fun i => P (i + 1)) h2 fun i d hd se q => st (i + 1) d hd se q
    refine ⟨se', ?_, h3⟩
    unfold goFor
    rw [e1]
    show (g se1 >>= fun c => match c with | .nx se2 => goFor tg g r se2 | .rt d => .ret (.rt d)) = _
    rw [e2]
    exact e3
theorem all_mem {α : Type} {l : List α} {p : α → Bool} (h : l.all p = true) {x : α} (hx : x ∈ l) : p x = true := List.all_eq_true.mp h x hx
section
variable {rows : List (List Int)} {w : Int → Int} {m : Int}
def WJ (w : Int → Int) (j : Nat) : Int := wS w ((List.range j).map fun i => ((i : Nat) : Int)).reverse
theorem WJ_succ (j : Nat) : WJ w (j + 1) = w j + WJ w j := by
  unfold WJ
  rw [List.range_succ, List.map_append, List.reverse_append]
  rfl
def OkE (w : Int → Int) (m : Int) (j : Nat) (q : NK × List (Int × D)) : Prop := q.1.1 ∈ S6 ∧ q.1.2 ∈ S6 ∧ q.1.1.length = q.1.2.length ∧ q.2.length ≤ q.1.1.length ∧ q.1.1.length ≤ j ∧ (q.1.1.length = j → m ∣ wS w q.1.2 - wS w q.1.1 - WJ w j)
theorem OkE.up {j : Nat} {q : NK × List (Int × D)} (h : OkE w m j q) : OkE w m (j + 1) q := ⟨h.1, h.2.1, h.2.2.1, h.2.2.2.1, Nat.le_succ_of_le h.2.2.2.2.1, fun e => by have := h.2.2.2.2.1; omega⟩
theorem few_keys {j : Nat} {kvs : List (NK × List (Int × D))} (hn : (kvs.map (·.1)).Nodup) (h : ∀ q ∈ kvs, OkE w m j q) : kvs.length ≤ 4096 := by
  have := len_le (kvs.map (·.1)) (S6.flatMap fun a => S6.map fun b => (a, b)) hn fun x hx => by
    obtain ⟨q, hq, rfl⟩ := List.mem_map.mp hx
    obtain ⟨h1, h2, _⟩ := h q hq
    exact List.mem_flatMap.mpr ⟨q.1.1, h1, List.mem_map.mpr ⟨q.1.2, h2, rfl⟩⟩
  rw [s6_two, List.length_map] at this
  exact this
theorem nkLook_some : ∀ {kvs : List (NK × List (Int × D))} {k : NK} {dv : List (Int × D)}, nkLook kvs k = some dv → (k, dv) ∈ kvs
  | [], _, _, h => by cases h
  | q :: r, k, dv, h => by
    unfold nkLook at h
    split at h
    · rename_i e
      cases h
      rw [← e]
      exact List.mem_cons_self
    · exact List.mem_cons_of_mem _ (nkLook_some h)
theorem nkLook_has : ∀ {kvs : List (NK × List (Int × D))} {k : NK}, k ∈ kvs.map (·.1) → ∃ dv, nkLook kvs k = some dv
  | q :: r, k, h => by
    unfold nkLook
    split
    · exact ⟨_, rfl⟩
    · rename_i e
      rw [List.map_cons, List.mem_cons] at h
      rcases h with h | h
      · exact absurd h.symm e
      · exact nkLook_has h
theorem nkLook_app : ∀ {kvs new : List (NK × List (Int × D))} {k : NK}, k ∈ kvs.map (·.1) → nkLook (kvs ++ new) k = nkLook kvs k
  | q :: r, new, k, h => by
    show (if q.1 = k then some q.2 else nkLook (r ++ new) k) = if q.1 = k then some q.2 else nkLook r k
    split
    · rfl
    · rename_i e
      rw [List.map_cons, List.mem_cons] at h
      rcases h with h | h
      · exact absurd h.symm e
      · exact nkLook_app h
theorem nkLook_add {kvs : List (NK × List (Int × D))} {k : NK} {dv : List (Int × D)} (h : nkLook kvs k = none) : nkLook (kvs ++ [(k, dv)]) k = some dv := by
  have hn := nkLook_none h
  clear h
  induction kvs with
  | nil => exact if_pos rfl
  | cons q r ih =>
    rw [List.map_cons, List.mem_cons] at hn
    show (if q.1 = k then some q.2 else nkLook (r ++ [(k, dv)]) k) = _
    rw [if_neg fun e => hn (.inl e.symm)]
    exact ih fun e => hn (.inr e)
end
end Dv
end
section
set_option linter.all false
set_option maxRecDepth 100000
set_option maxHeartbeats 1000000
namespace Dv
open PySem PySem.Spec PyProof.Rows L2 Evl Kept
def nq2 (x : Dial) (a3 a4 a5 : Slot) : SEnv := [.v .st, .v (tT x.rows), .v x.fd, a3, a4, a5, .no, .no, .no, .no, .no, .no, .no, .no, .no]
theorem two_draws {x : Dial} (N : NearX x) {n : Nat} {Q : Nat → Ctl → Prop} (hn : 20 ≤ n) (h : ∀ (i j : Nat), i < x.rows.length → j < x.rows.length → Q (n - 1 - 1) (.nx (nq2 x (.v (.int i)) (.v (.int j)) .no))) : WP (nc1 (nq2 x .no .no .no)) n Q := by
  obtain ⟨p1, p2⟩ := N.pos
  have l1 : eCall gLen (aCons (eVar 1) aNil) (lendV (nq2 x .no .no .no)) = .ret (.int x.rows.length) := t_call1 (vr rfl) len_tab
  have d1 : (eCall m__law_draw (aCons (eVar 0) (aCons (eCall gLen (aCons (eVar 1) aNil)) aNil))) (lendV (nq2 x .no .no .no)) = m__law_draw [.st, .int x.rows.length] := t_call2 (vr rfl) l1 rfl
  have d2 : (eCall m__law_draw (aCons (eVar 0) (aCons (eCall gLen (aCons (eBin gIx (eVar 1) (eC (.int 0))) aNil)) aNil))) (lendV (nq2 x .no .no .no)) = m__law_draw [.st, .int x.rows.length] := t_call2 (vr rfl) N.len2 rfl
  unfold nc1 sPar pV
  refine p_bind (p_bind (p_eq d1 ?_))
  refine p_draw p1 (by omega) (by omega) fun i hi => p_bind (p_bind (p_eq d2 ?_))
  refine p_draw p1 (by omega) (by omega) fun j hj => p_bind ⟨⟨⟨⟨?_⟩⟩⟩⟩
  exact h i j hi hj
theorem zip_mixed {x : Dial} (N : NearX x) {env : EnvD} {fa fb : EnvD → M D} (d1 : fa env = m__law_mixed [.st, .lst ((R_ x.rows.length).map D.int)]) (d2 : fb env = m__law_mixed [.st, .lst ((R_ x.rows.length).map D.int)]) {n : Nat} {Q : Nat → D → Prop} (hn : 12 ≤ n) (h : ∀ n' (d : D), n ≤ n' + 12 → okOdd x d → Q n' d) : WP (eD (nDict (aCons (eN (nZipL (aCons fa (aCons fb aNil)))) aNil)) env) n Q := by
  obtain ⟨p1, p2⟩ := N.pos
  refine p_eD (p_nDict (p_one (p_eN ?_)))
  unfold nZipL
  refine p_bind (p_two (p_eq d1 ?_))
  refine mixN_of N.mix (by omega) fun n2 p a1 a2 hp => p_eq d2 ?_
  refine mixN_of N.mix (by omega) fun n3 q b1 b2 hq => ?_
  have op := okL_ord hp
  have oq := okL_ord hq
  have hl : p.length = q.length := by rw [op.len, oq.len]
  have e : (seqs2 [.lst (p.map D.int), .lst (q.map D.int)] >>= fun p => gd (Nat.ble (min p.1.length p.2.length) 1000) (M.ret (zipD p.1 p.2))) = .ret (zipD (p.map D.int) (q.map D.int)) := by
    show gd (Nat.ble (min (p.map D.int).length (q.map D.int).length) 1000) _ = _
    rw [Nat.ble_eq_true_of_le (by rw [List.length_map, List.length_map, op.len, oq.len]; omega)]
    rfl
  refine p_det e ?_
  refine p_det (gDict_zip op.nod hl) ?_
  exact h _ _ (by omega) (okOdd_kv N.sq op fun k hk => look_in hk hl fun i hi => oq.in_ i hi)
theorem zip_draws {x : Dial} (N : NearX x) {a3 a4 : Slot} {n : Nat} {Q : Nat → Ctl → Prop} (hn : 12 ≤ n) (h : ∀ n' (d : D), n ≤ n' + 12 → okOdd x d → Q n' (.nx (nq2 x a3 a4 (.v d)))) : WP (nc2 (nq2 x a3 a4 .no)) n Q := by
  have d1 : eCall m__law_mixed (aCons (eVar 0) (aCons (eN (nRng (eCall gLen (aCons (eVar 1) aNil)))) aNil)) (lendV (nq2 x a3 a4 .no)) = m__law_mixed [.st, .lst ((R_ x.rows.length).map D.int)] := t_call2 (vr rfl) (N.rng1 _ _ _) rfl
  have d2 : eCall m__law_mixed (aCons (eVar 0) (aCons (eN (nRng (eCall gLen (aCons (eBin gIx (eVar 1) (eC (.int 0))) aNil)))) aNil)) (lendV (nq2 x a3 a4 .no)) = m__law_mixed [.st, .lst ((R_ x.rows.length).map D.int)] := t_call2 (vr rfl) (N.rng2 _ _ _) rfl
  exact p_set (zip_mixed N d1 d2 hn fun n' d h1 h2 => h n' d h1 h2)
end Dv
end
section
set_option linter.all false
set_option maxRecDepth 100000
set_option maxHeartbeats 1000000
/-! V9c: near values where no cross-cut is. -/
namespace Dv
open PySem PySem.Spec PyProof.Rows L2 Evl Kept
structure NearNone (x : Dial) : Prop where
  a1 : okOddB x .non = true
  a2 : okOddB x (.dic []) = true
  a3 : okOddB x (.lst []) = true
  a4 : ((R_ x.rows.length).all fun r => (R_ x.rows.length).all fun c => okOddB x (.dic [(r, .int c)])) = true
theorem isnon_eq {x : Dial} {a3 a4 a5 : Slot} {b : Bool} (h : isNon x.fd = b) : ncT (lendO (nq2 x a3 a4 a5)) = .ret b := by
  have e : eBin gIs (eVar 2) (eC .non) (lendO (nq2 x a3 a4 a5)) = .ret (.bl b) := by
    refine t_bin (a := x.fd) (b := D.non) (vr rfl) rfl ?_
    rw [← h]
    cases x.fd <;> rfl
  exact t_of e
theorem nc3_wp {x : Dial} (hB : NearNone x) {r c : Int} {d : D} (hr : r ∈ R_ x.rows.length) (hc : c ∈ R_ x.rows.length) (hd : okOdd x d) {n : Nat} {Q : Nat → Ctl → Prop} (hn : 1 ≤ n) (h : ∀ n' d, n ≤ n' + 1 → okOdd x d → Q n' (.rt d)) : WP (nc3 (nq2 x (.v (.int r)) (.v (.int c)) (.v d))) n Q := by
  have b4 := okOdd_of (all_mem (all_mem hB.a4 hr) hc)
  have e : eN (nLst (aCons (eVar 5) (aCons (eVar 5) (aCons (eC .non) (aCons (eD nDE) (aCons (eN (nLst aNil)) (aCons (eD (nD1 (eVar 3) (eVar 4))) aNil))))))) (lendO (nq2 x (.v (.int r)) (.v (.int c)) (.v d))) = .ret (.lst [d, d, .non, .dic [], .lst [], .dic [(r, .int c)]]) := by kernel_rfl
  refine p_rets ?_
  refine p_pickL rfl e (by simp) (by simp) hn fun d' hd' => ?_
  refine h (n - 1) d' (by omega) ?_
  simp only [List.mem_cons, List.not_mem_nil, or_false] at hd'
  rcases hd' with rfl | rfl | rfl | rfl | rfl | rfl
  · exact hd
  · exact hd
  · exact okOdd_of hB.a1
  · exact okOdd_of hB.a2
  · exact okOdd_of hB.a3
  · exact b4
theorem near_front {x : Dial} (N : NearX x) {rest : SEnv → M Ctl} {n : Nat} {Q : Nat → Ctl → Prop} (hn : 30 ≤ n) (h : ∀ n' (r c : Int) d, n ≤ n' + 14 → r ∈ R_ x.rows.length → c ∈ R_ x.rows.length → okOdd x d → WP (rest (nq2 x (.v (.int r)) (.v (.int c)) (.v d))) n' Q) : WP (sSeq nc1 (sSeq nc2 rest) (nq2 x .no .no .no)) n Q := by
  refine p_nx ?_
  refine two_draws N (by omega) fun i j hi hj => ⟨_, rfl, ?_⟩
  refine p_nx ?_
  refine zip_draws N (by omega) fun n2 d h2 hd => ⟨_, rfl, ?_⟩
  exact h n2 _ _ d (by omega) (mem_R hi) (mem_R hj) hd
theorem near_none {x : Dial} (N : NearX x) (h0 : isNon x.fd = true) (hB : NearNone x) {n : Nat} {Q : Nat → D → Prop} (hn : 30 ≤ n) (h : ∀ n' d, n ≤ n' + 20 → okOdd x d → Q n' d) : WP (m__law_near_cut [.st, tT x.rows, x.fd]) n Q := by
  rw [near_is]
  refine p_run ?_
  refine near_front N hn fun n2 r c d h2 hr hc hd => ?_
  refine p_rt ?_
  refine p_eq (if_det (isnon_eq h0)) ?_
  refine nc3_wp hB hr hc hd (by omega) fun n3 d' h3 hd' => ⟨_, rfl, _, rfl, h _ _ (by omega) hd'⟩
end Dv
end
section
set_option linter.all false
set_option maxRecDepth 100000
set_option maxHeartbeats 1000000
/-! V9d: near values where a cross-cut is. -/
namespace Dv
open PySem PySem.Spec PyProof.Rows L2 Evl Kept
abbrev nqs (x : Dial) (kv : List (Int × D)) (r c : Int) (d : D) (a6 a7 a8 a9 a10 a11 a12 : Slot) : SEnv := [.v .st, .v (tT x.rows), .v (.dic kv), .v (.int r), .v (.int c), .v d, a6, a7, a8, a9, a10, a11, a12, .no, .no]
structure NearSome (x : Dial) (kv : List (Int × D)) (f : Int → Int) (bk nm : D) : Prop where
  fd : x.fd = .dic kv
  few : kv.length ≤ 50
  got : ∀ i ∈ R_ x.rows.length, lookD kv i = some (.int (f i))
  has : ∀ i ∈ R_ x.rows.length, hasD kv i = true
  srt : ∀ env : EnvD, env[2]? = some (some (.dic kv)) → eCall gSorted (aCons (eVar 2) aNil) env = .ret (.lst ((R_ x.rows.length).map D.int))
  back : ∀ r c d a6 a7 a8 a9 a10 a11 a12, ncBack (lendV (nqs x kv r c d a6 a7 a8 a9 a10 a11 a12)) = .ret bk
  name : ∀ r c d a6 a7 a8 a9 a10 a11 a12, ncName (lendV (nqs x kv r c d a6 a7 a8 a9 a10 a11 a12)) = .ret nm
  len2 : ∀ env : EnvD, env[1]? = some (some (tT x.rows)) → eCall gLen (aCons (eBin gIx (eVar 1) (eC (.int 0))) aNil) env = .ret (.int x.rows.length)
  b1 : okOddB x (.dic kv) = true
  b2 : okOddB x bk = true
  b3 : okOddB x nm = true
  b4 : okOddB x (.lst (kv.map fun p => .int p.1)) = true
  b5 : okOddB x .non = true
  b6 : okOddB x (.dic []) = true
  less : ((R_ x.rows.length).all fun i => okOddB x (.dic (dropD kv i))) = true
  more : ((R_ x.rows.length).all fun r => (R_ x.rows.length).all fun c => okOddB x (.dic (putD kv r (.int c)))) = true
  bent : ((R_ x.rows.length).all fun i => (R_ x.rows.length).all fun c => [D.int c, .non, .int (-1), .int x.rows.length, .bl (iEq (f i) 1), .str "0"].all fun b => okOddB x (.dic (putD kv i b))) = true
  moved : ((R_ x.rows.length).all fun i => (R_ x.rows.length).all fun r => okOddB x (.dic (putD (dropD kv i) r (.int (f i))))) = true
theorem a_cons {env : EnvD} {fa : EnvD → M D} {fr : EnvD → M (List D)} {a : D} {l : List D} (e1 : fa env = .ret a) (e2 : fr env = .ret l) : aCons fa fr env = .ret (a :: l) := by
  unfold aCons
  rw [e1]
  show (fr env >>= fun r => M.ret (a :: r)) = _
  rw [e2]
  rfl
theorem n_lst {env : EnvD} {fs : EnvD → M (List D)} {l : List D} (e : fs env = .ret l) (h : l.length ≤ 100000) : nLst fs env = .ret l := by
  unfold nLst
  rw [e]
  exact chk_le h
section
variable {x : Dial} {kv : List (Int × D)} {f : Int → Int} {bk nm : D} {r c i : Int} {d : D} {n : Nat}
theorem nq_fd (S : NearSome x kv f bk nm) : nq2 x (.v (.int r)) (.v (.int c)) (.v d) = nqs x kv r c d .no .no .no .no .no .no .no := by
  unfold nq2 nqs
  rw [S.fd]
theorem nc4_eq : nc4 (nqs x kv r c d .no .no .no .no .no .no .no) = .ret (.nx (nqs x kv r c d (.od kv) (.od kv) (.od kv) .no .no .no .no)) := rfl
theorem nc5_wp (S : NearSome x kv f bk nm) (hl : 0 < x.rows.length ∧ x.rows.length ≤ 50) {Q : Nat → Ctl → Prop} (hn : 1 ≤ n) (h : ∀ i ∈ R_ x.rows.length, Q (n - 1) (.nx (nqs x kv r c d (.od kv) (.od kv) (.od kv) (.v (.int i)) .no .no .no))) : WP (nc5 (nqs x kv r c d (.od kv) (.od kv) (.od kv) .no .no .no .no)) n Q := by
  have lr : (R_ x.rows.length).length = x.rows.length := by unfold R_; simp
  refine p_set (p_pickL rfl (S.srt _ rfl) ?_ ?_ hn fun d' hd' => ?_)
  · rw [List.length_map, lr]
    exact hl.1
  · rw [List.length_map, lr]
    omega
  · obtain ⟨i, hi, rfl⟩ := List.mem_map.mp hd'
    exact h i hi
theorem nc6_eq (S : NearSome x kv f bk nm) (hi : i ∈ R_ x.rows.length) : nc6 (nqs x kv r c d (.od kv) (.od kv) (.od kv) (.v (.int i)) .no .no .no) = .ret (.nx (nqs x kv r c d (.od (dropD kv i)) (.od kv) (.od kv) (.v (.int i)) .no .no .no)) := by
  show gd (hasD kv i) (M.ret _) = _
  rw [S.has i hi]
  rfl
theorem nc7_eq (S : NearSome x kv f bk nm) : nc7 (nqs x kv r c d (.od (dropD kv i)) (.od kv) (.od kv) (.v (.int i)) .no .no .no) = .ret (.nx (nqs x kv r c d (.od (dropD kv i)) (.od (putD kv r (.int c))) (.od kv) (.v (.int i)) .no .no .no)) := by
  show chk kv.length (M.ret _) = _
  rw [chk_le (by have := S.few; omega)]
  rfl
theorem fd_at (S : NearSome x kv f bk nm) (hi : i ∈ R_ x.rows.length) {env : EnvD} (h2 : env[2]? = some (some (.dic kv))) (h9 : env[9]? = some (some (.int i))) : eBin gIx (eVar 2) (eVar 9) env = .ret (.int (f i)) := by
  refine t_bin (a := .dic kv) (b := .int i) (vr h2) (vr h9) ?_
  show (match lookD kv i with | some d => M.ret d | none => .bad) = _
  rw [S.got i hi]
theorem nc8_wp (S : NearSome x kv f bk nm) (hi : i ∈ R_ x.rows.length) {Q : Nat → Ctl → Prop} (hn : 1 ≤ n) (h : ∀ b ∈ [D.int c, .non, .int (-1), .int x.rows.length, .bl (iEq (f i) 1), .str "0"], Q (n - 1) (.nx (nqs x kv r c d (.od (dropD kv i)) (.od (putD kv r (.int c))) (.od (putD kv i b)) (.v (.int i)) .no .no .no))) : WP (nc8 (nqs x kv r c d (.od (dropD kv i)) (.od (putD kv r (.int c))) (.od kv) (.v (.int i)) .no .no .no)) n Q := by
  have e : ncL (lendV (nqs x kv r c d (.od (dropD kv i)) (.od (putD kv r (.int c))) (.od kv) (.v (.int i)) .no .no .no)) = .ret (.lst [D.int c, .non, .int (-1), .int x.rows.length, .bl (iEq (f i) 1), .str "0"]) :=
    t_n (n_lst (a_cons (vr rfl) (a_cons rfl (a_cons rfl (a_cons (S.len2 _ rfl) (a_cons (t_bin (fd_at S hi rfl rfl) (show _ = M.ret (D.int 1) from rfl) rfl) (a_cons rfl rfl)))))) (by simp))
  show WP (eCall m__law_pick (aCons (eVar 0) (aCons ncL aNil)) (lendV (nqs x kv r c d (.od (dropD kv i)) (.od (putD kv r (.int c))) (.od kv) (.v (.int i)) .no .no .no)) >>= _) n Q
  refine p_bind (p_pickL rfl e (by simp) (by simp) hn fun b hb => ?_)
  refine p_det ?_ (h b hb)
  show chk kv.length (M.ret _) = _
  rw [chk_le (by have := S.few; omega)]
  rfl
theorem nc9_eq {b : D} : nc9 (nqs x kv r c d (.od (dropD kv i)) (.od (putD kv r (.int c))) (.od (putD kv i b)) (.v (.int i)) .no .no .no) = .ret (.nx (nqs x kv r c d (.v (.dic (dropD kv i))) (.od (putD kv r (.int c))) (.od (putD kv i b)) (.v (.int i)) (.od (dropD kv i)) .no .no)) := rfl
theorem drop_len : ∀ (l : List (Int × D)) (k : Int), (dropD l k).length ≤ l.length
  | [], _ => Nat.le_refl _
  | (j, e) :: l, k => by
    have := drop_len l k
    unfold dropD
    split
    · rw [List.length_cons]
      omega
    · rw [List.length_cons, List.length_cons]
      omega
theorem nc10_eq (S : NearSome x kv f bk nm) (hi : i ∈ R_ x.rows.length) {b : D} : nc10 (nqs x kv r c d (.v (.dic (dropD kv i))) (.od (putD kv r (.int c))) (.od (putD kv i b)) (.v (.int i)) (.od (dropD kv i)) .no .no) = .ret (.nx (nqs x kv r c d (.v (.dic (dropD kv i))) (.od (putD kv r (.int c))) (.od (putD kv i b)) (.v (.int i)) (.od (putD (dropD kv i) r (.int (f i)))) .no .no)) := by
  show (eBin gIx (eVar 2) (eVar 9) (lendV (nqs x kv r c d (.v (.dic (dropD kv i))) (.od (putD kv r (.int c))) (.od (putD kv i b)) (.v (.int i)) (.od (dropD kv i)) .no .no)) >>= _) = _
  rw [fd_at S hi rfl rfl]
  show chk (dropD kv i).length (M.ret _) = _
  rw [chk_le (by have := S.few; have := drop_len kv i; omega)]
  rfl
theorem nc13_wp (S : NearSome x kv f bk nm) (hr : r ∈ R_ x.rows.length) (hc : c ∈ R_ x.rows.length) (hi : i ∈ R_ x.rows.length) (hd : okOdd x d) {b : D} (hb : b ∈ [D.int c, .non, .int (-1), .int x.rows.length, .bl (iEq (f i) 1), .str "0"]) {Q : Nat → Ctl → Prop} (hn : 1 ≤ n) (h : ∀ d, okOdd x d → Q (n - 1) (.rt d)) :
    WP (nc13 (nqs x kv r c d (.v (.dic (dropD kv i))) (.od (putD kv r (.int c))) (.od (putD kv i b)) (.v (.int i)) (.od (putD (dropD kv i) r (.int (f i)))) (.v bk) (.v nm))) n Q := by
  have e : ncAll (lendO (nqs x kv r c d (.v (.dic (dropD kv i))) (.v (.dic (putD kv r (.int c)))) (.v (.dic (putD kv i b))) (.v (.int i)) (.v (.dic (putD (dropD kv i) r (.int (f i))))) (.v bk) (.v nm))) = .ret (.lst [d, .dic kv, bk, .dic (dropD kv i), .dic (putD kv r (.int c)), .dic (putD kv i b), .dic (putD (dropD kv i) r (.int (f i))), .dic (putD (dropD kv i) r (.int (f i))), nm, .lst (kv.map fun p => .int p.1), .non, .dic []]) := by kernel_rfl
  show WP (sRet (eCall m__law_pick (aCons (eVar 0) (aCons ncAll aNil))) (nqs x kv r c d (.v (.dic (dropD kv i))) (.v (.dic (putD kv r (.int c)))) (.v (.dic (putD kv i b))) (.v (.int i)) (.v (.dic (putD (dropD kv i) r (.int (f i))))) (.v bk) (.v nm))) n Q
  refine p_ret (p_pickL rfl e (by simp) (by simp) hn fun d' hd' => h d' ?_)
  have g1 := okOdd_of (all_mem S.less hi)
  have g2 := okOdd_of (all_mem (all_mem S.more hr) hc)
  have g3 := okOdd_of (all_mem (all_mem (all_mem S.bent hi) hc) hb)
  have g4 := okOdd_of (all_mem (all_mem S.moved hi) hr)
  simp only [List.mem_cons, List.not_mem_nil, or_false] at hd'
  rcases hd' with rfl | rfl | rfl | rfl | rfl | rfl | rfl | rfl | rfl | rfl | rfl | rfl
  · exact hd
  · exact okOdd_of S.b1
  · exact okOdd_of S.b2
  · exact g1
  · exact g2
  · exact g3
  · exact g4
  · exact g4
  · exact okOdd_of S.b3
  · exact okOdd_of S.b4
  · exact okOdd_of S.b5
  · exact okOdd_of S.b6
theorem near_some (N : NearX x) (S : NearSome x kv f bk nm) {Q : Nat → D → Prop} (hn : 30 ≤ n) (h : ∀ n' d, n ≤ n' + 20 → okOdd x d → Q n' d) : WP (m__law_near_cut [.st, tT x.rows, x.fd]) n Q := by
  rw [near_is]
  refine p_run ?_
  refine near_front N hn fun n2 r c d h2 hr hc hd => ?_
  have h0 : isNon x.fd = false := by rw [S.fd]; rfl
  refine p_nx (p_eq (if_det (isnon_eq h0)) (p_det (a := Ctl.nx (nq2 x (.v (.int r)) (.v (.int c)) (.v d))) rfl ⟨_, rfl, ?_⟩))
  rw [nq_fd S]
  refine p_nx (p_det nc4_eq ⟨_, rfl, ?_⟩)
  refine p_nx (nc5_wp S N.pos (by omega) fun i hi => ⟨_, rfl, ?_⟩)
  refine p_nx (p_det (nc6_eq S hi) ⟨_, rfl, ?_⟩)
  refine p_nx (p_det (nc7_eq S) ⟨_, rfl, ?_⟩)
  refine p_nx (nc8_wp S hi (by omega) fun b hb => ⟨_, rfl, ?_⟩)
  refine p_nx (p_det nc9_eq ⟨_, rfl, ?_⟩)
  refine p_nx (p_det (nc10_eq S hi) ⟨_, rfl, ?_⟩)
  refine p_nx (p_det (t_set (S.back _ _ _ _ _ _ _ _ _ _)) ⟨_, rfl, ?_⟩)
  refine p_nx (p_det (t_set (se := nqs x kv r c d (.v (.dic (dropD kv i))) (.od (putD kv r (.int c))) (.od (putD kv i b)) (.v (.int i)) (.od (putD (dropD kv i) r (.int (f i)))) (.v bk) .no) (S.name _ _ _ _ _ _ _ _ _ _)) ⟨_, rfl, ?_⟩)
  refine p_rt (nc13_wp S hr hc hi hd hb (by omega) fun d' hd' => ⟨_, rfl, _, rfl, h _ _ (by omega) hd'⟩)
end
end Dv
end
section
set_option linter.all false
set_option maxRecDepth 100000
set_option maxHeartbeats 4000000
/-! V4: picks_by_spans finds none. -/
namespace Dv
open PySem PySem.Spec PyProof.Rows L2 Evl Kept
section
variable {rows : List (List Int)} {w : Int → Int} {m : Int}
def spk (B : D) (kvs : List (NK × List (Int × D))) (a3 a4 a5 a6 a7 a8 : Slot) : SEnv := [.v B, .v (.int 6), .on kvs, a3, a4, a5, a6, a7, a8]
def exK (k : NK) (p d : Int) : NK := (srtI (k.1 ++ [p]), srtI (k.2 ++ [d]))
theorem s6_len {s : List Int} (h : s ∈ S6) : s.length ≤ 6 := Nat.le_of_ble_eq_true (all_mem s6_few h)
theorem in_eq {s : List Int} {p : Int} (hs : s ∈ S6) (hp : p ∈ R6) : gIn true (.int p) (.tup (s.map D.int)) = .ret (.bl (!s.contains p)) := by
  have h := all_mem (all_mem s6_in hs) hp
  unfold inB at h
  split at h
  · rename_i b e
    rw [e, eq_of_beq h]
  · cases h
theorem toInts_map : ∀ l : List Int, toInts (l.map D.int) = some l
  | [] => rfl
  | i :: r => by
    have := toInts_map r
    show toInts (D.int i :: r.map D.int) = _
    unfold toInts
    rw [this]
    rfl
theorem asNK_nkD (k : NK) : asNK (nkD k) = .ret k := by
  obtain ⟨a, b⟩ := k
  show (match toInts (a.map D.int), toInts (b.map D.int) with | some a, some b => M.ret (a, b) | _, _ => .bad) = _
  rw [toInts_map, toInts_map]
theorem pkT_eq {B : D} {kvs : List (NK × List (Int × D))} {a3 a4 a8 : Slot} {k : NK} {p d : Int} (h1 : k.1 ∈ S6) (h2 : k.2 ∈ S6) (hp : p ∈ R6) (hd : d ∈ R6) : pkT (lendO (spk B kvs a3 a4 (.v (nkD k)) (.v (.int p)) (.v (.int d)) a8)) = .ret (!k.1.contains p && !k.2.contains d) :=
  t_band (t_of (t_bin (vr rfl) (show _ = M.ret (.tup (k.1.map D.int)) from rfl) (in_eq h1 hp))) fun _ => t_of (t_bin (vr rfl) (show _ = M.ret (.tup (k.2.map D.int)) from rfl) (in_eq h2 hd))
theorem half {env : EnvD} {s : List Int} {p : Int} {fa fb : EnvD → M D} (hs : s ∈ S6) (e1 : fa env = .ret (.tup (s.map D.int))) (e2 : fb env = .ret (.int p)) : eCall gTuple (aCons (eCall gSorted (aCons (eN (nLst (aStar fa (aCons fb aNil)))) aNil)) aNil) env = .ret (.tup ((srtI (s ++ [p])).map D.int)) := by
  refine t_call1 (a := D.lst ((srtI (s ++ [p])).map D.int)) (t_call1 (a := D.lst ((s ++ [p]).map D.int)) (t_n ?_) ?_) rfl
  · unfold nLst aStar
    rw [e1]
    show ((aCons fb aNil env >>= fun r => M.ret (s.map D.int ++ r)) >>= fun ds => chk ds.length (M.ret ds)) = _
    unfold aCons
    rw [e2]
    show chk (s.map D.int ++ [D.int p]).length (M.ret (s.map D.int ++ [D.int p])) = _
    rw [chk_le (by have := s6_len hs; simp; omega), List.map_append]
    rfl
  · show (match allI ((s ++ [p]).map D.int) with | some ns => M.ret (D.lst ((srtI ns).map D.int)) | none => .bad) = _
    rw [allI_map]
theorem tup2 {env : EnvD} {fa fb : EnvD → M D} {a b : D} (e1 : fa env = .ret a) (e2 : fb env = .ret b) : eTup (aCons fa (aCons fb aNil)) env = .ret (.tup [a, b]) := by
  unfold eTup aCons
  rw [e1]
  show ((do let x ← fb env; let r ← aNil env; M.ret (x :: r)) >>= fun r => M.ret (a :: r)) >>= _ = _
  rw [e2]
  rfl
theorem pkM_eq {B : D} {kvs : List (NK × List (Int × D))} {a3 a4 a8 : Slot} {k : NK} {p d : Int} (h1 : k.1 ∈ S6) (h2 : k.2 ∈ S6) : pkM (lendV (spk B kvs a3 a4 (.v (nkD k)) (.v (.int p)) (.v (.int d)) a8)) = .ret (nkD (exK k p d)) := by
  exact tup2 (half (s := k.1) (p := p) h1 rfl rfl) (half (s := k.2) (p := d) h2 rfl rfl)
/-- what is known while a round goes on -/
structure Rnd (w : Int → Int) (m : Int) (j : Nat) (old kvs : List (NK × List (Int × D))) : Prop where
  nd : (kvs.map (·.1)).Nodup
  old : ∃ new, kvs = old ++ new
  ok : ∀ q ∈ kvs, OkE w m (j + 1) q
theorem pk3_eq (Wf : Wt rows w m) {B : D} {old kvs : List (NK × List (Int × D))} {j : Nat} {a4 a8 : Slot} {k : NK} {p d : Int} (hj : j < 6) (R : Rnd w m j old kvs) (ho : ∀ q ∈ old, OkE w m j q) (hk : k ∈ old.map (·.1)) (hp : p ∈ R6) (hd : d ∈ R6) (hw : m ∣ w d - w p - w (j : Int)) :
    ∃ kvs' a8', pk3 (spk B kvs (.v (.int j)) a4 (.v (nkD k)) (.v (.int p)) (.v (.int d)) a8) = .ret (.nx (spk B kvs' (.v (.int j)) a4 (.v (nkD k)) (.v (.int p)) (.v (.int d)) a8')) ∧ Rnd w m j old kvs' := by
  obtain ⟨q, hq, rfl⟩ := List.mem_map.mp hk
  obtain ⟨h1, h2, h3, h4, h5, h6⟩ := ho q hq
  have T := pkT_eq (B := B) (kvs := kvs) (a3 := .v (.int j)) (a4 := a4) (a8 := a8) h1 h2 hp hd
  cases hb : (!q.1.1.contains p && !q.1.2.contains d) with
  | false =>
    rw [hb] at T
    refine ⟨kvs, a8, ?_, R⟩
    unfold pk3
    rw [seq_det ((if_det T).trans rfl)]
    rfl
  | true =>
    rw [hb] at T
    rw [Bool.and_eq_true, Bool.not_eq_true', Bool.not_eq_true'] at hb
    have few := few_keys R.nd R.ok
    -- the key of the next
    have g1 := all_mem (all_mem s6_more h1) hp
    rw [hb.1, Bool.false_or, Bool.and_eq_true] at g1
    have g2 := all_mem (all_mem s6_more h2) hd
    rw [hb.2, Bool.false_or, Bool.and_eq_true] at g2
    have l1 := Nat.eq_of_beq_eq_true g1.2
    have l2 := Nat.eq_of_beq_eq_true g2.2
    have w1 := all_mem (all_mem Wf.sum h1) hp
    rw [hb.1, Bool.false_or] at w1
    have w1 := iEq_iff.mp w1
    have w2 := all_mem (all_mem Wf.sum h2) hd
    rw [hb.2, Bool.false_or] at w2
    have w2 := iEq_iff.mp w2
    have ok' : ∀ dv' : List (Int × D), dv'.length ≤ q.1.1.length + 1 → OkE w m (j + 1) (exK q.1 p d, dv') := fun dv' hl => by
      refine ⟨List.contains_iff_mem.mp g1.1, List.contains_iff_mem.mp g2.1, ?_, ?_, ?_, fun e => ?_⟩
      · show (srtI (q.1.1 ++ [p])).length = (srtI (q.1.2 ++ [d])).length
        omega
      · show dv'.length ≤ (srtI (q.1.1 ++ [p])).length
        omega
      · show (srtI (q.1.1 ++ [p])).length ≤ j + 1
        omega
      · have e : (srtI (q.1.1 ++ [p])).length = j + 1 := e
        show m ∣ wS w (srtI (q.1.2 ++ [d])) - wS w (srtI (q.1.1 ++ [p])) - WJ w (j + 1)
        rw [w1, w2, WJ_succ]
        have a := Int.dvd_add (h6 (by omega)) hw
        have e2 : wS w q.1.2 + w d - (wS w q.1.1 + w p) - (w (j : Int) + WJ w j) = wS w q.1.2 - wS w q.1.1 - WJ w j + (w d - w p - w (j : Int)) := by omega
        rw [e2]
        exact a
    -- no entry is a whole pick
    have small : ∀ {k' : NK} {dv' : List (Int × D)}, OkE w m (j + 1) (k', dv') → dv'.length ≠ 6 := fun {k' dv'} o e => by
      obtain ⟨o1, o2, o3, o4, o5, o6⟩ := o
      have o4 : dv'.length ≤ k'.1.length := o4
      have o3 : k'.1.length = k'.2.length := o3
      have a := s6_len o1
      have o5 : k'.1.length ≤ j + 1 := o5
      have e1 : k'.1.length = 6 := by omega
      have f1 := all_mem s6_full o1
      have f2 := all_mem s6_full o2
      have f1 : k'.1 = R6 := by
        have f1 : (!Nat.beq k'.1.length 6 || k'.1 == R6) = true := f1
        rw [e1] at f1
        exact eq_of_beq f1
      have f2 : k'.2 = R6 := by
        have f2 : (!Nat.beq k'.2.length 6 || k'.2 == R6) = true := f2
        rw [← o3, e1] at f2
        exact eq_of_beq f2
      have j5 : j = 5 := by omega
      have z : m ∣ wS w k'.2 - wS w k'.1 - WJ w (j + 1) := o6 (show k'.1.length = j + 1 by omega)
      rw [f1, f2, j5, Int.sub_self] at z
      exact Wf.off z
    have eM := pkM_eq (B := B) (kvs := kvs) (a3 := .v (.int j)) (a4 := a4) (a8 := a8) (p := p) (d := d) h1 h2
    have s1 : (sSet 8 pkM) (spk B kvs (.v (.int j)) a4 (.v (nkD q.1)) (.v (.int p)) (.v (.int d)) a8) = .ret (.nx (spk B kvs (.v (.int j)) a4 (.v (nkD q.1)) (.v (.int p)) (.v (.int d)) (.v (nkD (exK q.1 p d))))) := t_set eM
    -- it is learned
    have s2 : ∃ kvs' dv', pkA (spk B kvs (.v (.int j)) a4 (.v (nkD q.1)) (.v (.int p)) (.v (.int d)) (.v (nkD (exK q.1 p d)))) = .ret (.nx (spk B kvs' (.v (.int j)) a4 (.v (nkD q.1)) (.v (.int p)) (.v (.int d)) (.v (nkD (exK q.1 p d))))) ∧ Rnd w m j old kvs' ∧ nkLook kvs' (exK q.1 p d) = some dv' := by
      have open_ : ∀ o, nkLook kvs (exK q.1 p d) = o → pkA (spk B kvs (.v (.int j)) a4 (.v (nkD q.1)) (.v (.int p)) (.v (.int d)) (.v (nkD (exK q.1 p d)))) = (match o with
          | none => sSeq (sKPut 2 (eVar 8) (eVar 5) (eVar 3) (eTup (aCons (eVar 6) (aCons (eVar 7) aNil)))) sNil (spk B kvs (.v (.int j)) a4 (.v (nkD q.1)) (.v (.int p)) (.v (.int d)) (.v (nkD (exK q.1 p d))))
          | some _ => M.ret (.nx (spk B kvs (.v (.int j)) a4 (.v (nkD q.1)) (.v (.int p)) (.v (.int d)) (.v (nkD (exK q.1 p d)))))) := fun o ho => by
        show (asNK (nkD (exK q.1 p d)) >>= fun k => chk kvs.length (match nkLook kvs k with | none => _ | some _ => _)) = _
        rw [asNK_nkD]
        show chk kvs.length (match nkLook kvs (exK q.1 p d) with | none => _ | some _ => _) = _
        rw [chk_le (by omega), ho]
      cases ho2 : nkLook kvs (exK q.1 p d) with
      | some dv' => exact ⟨kvs, dv', open_ _ ho2, R, ho2⟩
      | none =>
        obtain ⟨new, hnew⟩ := R.old
        obtain ⟨dv, hdv⟩ := nkLook_has hk
        have hdv2 : nkLook kvs q.1 = some dv := by
          rw [hnew, nkLook_app hk]
          exact hdv
        have odv := ho _ (nkLook_some hdv)
        have ldv : dv.length ≤ q.1.1.length := odv.2.2.2.1
        have l6 := s6_len h1
        refine ⟨kvs ++ [(exK q.1 p d, putD (mergeD [] dv) j (.tup [.int p, .int d]))], _, ?_, ⟨?_, ⟨new ++ [(exK q.1 p d, putD (mergeD [] dv) j (.tup [.int p, .int d]))], ?_⟩, fun r hr => ?_⟩, nkLook_add ho2⟩
        · rw [open_ _ ho2]
          refine (seq_det (se' := spk B (kvs ++ [(exK q.1 p d, putD (mergeD [] dv) j (.tup [.int p, .int d]))]) (.v (.int j)) a4 (.v (nkD q.1)) (.v (.int p)) (.v (.int d)) (.v (nkD (exK q.1 p d)))) ?_).trans rfl
          show (asNK (nkD q.1) >>= fun k => match nkLook kvs k with
            | none => M.bad
            | some dv => gd (Nat.ble dv.length 1000 && Nat.ble kvs.length 100000) (M.ret (D.int j) >>= fun y => asI y >>= fun n => M.ret (D.tup [.int p, .int d]) >>= fun v => M.ret (nkD (exK q.1 p d)) >>= fun m => asNK m >>= fun km => match nkLook kvs km with
              | some _ => M.bad
              | none => M.ret (Ctl.nx ((spk B kvs (.v (.int j)) a4 (.v (nkD q.1)) (.v (.int p)) (.v (.int d)) (.v (nkD (exK q.1 p d)))).set 2 (.on (kvs ++ [(km, putD (mergeD [] dv) n v)])))))) = _
          rw [asNK_nkD]
          show (match nkLook kvs q.1 with | none => M.bad | some dv => _) = _
          rw [hdv2]
          show gd (Nat.ble dv.length 1000 && Nat.ble kvs.length 100000) _ = _
          rw [Nat.ble_eq_true_of_le (show dv.length ≤ 1000 by omega), Nat.ble_eq_true_of_le (show kvs.length ≤ 100000 by omega)]
          show (asNK (nkD (exK q.1 p d)) >>= fun km => match nkLook kvs km with | some _ => M.bad | none => _) = _
          rw [asNK_nkD]
          show (match nkLook kvs (exK q.1 p d) with | some _ => M.bad | none => _) = _
          rw [ho2]
          rfl
        · rw [List.map_append, List.nodup_append]
          refine ⟨R.nd, by simp, fun a ha b hb e => ?_⟩
          rw [List.map_cons, List.map_nil, List.mem_singleton] at hb
          have hb : b = exK q.1 p d := hb
          exact nkLook_none ho2 (by rw [← hb, ← e]; exact ha)
        · rw [hnew, List.append_assoc]
        · rw [List.mem_append, List.mem_singleton] at hr
          rcases hr with hr | rfl
          · exact R.ok r hr
          · refine ok' _ ?_
            have a := merge_len dv []
            have b := merge_len.put_len (mergeD [] dv) j (.tup [.int p, .int d])
            rw [List.length_nil] at a
            omega
    obtain ⟨kvs', dv', s2, R', look⟩ := s2
    have few' := few_keys R'.nd R'.ok
    have s3 : pkB (spk B kvs' (.v (.int j)) a4 (.v (nkD q.1)) (.v (.int p)) (.v (.int d)) (.v (nkD (exK q.1 p d)))) = .ret (.nx (spk B kvs' (.v (.int j)) a4 (.v (nkD q.1)) (.v (.int p)) (.v (.int d)) (.v (nkD (exK q.1 p d))))) := by
      show chk kvs'.length (asNK (nkD (exK q.1 p d)) >>= fun k => match nkLook kvs' k with | none => M.bad | some dv => _) = _
      rw [chk_le (by omega), asNK_nkD]
      show (match nkLook kvs' (exK q.1 p d) with | none => M.bad | some dv => _) = _
      rw [look]
      show (match decide (V.int (dv'.length : Int) = V.int 6) with | false => _ | true => _) = _
      have ne := small (R'.ok _ (nkLook_some look))
      rw [decide_eq_false (fun e => ne (by injection e with e; omega))]
    refine ⟨kvs', .v (nkD (exK q.1 p d)), ?_, R'⟩
    unfold pk3
    refine (seq_det ((if_det T).trans ?_)).trans rfl
    show sSeq (sSet 8 pkM) (sSeq pkA (sSeq pkB sNil)) _ = _
    rw [seq_det s1, seq_det s2, seq_det s3]
    rfl
theorem pk2_eq (Wf : Wt rows w m) {B : D} {old kvs : List (NK × List (Int × D))} {j : Nat} {row : List Int} {a5 a6 a7 a8 : Slot} (hr : rows[j]? = some row) (R : Rnd w m j old kvs) (ho : ∀ q ∈ old, OkE w m j q) {k : NK} (hk : k ∈ old.map (·.1)) :
    ∃ kvs' a6' a7' a8', pk2 (spk B kvs (.v (.int j)) (.v (.tup (row.zipIdx.map fun q => .tup [.int q.2, .int q.1]))) (.v (nkD k)) a6 a7 a8) = .ret (.nx (spk B kvs' (.v (.int j)) (.v (.tup (row.zipIdx.map fun q => .tup [.int q.2, .int q.1]))) (.v (nkD k)) a6' a7' a8')) ∧ Rnd w m j old kvs' := by
  have hj : j < 6 := by rw [← Wf.six]; exact (List.getElem?_eq_some_iff.mp hr).1
  obtain ⟨se', e, ⟨kvs', a6', a7', a8', rfl, R'⟩⟩ := goFor_inv (tg := .two 6 7) (g := pk3) (ds := row.zipIdx.map fun q => .tup [.int q.2, .int q.1]) (P := fun _ se => ∃ kvs' a6' a7' a8', se = spk B kvs' (.v (.int j)) (.v (.tup (row.zipIdx.map fun q => .tup [.int q.2, .int q.1]))) (.v (nkD k)) a6' a7' a8' ∧ Rnd w m j old kvs') ⟨kvs, a6, a7, a8, rfl, R⟩ fun i dd hd se ⟨kvs1, b6, b7, b8, e, R1⟩ => by
    subst e
    rw [List.getElem?_map] at hd
    cases hq : row.zipIdx[i]? with
    | none => rw [hq] at hd; cases hd
    | some q =>
      rw [hq] at hd
      cases hd
      have hrow : (row, j) ∈ rows.zipIdx := by
        rw [List.mem_zipIdx_iff_getElem?]
        exact hr
      have f := all_mem (all_mem Wf.row hrow) (List.mem_of_getElem? hq)
      rw [Bool.and_eq_true, Bool.and_eq_true, decide_eq_true_eq] at f
      obtain ⟨kvs2, c8, e2, R2⟩ := pk3_eq Wf (B := B) (a4 := .v (.tup (row.zipIdx.map fun q => .tup [.int q.2, .int q.1]))) (a8 := b8) hj R1 ho hk (List.contains_iff_mem.mp f.1) (List.contains_iff_mem.mp f.2.1) f.2.2
      exact ⟨_, _, rfl, e2, kvs2, _, _, _, rfl, R2⟩
  refine ⟨kvs', a6', a7', a8', ?_, R'⟩
  unfold pk2
  exact (seq_det e).trans rfl
theorem pk1_eq (Wf : Wt rows w m) {B : D} {old : List (NK × List (Int × D))} {j : Nat} {row : List Int} {a5 a6 a7 a8 : Slot} (hr : rows[j]? = some row) (nd : (old.map (·.1)).Nodup) (ho : ∀ q ∈ old, OkE w m j q) :
    ∃ kvs' a5' a6' a7' a8', pk1 (spk B old (.v (.int j)) (.v (.tup (row.zipIdx.map fun q => .tup [.int q.2, .int q.1]))) a5 a6 a7 a8) = .ret (.nx (spk B kvs' (.v (.int j)) (.v (.tup (row.zipIdx.map fun q => .tup [.int q.2, .int q.1]))) a5' a6' a7' a8')) ∧ Rnd w m j old kvs' := by
  obtain ⟨se', e, ⟨kvs', a5', a6', a7', a8', rfl, R'⟩⟩ := goFor_inv (tg := .one 5) (g := pk2) (ds := old.map fun q => nkD q.1) (P := fun _ se => ∃ kvs' a5' a6' a7' a8', se = spk B kvs' (.v (.int j)) (.v (.tup (row.zipIdx.map fun q => .tup [.int q.2, .int q.1]))) a5' a6' a7' a8' ∧ Rnd w m j old kvs') (se := spk B old (.v (.int j)) (.v (.tup (row.zipIdx.map fun q => .tup [.int q.2, .int q.1]))) a5 a6 a7 a8) ⟨old, a5, a6, a7, a8, rfl, ⟨nd, ⟨[], by simp⟩, fun q hq => (ho q hq).up⟩⟩ fun i dd hd se ⟨kvs1, b5, b6, b7, b8, e, R1⟩ => by
    subst e
    rw [List.getElem?_map] at hd
    cases hq : old[i]? with
    | none => rw [hq] at hd; cases hd
    | some q =>
      rw [hq] at hd
      cases hd
      obtain ⟨kvs2, c6, c7, c8, e2, R2⟩ := pk2_eq Wf (B := B) (a5 := b5) (a6 := b6) (a7 := b7) (a8 := b8) hr R1 ho (List.mem_map.mpr ⟨q, List.mem_of_getElem? hq, rfl⟩)
      exact ⟨_, _, rfl, e2, kvs2, _, _, _, _, rfl, R2⟩
  refine ⟨kvs', a5', a6', a7', a8', ?_, R'⟩
  unfold pk1
  refine (seq_det ?_).trans rfl
  show chk old.length (goFor (.one 5) pk2 (old.map fun q => nkD q.1) _) = _
  have := few_keys (j := j) nd ho
  rw [chk_le (by omega)]
  exact e
def bookOf (rows : List (List Int)) : List D := rows.map fun r => .tup (r.zipIdx.map fun q => .tup [.int q.2, .int q.1])
theorem picks_none (Wf : Wt rows w m) : m_picks_by_spans [.tup (bookOf rows), .int 6] = .ret .non := by
  obtain ⟨se', e, ⟨kvs', a3, a4, a5', a6', a7', a8', rfl, _, _⟩⟩ := goFor_inv (tg := .two 3 4) (g := pk1) (ds := enumD (bookOf rows)) (P := fun i se => ∃ kvs' a3 a4 a5' a6' a7' a8', se = spk (.tup (bookOf rows)) kvs' a3 a4 a5' a6' a7' a8' ∧ (kvs'.map (·.1)).Nodup ∧ ∀ q ∈ kvs', OkE w m i q) (se := spk (.tup (bookOf rows)) [(([], []), [])] .no .no .no .no .no .no) ⟨_, _, _, _, _, _, _, rfl, by simp, fun q hq => by
      rw [List.mem_singleton] at hq
      subst hq
      exact ⟨by decide, by decide, rfl, Nat.le_refl _, Nat.le_refl _, fun _ => ⟨0, (Int.mul_zero m).symm ▸ rfl⟩⟩⟩ fun i dd hd se ⟨kvs1, b3, b4, b5, b6, b7, b8, e, nd, ok⟩ => by
    subst e
    obtain ⟨d0, h0, rfl⟩ := enumD_get hd
    unfold bookOf at h0
    rw [List.getElem?_map] at h0
    cases hq : rows[i]? with
    | none => rw [hq] at h0; cases h0
    | some row =>
      rw [hq] at h0
      cases h0
      obtain ⟨kvs2, c5, c6, c7, c8, e2, R2⟩ := pk1_eq Wf (B := .tup (bookOf rows)) (a5 := b5) (a6 := b6) (a7 := b7) (a8 := b8) hq nd ok
      exact ⟨_, _, rfl, e2, kvs2, _, _, _, _, _, _, rfl, R2.nd, R2.ok⟩
  rw [picks_is]
  refine run_rt ?_
  rw [seq_det (se' := spk (.tup (bookOf rows)) [(([], []), [])] .no .no .no .no .no .no) rfl]
  rw [seq_det (show sFor (iEnumDA (aCons (eVar 0) aNil)) (.two 3 4) pk1 (spk (.tup (bookOf rows)) [(([], []), [])] .no .no .no .no .no .no) = _ from e)]
  rfl
end
end Dv
end
section
set_option linter.all false
set_option maxRecDepth 100000
set_option maxHeartbeats 4000000
/-! V5: cut is None for (6,), (2, 3), (3, 2). -/
namespace Dv
open PySem PySem.Spec PyProof.Rows L2 Evl Kept
def getM (m : M D) : D := match m with | .ret d => d | _ => .non
def Dial.book (x : Dial) : D := .tup (bookOf x.rows)
def Dial.grown (x : Dial) : D := getM (eBin gIx (eCall m_grow_of (aCons (eC x.book) (aCons (eD nDE) aNil))) (eUn gNeg (eC (.int 1))) [])
def wId : Int → Int := id
def wHi : Int → Int := fun i => i / 3
def wOdd : Int → Int := fun i => i % 2
theorem wt5 : Wt dz5.rows wId 6 := ⟨by kernel_rfl, rfl, by kernel_rfl, by decide⟩
theorem wt6 : Wt dz6.rows wHi 2 := ⟨by kernel_rfl, rfl, by kernel_rfl, by decide⟩
theorem wt7 : Wt dz7.rows wOdd 2 := ⟨by kernel_rfl, rfl, by kernel_rfl, by decide⟩
def pc1 : SEnv → M Ctl := sPar [1, 2] (pV (eCall m_book_of (aCons (eVar 0) aNil)) (pV (eCall gLen (aCons (eBin gIx (eVar 0) (eC (.int 0))) aNil)) pNil))
def pc2 : SEnv → M Ctl := sSet 3 (eBin gIx (eCall m_grow_of (aCons (eVar 1) (aCons (eD nDE) aNil))) (eUn gNeg (eC (.int 1))))
def pc3 : SEnv → M Ctl := sSet 3 (eIf (bOf (eBin (gCmp fun i j => decide (i < j)) (eCall gLen (aCons (eVar 0) aNil)) (eBin gSub (eBin gMul (eC (.int 2)) (eVar 2)) (eC (.int 1))))) (eCall m_picks_by_spans (aCons (eVar 1) (aCons (eVar 2) aNil))) (eC .non))
def pcT : EnvD → M Bool := bOf (eBin (gCmp fun i j => decide (i < j)) (eCall gLen (aCons (eVar 3) aNil)) (eVar 2))
def pc4 : SEnv → M Ctl := sSeq (sRet (eIf (bOf (eBin gIs (eVar 3) (eC .non))) (eC .non) (eD (nDc [4, 5] (iOf (eVar 3)) (tg1 5) bYes (eVar 5) (eBin gIx (eBin gIx (eVar 3) (eVar 5)) (eC (.int 0))))))) sNil
theorem cut_of_is : m_cut_of = runD 6 (sSeq pc1 (sSeq pc2 (sSeq (sIf pcT (sSeq pc3 sNil) sNil) pc4))) := rfl
structure NoCut (x : Dial) : Prop where
  a1 : pc1 [.v (tT x.rows), .no, .no, .no, .no, .no] = .ret (.nx [.v (tT x.rows), .v x.book, .v (.int 6), .no, .no, .no])
  a2 : pc2 [.v (tT x.rows), .v x.book, .v (.int 6), .no, .no, .no] = .ret (.nx [.v (tT x.rows), .v x.book, .v (.int 6), .v x.grown, .no, .no])
  a3 : pcT (lendO [.v (tT x.rows), .v x.book, .v (.int 6), .v x.grown, .no, .no]) = .ret true
  a4 : m_picks_by_spans [x.book, .int 6] = .ret .non
  a5 : bOf (eBin (gCmp fun i j => decide (i < j)) (eCall gLen (aCons (eVar 0) aNil)) (eBin gSub (eBin gMul (eC (.int 2)) (eVar 2)) (eC (.int 1)))) (lendV [.v (tT x.rows), .v x.book, .v (.int 6), .v x.grown, .no, .no]) = .ret true
  a6 : (sDrop (eCall m_need_table (aCons (eVar 0) aNil))) [.v (tT x.rows)] = .ret (.nx [.v (tT x.rows)])
  a7 : (bAnd (bOf (eBin (gCmp fun i j => decide (j < i)) (eCall gLen (aCons (eBin gIx (eVar 0) (eC (.int 0))) aNil)) (eC (.int 6)))) (bOf (eBin (gCmp fun i j => decide (i < j)) (eCall gLen (aCons (eVar 0) aNil)) (eBin gSub (eBin gMul (eC (.int 2)) (eCall gLen (aCons (eBin gIx (eVar 0) (eC (.int 0))) aNil))) (eC (.int 1)))))) (lendO [.v (tT x.rows)]) = .ret false
theorem NoCut.of {x : Dial} (h : NoCut x) : m_cut_of [tT x.rows] = .ret .non := by
  rw [cut_of_is]
  refine run_rt ?_
  show sSeq pc1 _ [.v (tT x.rows), .no, .no, .no, .no, .no] = _
  rw [seq_det h.a1, seq_det h.a2]
  have e : pc3 [.v (tT x.rows), .v x.book, .v (.int 6), .v x.grown, .no, .no] = .ret (.nx [.v (tT x.rows), .v x.book, .v (.int 6), .v .non, .no, .no]) := by
    refine t_set (se := [.v (tT x.rows), .v x.book, .v (.int 6), .v x.grown, .no, .no]) ?_
    unfold eIf
    rw [h.a5]
    exact t_call2 (vr rfl) (vr rfl) h.a4
  have e2 : sIf pcT (sSeq pc3 sNil) sNil [.v (tT x.rows), .v x.book, .v (.int 6), .v x.grown, .no, .no] = .ret (.nx [.v (tT x.rows), .v x.book, .v (.int 6), .v .non, .no, .no]) := by
    rw [if_det h.a3]
    show sSeq pc3 sNil _ = _
    rw [seq_det e]
    rfl
  rw [seq_det e2]
  rfl
theorem NoCut.cut {x : Dial} (h : NoCut x) : m_cut [tT x.rows] = .ret .non := by
  refine run_rt ?_
  show sSeq _ _ [.v (tT x.rows)] = _
  rw [seq_det h.a6, seq_det ((if_det h.a7).trans rfl)]
  exact seq_rt (t_ret (t_call1 (vr rfl) h.of))
theorem noCut5 : NoCut dz5 := ⟨by kernel_rfl, by kernel_rfl, by kernel_rfl, picks_none wt5, by kernel_rfl, by kernel_rfl, by kernel_rfl⟩
theorem noCut6 : NoCut dz6 := ⟨by kernel_rfl, by kernel_rfl, by kernel_rfl, picks_none wt6, by kernel_rfl, by kernel_rfl, by kernel_rfl⟩
theorem noCut7 : NoCut dz7 := ⟨by kernel_rfl, by kernel_rfl, by kernel_rfl, picks_none wt7, by kernel_rfl, by kernel_rfl, by kernel_rfl⟩
/-- the first nine statements of a turn -/
structure Begun (x : Dial) : Prop where
  b2 : tn2 x.e1 = .ret (.nx x.e2)
  b3 : tn3 x.e2 = .ret (.nx x.e3)
  b4 : tn4 x.e3 = .ret (.nx x.e4)
  b5 : tn5 x.e4 = .ret (.nx x.e4)
  b6 : tn6 x.e4 = .ret (.nx x.e6)
  b7 : tn7 x.e6 = .ret (.nx x.e7)
  b8 : tn8 x.e7 = .ret (.nx x.e7)
  b9 : tn9 x.e7 = .ret (.nx x.e7)
theorem b7_of {x : Dial} {d : D} {b : Bool} (h : eVar 6 (lendV x.e6) = .ret (tT x.rows)) (hc : m_cut [tT x.rows] = .ret d) (hl : eBin gNe (eCall gLen (aCons (eVar 8) aNil)) (eC (.int 1)) (lendV x.e6) = .ret (.bl b)) : tn7 x.e6 = .ret (.nx ((x.e6.set 9 (.v d)).set 10 (.v (.bl b)))) := by
  unfold tn7 sPar pV
  rw [t_call1 h hc]
  show ((do let d ← eBin gNe _ _ _; let r ← pNil _; M.ret (Slot.v d :: r)) >>= fun r => M.ret (Slot.v _ :: r)) >>= _ = _
  rw [hl]
  rfl
theorem bg0 : Begun dz0 := ⟨by kernel_rfl, by kernel_rfl, by kernel_rfl, by kernel_rfl, by kernel_rfl, by kernel_rfl, by kernel_rfl, by kernel_rfl⟩
theorem bg1' : Begun dz1 := ⟨by kernel_rfl, by kernel_rfl, by kernel_rfl, by kernel_rfl, by kernel_rfl, by kernel_rfl, by kernel_rfl, by kernel_rfl⟩
theorem bg2' : Begun dz2 := ⟨by kernel_rfl, by kernel_rfl, by kernel_rfl, by kernel_rfl, by kernel_rfl, by kernel_rfl, by kernel_rfl, by kernel_rfl⟩
theorem bg3' : Begun dz3 := ⟨by kernel_rfl, by kernel_rfl, by kernel_rfl, by kernel_rfl, by kernel_rfl, by kernel_rfl, by kernel_rfl, by kernel_rfl⟩
theorem bg4' : Begun dz4 := ⟨by kernel_rfl, by kernel_rfl, by kernel_rfl, by kernel_rfl, by kernel_rfl, by kernel_rfl, by kernel_rfl, by kernel_rfl⟩
theorem bg5' : Begun dz5 := ⟨by kernel_rfl, by kernel_rfl, by kernel_rfl, by kernel_rfl, by kernel_rfl, b7_of rfl noCut5.cut (by kernel_rfl), by kernel_rfl, by kernel_rfl⟩
theorem bg6' : Begun dz6 := ⟨by kernel_rfl, by kernel_rfl, by kernel_rfl, by kernel_rfl, by kernel_rfl, b7_of rfl noCut6.cut (by kernel_rfl), by kernel_rfl, by kernel_rfl⟩
theorem bg7' : Begun dz7 := ⟨by kernel_rfl, by kernel_rfl, by kernel_rfl, by kernel_rfl, by kernel_rfl, b7_of rfl noCut7.cut (by kernel_rfl), by kernel_rfl, by kernel_rfl⟩
end Dv
end
section
set_option linter.all false
set_option maxRecDepth 100000
set_option maxHeartbeats 4000000
/-! V10: a whole turn, for any dial of which the facts are known. -/
namespace Dv
open PySem PySem.Spec PyProof.Rows L2 Evl Kept
theorem lendV_at {se : SEnv} {i : Nat} {d : D} (h : se[i]? = some (.v d)) : (lendV se)[i]? = some (some d) := by
  unfold lendV
  rw [List.getElem?_map, h]
  rfl
theorem lendO_at {se : SEnv} {i : Nat} {d : D} (h : se[i]? = some (.v d)) : (lendO se)[i]? = some (some d) := by
  unfold lendO
  rw [List.getElem?_map, h]
  rfl
theorem forget_at {i : Nat} : ∀ {is : List Nat} {se : SEnv}, i ∉ is → (forget is se)[i]? = se[i]?
  | [], se, _ => rfl
  | j :: r, se, h => by
    rw [List.mem_cons, not_or] at h
    show (forget r (se.set j .no))[i]? = _
    rw [forget_at h.2, List.getElem?_set_ne (fun e => h.1 e.symm)]
theorem forget_len : ∀ {is : List Nat} {se : SEnv}, (forget is se).length = se.length
  | [], se => rfl
  | j :: r, se => by
    show (forget r (se.set j .no)).length = _
    rw [forget_len, List.length_set]
theorem cn_at {se : SEnv} {i : Nat} (h : i ∉ fgI) (h7 : 7 ≠ i) : (cn se)[i]? = se[i]? := by
  unfold cn
  rw [forget_at h, List.getElem?_set_ne h7]
theorem cn_len {se : SEnv} : (cn se).length = se.length := by
  unfold cn
  rw [forget_len, List.length_set]
structure SomeCuts (x : Dial) : Prop where
  fd : isNon x.fd = false
  lots : m__law_all_cuts [tT x.rows] = .ret (.lst (x.cuts.map tI))
  enum : x.cuts.map (fun l => gDict [.lst (enumD (l.map D.int))]) = x.cuts.map fun l => .ret (zipP (R_ x.rows.length) l)
  len : (x.cuts.all fun l => Nat.ble l.length 50) = true
  some_ : 0 < x.cuts.length ∧ x.cuts.length ≤ 50
  found : resI x x.fd = some x.ec0
structure Facts (x : Dial) : Prop where
  bg : Begun x
  pb : PB x
  near : NearX x
  odd : (isNon x.fd = true ∧ NearNone x) ∨ ∃ kv f bk nm, NearSome x kv f bk nm
  lot : isNon x.fd = true ∨ SomeCuts x
  rng : eN (nRng (eCall gLen (aCons (eVar 3) aNil))) (lendV x.e7) = .ret (.lst ((R_ x.rows.length).map D.int))
  ord : ordB x.rows.length (R_ x.rows.length) = true
  cuts : x.cuts.map (fun l => resI x (.dic (zipP (R_ x.rows.length) l))) = x.cuts.map fun _ => some x.ec0
variable {x : Dial} {n : Nat}
theorem R_len (n : Nat) : (R_ n).length = n := by
  unfold R_
  simp
theorem Facts.item (F : Facts x) {l : List Int} (h : okL x l = true) : resI x (.dic (zipP (R_ x.rows.length) l)) = some x.ec0 := by
  have ol := okL_ord h
  have oR := ord_of F.ord
  have hl : (R_ x.rows.length).length = l.length := by rw [R_len, ol.len]
  unfold okL at h
  rw [Bool.and_eq_true, Bool.or_eq_true, Bool.not_eq_true'] at h
  rcases h.2 with h | h
  · have C := cutIn_of F.near.sq oR (f := lookI (R_ x.rows.length) l) fun k hk => look_in hk hl fun i hi => ol.in_ i hi
    rw [zip_kvF hl oR.nod]
    refine inner_no F.pb ?_ ?_
    · rw [law_cut_eq C, h]
    · rw [cuts_right_eq C, h]
  · exact List.map_inj_left.mp F.cuts l (List.contains_iff_mem.mp h)
def Dial.e11 (x : Dial) (dr : D) : SEnv := (x.e7.set 11 (.v dr)).set 12 (.v (.lst [dr]))
theorem tn10_wp (F : Facts x) {Q : Nat → Ctl → Prop} (hn : 6 ≤ n) (h : ∀ n' l, n ≤ n' + 6 → okL x l = true → Q n' (.nx (x.e7.set 11 (.v (.dic (zipP (R_ x.rows.length) l)))))) : WP (tn10 x.e7) n Q := by
  have oR := ord_of F.ord
  have v1 : eVar 1 (lendV x.e7) = .ret .st := rfl
  have d2 : eCall m__law_mixed (aCons (eVar 1) (aCons (eN (nRng (eCall gLen (aCons (eVar 3) aNil)))) aNil)) (lendV x.e7) = m__law_mixed [.st, .lst ((R_ x.rows.length).map D.int)] := t_call2 v1 F.rng rfl
  refine p_set (p_eD (p_nDict (p_one (p_eN ?_))))
  unfold nZipL
  refine p_bind (p_two (p_det F.rng (p_eq d2 ?_)))
  refine mixN_of F.near.mix hn fun n2 l a1 a2 hl => ?_
  have ol := okL_ord hl
  have hll : (R_ x.rows.length).length = l.length := by rw [R_len, ol.len]
  have few := F.near.pos
  have e : (seqs2 [.lst ((R_ x.rows.length).map D.int), .lst (l.map D.int)] >>= fun p => gd (Nat.ble (min p.1.length p.2.length) 1000) (M.ret (zipD p.1 p.2))) = .ret (zipD ((R_ x.rows.length).map D.int) (l.map D.int)) := by
    show gd (Nat.ble (min ((R_ x.rows.length).map D.int).length (l.map D.int).length) 1000) _ = _
    rw [Nat.ble_eq_true_of_le (by rw [List.length_map, List.length_map, R_len, ol.len]; omega)]
    rfl
  refine p_det e ?_
  refine p_det (gDict_zip oR.nod hll) ?_
  rw [← zip_kvF hll oR.nod]
  exact h _ _ a1 hl
theorem cn_e11 (x : Dial) (dr : D) : cn (x.e11 dr) = x.ec0 := by kernel_rfl
def lotT : EnvD → M Bool := bOf (eBin gIsNot (eVar 9) (eC .non))
def lotA : SEnv → M Ctl := sSet 13 (eCall m__law_all_cuts (aCons (eVar 6) aNil))
def lotB : SEnv → M Ctl := sSet 14 (eCall m__law_pick (aCons (eVar 1) (aCons (eVar 13) aNil)))
def lotE : EnvD → M D := eN (nLst (aCons (eVar 11) (aCons (eVar 9) (aCons (eD (nDict (aCons (eN (nEnumL (aCons (eVar 14) aNil))) aNil))) aNil))))
theorem tn12_is : tn12 = sIf lotT (sSeq lotA (sSeq lotB (sSeq (sSet 12 lotE) sNil))) sNil := rfl
theorem lotT_eq {x : Dial} {dr : D} : lotT (lendO (x.e11 dr)) = .ret (!isNon x.fd) := by
  have v9 : eVar 9 (lendO (x.e11 dr)) = .ret x.fd := rfl
  have e : eBin gIsNot (eVar 9) (eC .non) (lendO (x.e11 dr)) = .ret (.bl (!isNon x.fd)) := by
    refine t_bin (a := x.fd) (b := D.non) v9 rfl ?_
    cases x.fd <;> rfl
  exact t_of e
theorem cn_e12 (x : Dial) (dr a b c : D) : cn ((((x.e11 dr).set 13 (.v a)).set 14 (.v b)).set 12 (.v c)) = x.ec0 := by kernel_rfl
theorem tn12_wp (F : Facts x) {dr : D} (hd : resI x dr = some x.ec0) {Q : Nat → Ctl → Prop} (hn : 1 ≤ n) (h : ∀ n' se' items, n ≤ n' + 1 → cn se' = x.ec0 → se'[12]? = some (.v (.lst items)) → (∀ d ∈ items, resI x d = some x.ec0) → Q n' (.nx se')) : WP (tn12 (x.e11 dr)) n Q := by
  rw [tn12_is]
  refine p_eq (if_det lotT_eq) ?_
  rcases F.lot with h0 | S
  · rw [h0]
    refine p_det (a := Ctl.nx (x.e11 dr)) rfl (h n _ [dr] (by omega) (cn_e11 x dr) rfl fun d hd' => ?_)
    rw [List.mem_singleton] at hd'
    rw [hd']
    exact hd
  · rw [S.fd]
    show WP (sSeq lotA (sSeq lotB (sSeq (sSet 12 lotE) sNil)) (x.e11 dr)) n Q
    have v6 : eVar 6 (lendV (x.e11 dr)) = .ret (tT x.rows) := rfl
    have eA : lotA (x.e11 dr) = .ret (.nx ((x.e11 dr).set 13 (.v (.lst (x.cuts.map tI))))) := t_set (t_call1 v6 S.lots)
    refine p_nx (p_det eA ⟨_, rfl, ?_⟩)
    have v1 : eVar 1 (lendV ((x.e11 dr).set 13 (.v (.lst (x.cuts.map tI))))) = .ret .st := rfl
    have v13 : eVar 13 (lendV ((x.e11 dr).set 13 (.v (.lst (x.cuts.map tI))))) = .ret (.lst (x.cuts.map tI)) := rfl
    have sm := S.some_
    refine p_nx (p_set (p_pickL v1 v13 (by rw [List.length_map]; omega) (by rw [List.length_map]; omega) hn fun d' hd' => ⟨_, rfl, ?_⟩))
    obtain ⟨l, hl, rfl⟩ := List.mem_map.mp hd'
    have eE : lotE (lendV (((x.e11 dr).set 13 (.v (.lst (x.cuts.map tI)))).set 14 (.v (tI l)))) = .ret (.lst [dr, x.fd, .dic (zipP (R_ x.rows.length) l)]) := by
      have v11 : eVar 11 (lendV (((x.e11 dr).set 13 (.v (.lst (x.cuts.map tI)))).set 14 (.v (tI l)))) = .ret dr := rfl
      have v9 : eVar 9 (lendV (((x.e11 dr).set 13 (.v (.lst (x.cuts.map tI)))).set 14 (.v (tI l)))) = .ret x.fd := rfl
      have v14 : eVar 14 (lendV (((x.e11 dr).set 13 (.v (.lst (x.cuts.map tI)))).set 14 (.v (tI l)))) = .ret (tI l) := rfl
      have hlen := Nat.le_of_ble_eq_true (all_mem S.len hl)
      have eN_ : eN (nEnumL (aCons (eVar 14) aNil)) (lendV (((x.e11 dr).set 13 (.v (.lst (x.cuts.map tI)))).set 14 (.v (tI l)))) = .ret (.lst (enumD (l.map D.int))) := by
        refine t_n ?_
        unfold nEnumL
        rw [a_cons v14 rfl]
        show gd (Nat.ble (l.map D.int).length 1000) _ = _
        rw [Nat.ble_eq_true_of_le (by rw [List.length_map]; omega)]
        rfl
      have eD_ : eD (nDict (aCons (eN (nEnumL (aCons (eVar 14) aNil))) aNil)) (lendV (((x.e11 dr).set 13 (.v (.lst (x.cuts.map tI)))).set 14 (.v (tI l)))) = .ret (.dic (zipP (R_ x.rows.length) l)) := by
        unfold eD nDict
        rw [a_cons eN_ rfl]
        show (gDict [.lst (enumD (l.map D.int))] >>= _) = _
        rw [List.map_inj_left.mp S.enum l hl]
        rfl
      exact t_n (n_lst (a_cons v11 (a_cons v9 (a_cons eD_ rfl))) (by simp))
    refine p_nx (p_det (t_set eE) ⟨_, rfl, ?_⟩)
    refine p_det (a := Ctl.nx _) rfl (h _ _ [dr, x.fd, .dic (zipP (R_ x.rows.length) l)] (by omega) (cn_e12 _ _ _ _ _) rfl fun d hd2 => ?_)
    simp only [List.mem_cons, List.not_mem_nil, or_false] at hd2
    rcases hd2 with rfl | rfl | rfl
    · exact hd
    · exact S.found
    · exact List.map_inj_left.mp F.cuts l hl
theorem tn13_eq {se : SEnv} {items : List D} (hc : cn se = x.ec0) (h12 : se[12]? = some (.v (.lst items))) (hi : ∀ d ∈ items, resI x d = some x.ec0) : ∃ se', tn13 se = .ret (.nx se') ∧ cn se' = x.ec0 := by
  obtain ⟨se', e, hc'⟩ := goFor_inv (tg := .one 7) (g := m_inner) (ds := items) (P := fun _ se => cn se = x.ec0) hc fun i d hd se q => by
    obtain ⟨se2, e2, q2⟩ := resI_of (hi d (List.mem_of_getElem? hd)) q
    exact ⟨_, _, rfl, e2, q2⟩
  refine ⟨se', ?_, hc'⟩
  show (iOf (eVar 12) (lendV se) >>= fun ds => goFor (.one 7) m_inner ds se) = _
  have v : iOf (eVar 12) (lendV se) = .ret items := by
    unfold iOf
    rw [vr (lendV_at h12)]
    rfl
  rw [v]
  exact e
def badB (d : D) : Bool := match m_need_dialsE [d] with
  | .err 1 => true
  | _ => false
theorem badB_of {d : D} (h : badB d = true) : m_need_dialsE [d] = .err 1 := by
  unfold badB at h
  split at h
  · assumption
  · cases h
theorem bad_all : outM badB 1 (m__law_bad_dials [.st]) = true := by kernel_rfl
theorem tn14_wp (F : Facts x) {se : SEnv} (hc : cn se = x.ec0) {Q : Nat → Ctl → Prop} (hn : 40 ≤ n) (h : ∀ n' w o, n ≤ n' + 30 → m_need_dialsE [w] = .err 1 → okOdd x o → Q n' (.nx ((se.set 27 (.v w)).set 26 (.v o)))) : WP (tn14 se) n Q := by
  have s1 : se[1]? = some (.v .st) := by rw [← cn_at (by decide) (by decide), hc]; rfl
  have s6 : se[6]? = some (.v (tT x.rows)) := by rw [← cn_at (by decide) (by decide), hc]; rfl
  have s9 : se[9]? = some (.v x.fd) := by rw [← cn_at (by decide) (by decide), hc]; rfl
  have v1 := vr (lendV_at s1)
  have v6 := vr (lendV_at s6)
  have v9 := vr (lendV_at s9)
  unfold tn14 sPar pV
  refine p_bind (p_bind (p_eq (t_call1 v1 rfl) (p_out bad_all (by omega) fun n1 w h1 h2 hw => p_bind (p_bind (p_eq (t_call3 v1 v6 v9 rfl) ?_)))))
  have fin : ∀ n' d, n1 ≤ n' + 20 → okOdd x d → Q n' (.nx ((se.set 27 (.v w)).set 26 (.v d))) := fun n' d hk hd => h n' w d (by omega) (badB_of hw) hd
  rcases F.odd with ⟨h0, hB⟩ | ⟨kv, f, bk, nm, S⟩
  · exact near_none F.near h0 hB (by omega) fun n' d hk hd => p_det (a := [Slot.v d]) rfl (p_det (a := [Slot.v w, Slot.v d]) rfl (p_det (a := Ctl.nx ((se.set 27 (.v w)).set 26 (.v d))) rfl (fin n' d hk hd)))
  · exact near_some F.near S (by omega) fun n' d hk hd => p_det (a := [Slot.v d]) rfl (p_det (a := [Slot.v w, Slot.v d]) rfl (p_det (a := Ctl.nx ((se.set 27 (.v w)).set 26 (.v d))) rfl (fin n' d hk hd)))
theorem tn15_eq {se : SEnv} {w o : D} (h27 : se[27]? = some (.v w)) (h26 : se[26]? = some (.v o)) (hw : m_need_dialsE [w] = .err 1) : tn15 se = .ret (.nx se) := by
  have T : (bNot (bOf (eCaught 1 m_parting_byE (aCons (eVar 27) (aCons (eVar 26) aNil))))) (lendO se) = .ret false := t_not (x := true) (t_of (caught_of (c := 1) (vr (lendO_at h27)) (vr (lendO_at h26)) (bad_dials hw) (.inl rfl)))
  unfold tn15
  rw [if_det T]
  rfl
theorem tn16_eq (F : Facts x) {se : SEnv} {o : D} (h6 : se[6]? = some (.v (tT x.rows))) (h25 : se[25]? = some (.v (tI x.dl))) (h26 : se[26]? = some (.v o)) (ho : okOdd x o) : tn16 se = .ret (.nx se) := by
  obtain ⟨b, e1, e2⟩ := ho
  have T : (bAnd (bNot (bOf (eCall m__law_is_cut (aCons (eVar 6) (aCons (eVar 26) aNil))))) (bNot (bOf (eCaught 2 m_parting_byE (aCons (eVar 25) (aCons (eVar 26) aNil)))))) (lendO se) = .ret (!b && false) := by
    refine t_band (x := !b) (y := false) (t_not (t_of (t_call2 (vr (lendO_at h6)) (vr (lendO_at h26)) e1))) fun hb => ?_
    exact t_not (x := true) (t_of (caught_of (c := 2) (vr (lendO_at h25)) (vr (lendO_at h26)) (bad_cut F.pb (e2 (by cases b <;> simp_all))) (.inr rfl)))
  rw [Bool.and_false] at T
  unfold tn16
  rw [if_det T]
  rfl
theorem turn_from (F : Facts x) {Q : Nat → Ctl → Prop} (hn : 60 ≤ n) (h : ∀ n' se', n ≤ n' + 50 → se'.length = 31 → se'[1]? = some (.v .st) → Q n' (.nx se')) : WP (sSeq tn2 (sSeq tn3 (sSeq tn4 (sSeq tn5 (sSeq tn6 (sSeq tn7 (sSeq tn8 (sSeq tn9 (sSeq tn10 (sSeq tn11 (sSeq tn12 (sSeq tn13 (sSeq tn14 (sSeq tn15 (sSeq tn16 sNil)))))))))))))) x.e1) n Q := by
  have B := F.bg
  refine p_nx (p_det B.b2 ⟨_, rfl, ?_⟩)
  refine p_nx (p_det B.b3 ⟨_, rfl, ?_⟩)
  refine p_nx (p_det B.b4 ⟨_, rfl, ?_⟩)
  refine p_nx (p_det B.b5 ⟨_, rfl, ?_⟩)
  refine p_nx (p_det B.b6 ⟨_, rfl, ?_⟩)
  refine p_nx (p_det B.b7 ⟨_, rfl, ?_⟩)
  refine p_nx (p_det B.b8 ⟨_, rfl, ?_⟩)
  refine p_nx (p_det B.b9 ⟨_, rfl, ?_⟩)
  refine p_nx (tn10_wp F (by omega) fun n2 l h2 hl => ⟨_, rfl, ?_⟩)
  have v11 : eVar 11 (lendV (x.e7.set 11 (.v (.dic (zipP (R_ x.rows.length) l))))) = .ret (.dic (zipP (R_ x.rows.length) l)) := rfl
  have e11 : tn11 (x.e7.set 11 (.v (.dic (zipP (R_ x.rows.length) l)))) = .ret (.nx (x.e11 (.dic (zipP (R_ x.rows.length) l)))) := t_set (t_n (n_lst (a_cons v11 rfl) (by simp)))
  refine p_nx (p_det e11 ⟨_, rfl, ?_⟩)
  refine p_nx (tn12_wp F (F.item hl) (by omega) fun n3 se3 items h3 c3 i3 r3 => ⟨_, rfl, ?_⟩)
  obtain ⟨se4, e4, c4⟩ := tn13_eq c3 i3 r3
  refine p_nx (p_det e4 ⟨_, rfl, ?_⟩)
  refine p_nx (tn14_wp F c4 (by omega) fun n5 w o h5 hw ho => ⟨_, rfl, ?_⟩)
  have l4 : se4.length = 31 := by rw [← cn_len, c4]; rfl
  have s1 : se4[1]? = some (.v .st) := by rw [← cn_at (by decide) (by decide), c4]; rfl
  have s6 : se4[6]? = some (.v (tT x.rows)) := by rw [← cn_at (by decide) (by decide), c4]; rfl
  have s25 : se4[25]? = some (.v (tI x.dl)) := by rw [← cn_at (by decide) (by decide), c4]; rfl
  have z26 : ((se4.set 27 (.v w)).set 26 (.v o))[26]? = some (.v o) := List.getElem?_set_self (by rw [List.length_set]; omega)
  have z27 : ((se4.set 27 (.v w)).set 26 (.v o))[27]? = some (.v w) := by
    rw [List.getElem?_set_ne (by decide)]
    exact List.getElem?_set_self (by omega)
  have old : ∀ i, 26 ≠ i → 27 ≠ i → ((se4.set 27 (.v w)).set 26 (.v o))[i]? = se4[i]? := fun i a b => by
    rw [List.getElem?_set_ne a, List.getElem?_set_ne b]
  refine p_nx (p_det (tn15_eq z27 z26 hw) ⟨_, rfl, ?_⟩)
  refine p_nx (p_det (tn16_eq F ((old 6 (by decide) (by decide)).trans s6) ((old 25 (by decide) (by decide)).trans s25) z26 ho) ⟨_, rfl, ?_⟩)
  exact p_det (a := Ctl.nx _) rfl (h _ _ (by omega) (by rw [List.length_set, List.length_set]; exact l4) ((old 1 (by decide) (by decide)).trans s1))
end Dv
end
section
set_option linter.all false
set_option maxRecDepth 100000
set_option maxHeartbeats 4000000
/-! V7: every drawn order, looked at. -/
namespace Dv
open PySem PySem.Spec PyProof.Rows L2 Evl Kept
theorem mx0 : outM (okLD dz0) 6 (mxE dz0) = true := by kernel_rfl
theorem mx1 : outM (okLD dz1) 6 (mxE dz1) = true := by kernel_rfl
theorem mx2 : outM (okLD dz2) 6 (mxE dz2) = true := by kernel_rfl
theorem mx3 : outM (okLD dz3) 6 (mxE dz3) = true := by kernel_rfl
theorem mx4 : outM (okLD dz4) 6 (mxE dz4) = true := by kernel_rfl
theorem mx5 : outM (okLD dz5) 6 (mxE dz5) = true := by kernel_rfl
theorem mx6 : outM (okLD dz6) 6 (mxE dz6) = true := by kernel_rfl
theorem mx7 : outM (okLD dz7) 6 (mxE dz7) = true := by kernel_rfl
end Dv
end
section
set_option linter.all false
set_option maxRecDepth 100000
set_option maxHeartbeats 4000000
/-! V11: the facts of the eight dials. Printed by gen_x.py. -/
namespace Dv
open PySem PySem.Spec PyProof.Rows L2 Evl Kept
theorem pb_0 : PB dz0 := ⟨fun d => by kernel_rfl, fun d => by kernel_rfl, fun d => by kernel_rfl⟩
theorem nx_0 : NearX dz0 := ⟨by kernel_rfl, mx0, fun a2 a3 a4 => by kernel_rfl, fun a2 a3 a4 => by kernel_rfl, by kernel_rfl⟩
theorem nn_0 : NearNone dz0 := ⟨by kernel_rfl, by kernel_rfl, by kernel_rfl, by kernel_rfl⟩
theorem fc_0 : Facts dz0 := ⟨bg0, pb_0, nx_0, .inl ⟨by kernel_rfl, nn_0⟩, .inl (by kernel_rfl), by kernel_rfl, by kernel_rfl, by kernel_rfl⟩
theorem pb_1 : PB dz1 := ⟨fun d => by kernel_rfl, fun d => by kernel_rfl, fun d => by kernel_rfl⟩
theorem nx_1 : NearX dz1 := ⟨by kernel_rfl, mx1, fun a2 a3 a4 => by kernel_rfl, fun a2 a3 a4 => by kernel_rfl, by kernel_rfl⟩
def bk_1 : D := getM (ncBack (lendV (nqs dz1 (zipP (R_ dz1.rows.length) [0, 1, 2]) 0 0 .non .no .no .no .no .no .no .no)))
def nm_1 : D := getM (ncName (lendV (nqs dz1 (zipP (R_ dz1.rows.length) [0, 1, 2]) 0 0 .non .no .no .no .no .no .no .no)))
theorem ns_1 : NearSome dz1 (zipP (R_ dz1.rows.length) [0, 1, 2]) (lookI (R_ dz1.rows.length) [0, 1, 2]) bk_1 nm_1 where
  fd := by kernel_rfl
  few := by decide
  got := fun i hi => by
    have e : ((R_ dz1.rows.length).map fun i => lookD (zipP (R_ dz1.rows.length) [0, 1, 2]) i) = (R_ dz1.rows.length).map fun i => some (.int ((lookI (R_ dz1.rows.length) [0, 1, 2]) i)) := by kernel_rfl
    exact List.map_inj_left.mp e i hi
  has := fun i hi => by
    have e : ((R_ dz1.rows.length).map fun i => hasD (zipP (R_ dz1.rows.length) [0, 1, 2]) i) = (R_ dz1.rows.length).map fun _ => true := by kernel_rfl
    exact List.map_inj_left.mp e i hi
  srt := fun env h => t_call1 (vr h) (by kernel_rfl)
  back := fun r c d a6 a7 a8 a9 a10 a11 a12 => by kernel_rfl
  name := fun r c d a6 a7 a8 a9 a10 a11 a12 => by kernel_rfl
  len2 := fun env h => t_call1 (t_bin (vr h) (show _ = M.ret (D.int 0) from rfl) (show gIx (tT dz1.rows) (.int 0) = .ret (tI (dz1.rows.getD 0 [])) by kernel_rfl)) (by kernel_rfl)
  b1 := by kernel_rfl
  b2 := by kernel_rfl
  b3 := by kernel_rfl
  b4 := by kernel_rfl
  b5 := by kernel_rfl
  b6 := by kernel_rfl
  less := by kernel_rfl
  more := by kernel_rfl
  bent := by kernel_rfl
  moved := by kernel_rfl
theorem sc_1 : SomeCuts dz1 := ⟨by kernel_rfl, by kernel_rfl, by kernel_rfl, by kernel_rfl, by decide, by kernel_rfl⟩
theorem cu_1 : dz1.cuts.map (fun l => resI dz1 (.dic (zipP (R_ dz1.rows.length) l))) = dz1.cuts.map fun _ => some dz1.ec0 := by kernel_rfl
theorem fc_1 : Facts dz1 := ⟨bg1', pb_1, nx_1, .inr ⟨_, _, _, _, ns_1⟩, .inr sc_1, by kernel_rfl, by kernel_rfl, cu_1⟩
theorem pb_2 : PB dz2 := ⟨fun d => by kernel_rfl, fun d => by kernel_rfl, fun d => by kernel_rfl⟩
theorem nx_2 : NearX dz2 := ⟨by kernel_rfl, mx2, fun a2 a3 a4 => by kernel_rfl, fun a2 a3 a4 => by kernel_rfl, by kernel_rfl⟩
theorem nn_2 : NearNone dz2 := ⟨by kernel_rfl, by kernel_rfl, by kernel_rfl, by kernel_rfl⟩
theorem fc_2 : Facts dz2 := ⟨bg2', pb_2, nx_2, .inl ⟨by kernel_rfl, nn_2⟩, .inl (by kernel_rfl), by kernel_rfl, by kernel_rfl, by kernel_rfl⟩
theorem pb_3 : PB dz3 := ⟨fun d => by kernel_rfl, fun d => by kernel_rfl, fun d => by kernel_rfl⟩
theorem nx_3 : NearX dz3 := ⟨by kernel_rfl, mx3, fun a2 a3 a4 => by kernel_rfl, fun a2 a3 a4 => by kernel_rfl, by kernel_rfl⟩
def bk_3 : D := getM (ncBack (lendV (nqs dz3 (zipP (R_ dz3.rows.length) [0, 2, 3, 1]) 0 0 .non .no .no .no .no .no .no .no)))
def nm_3 : D := getM (ncName (lendV (nqs dz3 (zipP (R_ dz3.rows.length) [0, 2, 3, 1]) 0 0 .non .no .no .no .no .no .no .no)))
theorem ns_3 : NearSome dz3 (zipP (R_ dz3.rows.length) [0, 2, 3, 1]) (lookI (R_ dz3.rows.length) [0, 2, 3, 1]) bk_3 nm_3 where
  fd := by kernel_rfl
  few := by decide
  got := fun i hi => by
    have e : ((R_ dz3.rows.length).map fun i => lookD (zipP (R_ dz3.rows.length) [0, 2, 3, 1]) i) = (R_ dz3.rows.length).map fun i => some (.int ((lookI (R_ dz3.rows.length) [0, 2, 3, 1]) i)) := by kernel_rfl
    exact List.map_inj_left.mp e i hi
  has := fun i hi => by
    have e : ((R_ dz3.rows.length).map fun i => hasD (zipP (R_ dz3.rows.length) [0, 2, 3, 1]) i) = (R_ dz3.rows.length).map fun _ => true := by kernel_rfl
    exact List.map_inj_left.mp e i hi
  srt := fun env h => t_call1 (vr h) (by kernel_rfl)
  back := fun r c d a6 a7 a8 a9 a10 a11 a12 => by kernel_rfl
  name := fun r c d a6 a7 a8 a9 a10 a11 a12 => by kernel_rfl
  len2 := fun env h => t_call1 (t_bin (vr h) (show _ = M.ret (D.int 0) from rfl) (show gIx (tT dz3.rows) (.int 0) = .ret (tI (dz3.rows.getD 0 [])) by kernel_rfl)) (by kernel_rfl)
  b1 := by kernel_rfl
  b2 := by kernel_rfl
  b3 := by kernel_rfl
  b4 := by kernel_rfl
  b5 := by kernel_rfl
  b6 := by kernel_rfl
  less := by kernel_rfl
  more := by kernel_rfl
  bent := by kernel_rfl
  moved := by kernel_rfl
theorem sc_3 : SomeCuts dz3 := ⟨by kernel_rfl, by kernel_rfl, by kernel_rfl, by kernel_rfl, by decide, by kernel_rfl⟩
theorem cu_3 : dz3.cuts.map (fun l => resI dz3 (.dic (zipP (R_ dz3.rows.length) l))) = dz3.cuts.map fun _ => some dz3.ec0 := by kernel_rfl
theorem fc_3 : Facts dz3 := ⟨bg3', pb_3, nx_3, .inr ⟨_, _, _, _, ns_3⟩, .inr sc_3, by kernel_rfl, by kernel_rfl, cu_3⟩
theorem pb_4 : PB dz4 := ⟨fun d => by kernel_rfl, fun d => by kernel_rfl, fun d => by kernel_rfl⟩
theorem nx_4 : NearX dz4 := ⟨by kernel_rfl, mx4, fun a2 a3 a4 => by kernel_rfl, fun a2 a3 a4 => by kernel_rfl, by kernel_rfl⟩
def bk_4 : D := getM (ncBack (lendV (nqs dz4 (zipP (R_ dz4.rows.length) [0, 1, 2, 3, 4]) 0 0 .non .no .no .no .no .no .no .no)))
def nm_4 : D := getM (ncName (lendV (nqs dz4 (zipP (R_ dz4.rows.length) [0, 1, 2, 3, 4]) 0 0 .non .no .no .no .no .no .no .no)))
theorem ns_4 : NearSome dz4 (zipP (R_ dz4.rows.length) [0, 1, 2, 3, 4]) (lookI (R_ dz4.rows.length) [0, 1, 2, 3, 4]) bk_4 nm_4 where
  fd := by kernel_rfl
  few := by decide
  got := fun i hi => by
    have e : ((R_ dz4.rows.length).map fun i => lookD (zipP (R_ dz4.rows.length) [0, 1, 2, 3, 4]) i) = (R_ dz4.rows.length).map fun i => some (.int ((lookI (R_ dz4.rows.length) [0, 1, 2, 3, 4]) i)) := by kernel_rfl
    exact List.map_inj_left.mp e i hi
  has := fun i hi => by
    have e : ((R_ dz4.rows.length).map fun i => hasD (zipP (R_ dz4.rows.length) [0, 1, 2, 3, 4]) i) = (R_ dz4.rows.length).map fun _ => true := by kernel_rfl
    exact List.map_inj_left.mp e i hi
  srt := fun env h => t_call1 (vr h) (by kernel_rfl)
  back := fun r c d a6 a7 a8 a9 a10 a11 a12 => by kernel_rfl
  name := fun r c d a6 a7 a8 a9 a10 a11 a12 => by kernel_rfl
  len2 := fun env h => t_call1 (t_bin (vr h) (show _ = M.ret (D.int 0) from rfl) (show gIx (tT dz4.rows) (.int 0) = .ret (tI (dz4.rows.getD 0 [])) by kernel_rfl)) (by kernel_rfl)
  b1 := by kernel_rfl
  b2 := by kernel_rfl
  b3 := by kernel_rfl
  b4 := by kernel_rfl
  b5 := by kernel_rfl
  b6 := by kernel_rfl
  less := by kernel_rfl
  more := by kernel_rfl
  bent := by kernel_rfl
  moved := by kernel_rfl
theorem sc_4 : SomeCuts dz4 := ⟨by kernel_rfl, by kernel_rfl, by kernel_rfl, by kernel_rfl, by decide, by kernel_rfl⟩
theorem cu_4 : dz4.cuts.map (fun l => resI dz4 (.dic (zipP (R_ dz4.rows.length) l))) = dz4.cuts.map fun _ => some dz4.ec0 := by kernel_rfl
theorem fc_4 : Facts dz4 := ⟨bg4', pb_4, nx_4, .inr ⟨_, _, _, _, ns_4⟩, .inr sc_4, by kernel_rfl, by kernel_rfl, cu_4⟩
theorem pb_5 : PB dz5 := ⟨fun d => by kernel_rfl, fun d => by kernel_rfl, fun d => by kernel_rfl⟩
theorem nx_5 : NearX dz5 := ⟨by kernel_rfl, mx5, fun a2 a3 a4 => by kernel_rfl, fun a2 a3 a4 => by kernel_rfl, by kernel_rfl⟩
theorem nn_5 : NearNone dz5 := ⟨by kernel_rfl, by kernel_rfl, by kernel_rfl, by kernel_rfl⟩
theorem fc_5 : Facts dz5 := ⟨bg5', pb_5, nx_5, .inl ⟨by kernel_rfl, nn_5⟩, .inl (by kernel_rfl), by kernel_rfl, by kernel_rfl, by kernel_rfl⟩
theorem pb_6 : PB dz6 := ⟨fun d => by kernel_rfl, fun d => by kernel_rfl, fun d => by kernel_rfl⟩
theorem nx_6 : NearX dz6 := ⟨by kernel_rfl, mx6, fun a2 a3 a4 => by kernel_rfl, fun a2 a3 a4 => by kernel_rfl, by kernel_rfl⟩
theorem nn_6 : NearNone dz6 := ⟨by kernel_rfl, by kernel_rfl, by kernel_rfl, by kernel_rfl⟩
theorem fc_6 : Facts dz6 := ⟨bg6', pb_6, nx_6, .inl ⟨by kernel_rfl, nn_6⟩, .inl (by kernel_rfl), by kernel_rfl, by kernel_rfl, by kernel_rfl⟩
theorem pb_7 : PB dz7 := ⟨fun d => by kernel_rfl, fun d => by kernel_rfl, fun d => by kernel_rfl⟩
theorem nx_7 : NearX dz7 := ⟨by kernel_rfl, mx7, fun a2 a3 a4 => by kernel_rfl, fun a2 a3 a4 => by kernel_rfl, by kernel_rfl⟩
theorem nn_7 : NearNone dz7 := ⟨by kernel_rfl, by kernel_rfl, by kernel_rfl, by kernel_rfl⟩
theorem fc_7 : Facts dz7 := ⟨bg7', pb_7, nx_7, .inl ⟨by kernel_rfl, nn_7⟩, .inl (by kernel_rfl), by kernel_rfl, by kernel_rfl, by kernel_rfl⟩
theorem facts_all : ∀ x ∈ dials8, Facts x := fun x hx => by
  simp only [dials8, List.mem_cons, List.not_mem_nil, or_false] at hx
  rcases hx with rfl | rfl | rfl | rfl | rfl | rfl | rfl | rfl
  · exact fc_0
  · exact fc_1
  · exact fc_2
  · exact fc_3
  · exact fc_4
  · exact fc_5
  · exact fc_6
  · exact fc_7
end Dv
end
section
set_option linter.all false
set_option maxRecDepth 100000
set_option maxHeartbeats 400000
/-! V12: a turn, whatever is drawn. -/
namespace Dv
open PySem PySem.Spec PyProof.Rows L2 Evl Kept
def dlB (d : D) : Bool := match d with
  | .tup ds => match allI ds with
    | some l => dials8.any fun x => x.dl == l
    | none => false
  | _ => false
theorem dlB_of {d : D} (h : dlB d = true) : ∃ x ∈ dials8, d = tI x.dl := by
  unfold dlB at h
  split at h
  · split at h
    · rename_i ds l e
      obtain ⟨x, hx, ex⟩ := List.any_eq_true.mp h
      exact ⟨x, hx, by rw [allI_eq e, ← eq_of_beq ex]; rfl⟩
    · cases h
  · cases h
theorem dials_all : outM dlB 1 (m__law_dials [.st, .int 6]) = true := by kernel_rfl
def fgT : List Nat := [0, 2, 3, 4, 5, 6, 7, 8, 9, 10, 11, 12, 13, 14, 15, 16, 17, 18, 19, 20, 21, 22, 23, 24, 25, 26, 27, 28, 29, 30]
theorem forget_no {i : Nat} : ∀ {is : List Nat} {se : SEnv}, i ∈ is → i < se.length → (forget is se)[i]? = some .no
  | j :: r, se, h, hl => by
    show (forget r (se.set j .no))[i]? = _
    by_cases hr : i ∈ r
    · exact forget_no hr (by rw [List.length_set]; exact hl)
    · rcases List.mem_cons.mp h with rfl | h
      · rw [forget_at hr, List.getElem?_set_self hl]
      · exact absurd h hr
theorem se0_no : (fgT.map fun i => se0[i]?) = fgT.map fun _ => some Slot.no := by kernel_rfl
theorem fgT_all : ∀ i, i < 31 → i = 1 ∨ i ∈ fgT := by decide
theorem fresh {se : SEnv} (hl : se.length = 31) (h1 : se[1]? = some (.v .st)) : forget fgT se = se0 := by
  refine List.ext_getElem? fun i => ?_
  by_cases hi : i < 31
  · rcases fgT_all i hi with rfl | hm
    · rw [forget_at (by decide), h1]
      rfl
    · rw [forget_no hm (by omega)]
      exact (List.map_inj_left.mp se0_no i hm).symm
  · have l0 : se0.length = 31 := by kernel_rfl
    rw [List.getElem?_eq_none (by rw [forget_len]; omega), List.getElem?_eq_none (by omega)]
def okEnd (n : Nat) : Nat → Ctl → Prop := fun n' c => ∃ se', c = .nx se' ∧ se'.length = 31 ∧ se'[1]? = some (.v .st) ∧ n ≤ n' + 60
def restT : SEnv → M Ctl := sSeq tn2 (sSeq tn3 (sSeq tn4 (sSeq tn5 (sSeq tn6 (sSeq tn7 (sSeq tn8 (sSeq tn9 (sSeq tn10 (sSeq tn11 (sSeq tn12 (sSeq tn13 (sSeq tn14 (sSeq tn15 (sSeq tn16 sNil))))))))))))))
theorem turn_is2 : m_turn = sFg fgT (sSeq tn1 restT) := turn_is
theorem turn_one {x : Dial} (hx : x ∈ dials8) {n1 n : Nat} (hn : 60 ≤ n1) (h : n ≤ n1 + 1) : WP (restT x.e1) n1 (okEnd n) := by
  refine turn_from (facts_all x hx) hn fun n' se' h3 h4 h5 => ?_
  exact ⟨se', rfl, h4, h5, by omega⟩
theorem turn_dl {d : D} (hd : dlB d = true) {n1 n : Nat} (hn : 60 ≤ n1) (h : n ≤ n1 + 1) : WP (restT (se0.set 25 (.v d))) n1 (okEnd n) := by
  obtain ⟨x, hx, e⟩ := dlB_of hd
  rw [e]
  exact turn_one hx hn h
theorem tn1_wp {n : Nat} {Q : Nat → Ctl → Prop} (hn : 1 ≤ n) (h : ∀ n1 d, n ≤ n1 + 1 → dlB d = true → Q n1 (.nx (se0.set 25 (.v d)))) : WP (tn1 se0) n Q := by
  have v1 : eVar 1 (lendV se0) = .ret .st := by kernel_rfl
  have e : eCall m__law_dials (aCons (eVar 1) (aCons (eC (.int 6)) aNil)) (lendV se0) = m__law_dials [.st, .int 6] := t_call2 v1 (show _ = M.ret (D.int 6) from rfl) rfl
  exact p_set (p_eq e (p_out dials_all hn fun n1 d h1 h2 hd => h n1 d h1 hd))
theorem turn_se0 {n : Nat} (hn : 70 ≤ n) : WP (sSeq tn1 restT se0) n (okEnd n) :=
  p_nx (tn1_wp (by omega) fun n1 d h1 hd => ⟨_, rfl, turn_dl hd (by omega) h1⟩)
theorem turn_WP {se : SEnv} (hl : se.length = 31) (h1 : se[1]? = some (.v .st)) {n : Nat} (hn : 70 ≤ n) : WP (m_turn se) n (okEnd n) := by
  rw [turn_is2]
  have e : sFg fgT (sSeq tn1 restT) se = sSeq tn1 restT se0 := by
    show sSeq tn1 restT (forget fgT se) = _
    rw [fresh hl h1]
  exact p_eq e (turn_se0 hn)
end Dv
end
section
set_option linter.all false
set_option maxRecDepth 100000
set_option maxHeartbeats 4000000
/-! S2: the draws' state is made. -/
namespace Dv
open PySem PySem.Spec PyProof.Rows L2 Evl
theorem sc_begun : FnScope ["_law_script", "_law_cells_here", "_law_large", ".0", "_law_cell"] ["_law_script"] (defScope (top 70)) := ⟨rfl, rfl, rfl, by decide +kernel, rfl, by decide +kernel, by decide +kernel⟩
def absI (n : Int) : Int := if n < 0 then -n else n
theorem absI_nn (n : Int) : 0 ≤ absI n := by
  unfold absI
  split <;> omega
def bigI : Int := (10 : Int) ^ (18 : Int).toNat
def largeI (ns : List Int) : List Int := (ns.filter fun n => decide (bigI ≤ n)).map fun n => n - bigI
theorem largeI_nn {ns : List Int} : ∀ i ∈ largeI ns, 0 ≤ i := fun i hi => by
  obtain ⟨n, hn, rfl⟩ := List.mem_map.mp hi
  have := of_decide_eq_true (List.mem_filter.mp hn).2
  omega
theorem largeI_len (ns : List Int) : (largeI ns).length ≤ ns.length := by
  unfold largeI
  rw [List.length_map]
  exact List.length_filter_le _ _
theorem largeI_snoc (ns : List Int) (n : Int) : largeI (ns ++ [n]) = if decide (bigI ≤ n) = true then largeI ns ++ [n - bigI] else largeI ns := by
  unfold largeI
  rw [List.filter_append, List.map_append]
  by_cases h : bigI ≤ n
  · simp [h]
  · simp [h]
def spBegun (K : PySem.W.Frag) : Sp := fun vs H Q _ => ∃ (a : Addr) (ns : List Int), vs = [.ref a] ∧ SqL K H a (ns.map V.int) ∧ ns.length ≤ 1000 ∧
  ∀ (p l c : Addr) (ls cs : List Int) (H' : Hp), Ex H H' → H p = none → H l = none → H c = none → H' p = some (.dK (stKvs l c 0 0)) → H' l = some (.lst (ls.map V.int)) → H' c = some (.lst (cs.map V.int)) → l ≠ c → (∀ i ∈ ls, 0 ≤ i) → cs.length ≤ 1000 → ls.length ≤ 1000 → Q (.ref p) H'
section
variable {P : Program} {w : World} {K : PySem.W.Frag} {mg : Str → Option Value} {base : Heap}
theorem d__law_begun (T : Txt mg) {f : Addr} {fd : FuncData} (F : Fun K "_law_begun" "_law_begun" (top 70) f fd) : FnOk P w K mg base CX0 1 f fd ["_law_script"] (spBegun K) := by
  refine F.ok sc_begun (fun vs H Q E h => by obtain ⟨a, ns, rfl, _⟩ := h; rfl) (fun cdv A outer s H vs Q E hr hq => ?_)
  have nd := sc_begun.nd
  refine ⟨_, pss_cons (ps_setLc (own := [(".0", 3), ("_law_cell", 4)]) (i := 1) rfl nd rfl (by rfl) (by rfl) (pi_list (pv 0)) (blkOk_by (by rfl)) (fun _ _ _ _ _ => pg_name (i := 4) nd rfl (Or.inl rfl)) (fun _ _ _ _ _ => pts_nil) (fun _ _ _ _ _ => pe_callB call_abs (by rfl) T.abs boot_abs (pa_cons (pv 4) pa_nil)))
    (pss_cons (ps_setLc (own := [(".0", 3), ("_law_cell", 4)]) (i := 2) rfl nd rfl (by rfl) (by rfl) (pi_list (pv 1)) (blkOk_by (by rfl)) (fun _ _ _ _ _ => pg_name (i := 4) nd rfl (Or.inl rfl)) (fun _ _ _ _ _ => pts_one (pt_cmpR op_ge (pv 4) (pe_op op_pow pe_int pe_int) (nomark _))) (fun _ _ _ _ _ => pe_op op_sub (pv 4) (pe_op op_pow pe_int pe_int)))
      (pss_one (ps_ret (pe_disp (pps_cons pe_str (pv 2) (pps_cons pe_str (pv 1) (pps_cons pe_str pe_int (pps_cons pe_str pe_int pps_nil)))) (by rfl) (by rfl) (by simp) (by decide))))), ?_⟩
  obtain ⟨a, ns, rfl, hs, hlen, hq⟩ := hq
  refine ⟨.ref a, rfl, a, rfl, ⟨_, hs⟩, fun D1 hD1 => lc_list (K := K) (xs := ns.map V.int) (fun i H' => Ex H H' ∧ H' D1 = some (.lst (((ns.take i).map absI).map V.int))) ⟨Ex.new hD1, upd_same⟩ (fun i H' _ h => ex_l h.1 hs) (fun i x H' hx h => ?_) fun H1 h1 => ?_⟩
  · rw [List.getElem?_map] at hx
    cases en : ns[i]? with
    | none =>
      rw [en] at hx
      cases hx
    | some n =>
      rw [en] at hx
      cases hx
      refine ⟨rfl, ?_⟩
      dsimp only [tYes]
      rw [if_pos rfl]
      refine ⟨.int n, rfl, n, rfl, _, h.2, ?_, ?_, ?_⟩
      · rw [List.length_map, List.length_map, List.length_take]
        exact small1000 (Nat.le_trans (Nat.min_le_right _ _) hlen)
      · exact fun b o e => by
          rw [upd_ne (ne_of_none e hD1)]
          exact h.1 b o e
      · rw [upd_same, List.take_add_one, en]
        simp [absI]
  · obtain ⟨e1, h1⟩ := h1
    rw [List.length_map, List.take_length] at h1
    -- the large ones
    have hl1 : SqL K H1 D1 ((ns.map absI).map V.int) := SqL.of h1
    refine ⟨.ref D1, rfl, D1, rfl, ⟨_, hl1⟩, fun D2 hD2 => lc_list (K := K) (xs := (ns.map absI).map V.int) (fun i H' => Ex H1 H' ∧ H' D2 = some (.lst ((largeI ((ns.map absI).take i)).map V.int))) ⟨Ex.new hD2, upd_same⟩ (fun i H' _ h => ex_l h.1 hl1) (fun i x H' hx h => ?_) fun H2 h2 => ?_⟩
    · rw [List.getElem?_map] at hx
      cases en : (ns.map absI)[i]? with
      | none =>
        rw [en] at hx
        cases hx
      | some n =>
        rw [en] at hx
        cases hx
        refine ⟨rfl, ?_⟩
        have et : (ns.map absI).take (i + 1) = (ns.map absI).take i ++ [n] := by rw [List.take_add_one, en]; rfl
        have sz : ((largeI ((ns.map absI).take i)).map V.int).length < sizeLine := by
          rw [List.length_map]
          refine small1000 (Nat.le_trans (largeI_len _) ?_)
          rw [List.length_take, List.length_map]
          exact Nat.le_trans (Nat.min_le_right _ _) hlen
        refine ⟨.int n, rfl, 10, 18, rfl, rfl, ⟨by omega, by omega, by decide⟩, n, bigI, rfl, rfl, decide (bigI ≤ n), rfl, ?_⟩
        by_cases hb : bigI ≤ n
        · rw [decide_eq_true hb]
          dsimp only
          rw [if_pos rfl]
          refine ⟨.int n, rfl, 10, 18, rfl, rfl, ⟨by omega, by omega, by decide⟩, n, bigI, rfl, rfl, _, h.2, sz, ?_, ?_⟩
          · exact fun b o e => by
              rw [upd_ne (ne_of_none e hD2)]
              exact h.1 b o e
          · rw [upd_same, et, largeI_snoc, decide_eq_true hb, if_pos rfl, List.map_append]
            rfl
        · rw [decide_eq_false hb]
          dsimp only
          rw [if_neg Bool.false_ne_true]
          refine ⟨h.1, ?_⟩
          rw [et, largeI_snoc, decide_eq_false hb, if_neg Bool.false_ne_true]
          exact h.2
    · obtain ⟨e2, h2⟩ := h2
      rw [List.length_map, List.take_length] at h2
      have nH2 : H D2 = none := by
        cases e : H D2 with
        | none => rfl
        | some o =>
          rw [e1 _ _ e] at hD2
          cases hD2
      intro p hp
      have nH1p : H1 p = none := by
        cases e : H1 p with
        | none => rfl
        | some o =>
          rw [e2 _ _ e] at hp
          cases hp
      have nHp : H p = none := by
        cases e : H p with
        | none => rfl
        | some o =>
          rw [e1 _ _ e] at nH1p
          cases nH1p
      have n1 : D1 ≠ p := ne_of_none (e2 _ _ h1) hp
      have n2 : D2 ≠ p := ne_of_none h2 hp
      have n12 : D1 ≠ D2 := ne_of_none h1 hD2
      refine ⟨.ref D2, rfl, .ref D1, rfl, upd_same, [(.inr "large", .ref D2), (.inr "cells", .ref D1), (.inr "left", .int 0), (.inr "turn", .int 0)], rfl, by show 4 ≤ 15; omega, ?_⟩
      have em : mergeK [] [((.inr "large" : Key), V.ref D2), (.inr "cells", .ref D1), (.inr "left", .int 0), (.inr "turn", .int 0)] = stKvs D2 D1 0 0 := by
        unfold stKvs
        rfl
      rw [em]
      refine hq p D2 D1 (largeI (ns.map absI)) (ns.map absI) _ (fun b o e => ?_) nHp nH2 hD1 upd_same ?_ ?_ (Ne.symm n12) largeI_nn (by rw [List.length_map]; exact hlen) (Nat.le_trans (largeI_len _) (by rw [List.length_map]; exact hlen))
      · rw [upd_ne (ne_of_none e nHp), upd_ne (ne_of_none e nHp)]
        exact e2 _ _ (e1 _ _ e)
      · rw [upd_ne n2, upd_ne n2]
        exact h2
      · rw [upd_ne n1, upd_ne n1]
        exact e2 _ _ h1
end
end Dv
end
section
set_option linter.all false
set_option maxRecDepth 100000
set_option maxHeartbeats 1000000
/-! V13: the law's body, where no guard stands. -/
namespace Dv
open PySem PySem.Spec PyProof.Rows L2 Evl Kept
def OkS (se : SEnv) : Prop := se.length = 31 ∧ se[1]? = some (.v .st)
theorem OkS.set2 {se : SEnv} (h : OkS se) (d : D) : OkS (se.set 2 (.v d)) := ⟨by rw [List.length_set]; exact h.1, by rw [List.getElem?_set_ne (by decide)]; exact h.2⟩
theorem for_go {g : SEnv → M Ctl} (hg : ∀ se n, OkS se → 70 ≤ n → WP (g se) n fun n' c => ∃ se', c = .nx se' ∧ OkS se' ∧ n ≤ n' + 60) : ∀ (ds : List D) (se : SEnv) (n : Nat), OkS se → 70 + 60 * ds.length ≤ n → WP (goFor (.one 2) g ds se) n fun n' c => ∃ se', c = .nx se'
  | [], se, n, _, _ => p_det (a := Ctl.nx se) rfl ⟨_, rfl⟩
  | d :: r, se, n, h, hn => by
    rw [List.length_cons] at hn
    show WP (g (se.set 2 (.v d)) >>= _) n _
    refine p_bind (p_up (hg _ _ (h.set2 d) (by omega)) fun n' c z => ?_)
    obtain ⟨se', rfl, q, hq⟩ := z
    exact for_go hg r se' n' q (by omega)
theorem turn_go : ∀ se n, OkS se → 70 ≤ n → WP (m_turn se) n fun n' c => ∃ se', c = .nx se' ∧ OkS se' ∧ n ≤ n' + 60 := fun se n h hn => p_up (turn_WP h.1 h.2 hn) fun n' c ⟨se', e, a, b, k⟩ => ⟨se', e, ⟨a, b⟩, k⟩
/-- statements told by WP, that only go on -/
theorem tS_go {G : Gx} {g : SEnv → M Ctl} {Z : Zs} {W0 W : Wd} {se : SEnv} {σ : L2.St} {Dn : Ends} (S : SOk G Z W0 se σ W) (q : WP (g se) W.n fun n' c => ∃ se', c = .nx se') (h : ∀ σ' H', Dn.nx σ' H') : tS G g Dn σ W.H :=
  ⟨Z, W0, se, W, rfl, S, M.wp_mono (fun n' c z => by
    obtain ⟨se', rfl⟩ := z
    exact fun σ' F' H' _ _ => h σ' H') q.out⟩
theorem se0_at {i : Nat} {sl : Slot} (h : se0[i]? = some sl) : (i = 1 ∧ sl = .v .st) ∨ sl = .no := by
  unfold se0 at h
  by_cases hi : 1 = i
  · subst hi
    rw [List.getElem?_set_self (by decide)] at h
    exact .inl ⟨rfl, (Option.some.inj h).symm⟩
  · rw [List.getElem?_set_ne hi] at h
    exact .inr (List.mem_replicate.mp (List.mem_of_getElem? h)).2
/-- so many turns -/
def rgI (k : Nat) : List D := (List.range k).map fun i => .int (0 + (i : Nat))
def fiK (k : Nat) : EnvD → M (List D) := fun _ => .ret (rgI k)
section
variable {P : Program} {w : World} {K : PySem.W.Frag} {mg : Str → Option Value} {base : Heap} {C : Nat → Addr} {CS : Addr}
def Cnd (K : PySem.W.Frag) (a : Addr) (ns : List Int) (σ : L2.St) (H : Hp) : Prop := σ[0]? = some (some (.ref a)) ∧ SqL K H a (ns.map V.int)
theorem di_many {X : Cx} {a : Addr} {ns : List Int} (hl : ns.length ≤ 1000) {p p1 p2 p3 p4 p5 p6 p7 : Pos} {k1 k2 : Nat} {tg : Expr} (h0 : X.N[0]? = some ("_law_script" : Str)) (hv : Vis X.env.scope "_law_script") (hc : X.calm = true) (hg1 : Gl X "range") (hm1 : X.mg "range" = none) (hg2 : Gl X "min") (hm2 : X.mg "min" = none) (hg3 : Gl X "len") (hm3 : X.mg "len" = none)
    (hs : starEach [Expr.BinOp (.Constant (.int 3) k1 p1) .Add (.Call (.Name "min" p2) [.Call (.Name "len" p3) [.Name "_law_script" p4] [] p5, .Constant (.int 6) k2 p6] [] p7) p] X.env = [(false, eval (Expr.BinOp (.Constant (.int 3) k1 p1) .Add (.Call (.Name "min" p2) [.Call (.Name "len" p3) [.Name "_law_script" p4] [] p5, .Constant (.int 6) k2 p6] [] p7) p) X.env)] := by rfl)
    {pr pe : Pos} : PI X tg (.Call (.Name "range" pr) [.BinOp (.Constant (.int 3) k1 p1) .Add (.Call (.Name "min" p2) [.Call (.Name "len" p3) [.Name "_law_script" p4] [] p5, .Constant (.int 6) k2 p6] [] p7) p] [] pe) (fun σ H R => Cnd X.K a ns σ H ∧ iD (gx X) (fiK (3 + min ns.length 6)) σ H R) := by
  refine (pi_range1 hg1 hm1 (pa_cons (pe_op op_add pe_int (pe_callB (call_min2 hc) hg2 hm2 (by rfl) (pa_cons (pe_callB call_len hg3 hm3 boot_len (pa_cons (pv 0 h0 hv) pa_nil)) (pa_cons pe_int pa_nil)))) pa_nil) hs).weak fun σ H R ⟨⟨e0, hs0⟩, Z, env, W, hW, ok, h⟩ => ?_
  subst hW
  have e : (if (6 : Int) < (ns.length : Int) then (6 : Int) else (ns.length : Int)) = ((min ns.length 6 : Nat) : Int) := by
    split <;> omega
  refine ⟨_, e0, _, ns.length, rfl, .inl ⟨_, hs0, by rw [List.length_map]⟩, _, _, rfl, _, _, rfl, rfl, _, rfl, ?_, ?_, ?_⟩
  · rw [e]
    omega
  · rw [e]
    omega
  · rw [e]
    have e2 : (3 + ((min ns.length 6 : Nat) : Int)).toNat = 3 + min ns.length 6 := by omega
    rw [e2]
    exact h _ W.F W.H (Gr.refl ok.gd) (itr_ok 0 (3 + min ns.length 6))
theorem law_body (T : Txt mg) (D__law_dials : Def P w K mg base 3 "_law_dials" 2 m__law_dials) (D__law_places : Def P w K mg base 1 "_law_places" 1 m__law_places) (D__law_nothing : Def P w K mg base 1 "_law_nothing" 1 m__law_nothing) (D_moves_table : Def P w K mg base 5 "moves_table" 2 m_moves_table) (D__law_move_plan : Def P w K mg base 2 "_law_move_plan" 2 m__law_move_plan) (D_places : Def P w K mg base 4 "places" 1 m_places) (D__law_plus : Def P w K mg base 1 "_law_plus" 3 m__law_plus) (D_cut : Def P w K mg base 6 "cut" 1 m_cut) (D_total_of : Def P w K mg base 5 "total_of" 2 m_total_of) (D_is_closing : Def P w K mg base 6 "is_closing" 3 m_is_closing) (D__law_mixed : Def P w K mg base 2 "_law_mixed" 2 m__law_mixed) (D__law_all_cuts : Def P w K mg base 1 "_law_all_cuts" 1 m__law_all_cuts) (D__law_pick : Def P w K mg base 2 "_law_pick" 2 m__law_pick) (D__law_is_cut : Def P w K mg base 3 "_law_is_cut" 2 m__law_is_cut) (D_is_parting : Def P w K mg base 6 "is_parting" 2 m_is_parting) (D__law_is_parting : Def P w K mg base 4 "_law_is_parting" 2 m__law_is_parting) (D_closing_by : Def P w K mg base 6 "closing_by" 3 m_closing_by) (D__law_is_pick : Def P w K mg base 4 "_law_is_pick" 2 m__law_is_pick) (D_mate : Def P w K mg base 6 "mate" 2 m_mate) (D_is_cut : Def P w K mg base 5 "is_cut" 2 m_is_cut) (D__law_is_table : Def P w K mg base 4 "_law_is_table" 1 m__law_is_table) (D__law_near_cut : Def P w K mg base 3 "_law_near_cut" 3 m__law_near_cut) (D__law_bad_dials : Def P w K mg base 3 "_law_bad_dials" 1 m__law_bad_dials) (E_parting_by : DefE2 P w K mg base C 4 "parting_by" "dials" "cut" m_parting_byE) (ek : ExKit K mg C CS) (ca : CaughtAt K mg) {f c Pt : Addr} (tb : LamX.TabB base mg c Pt) (hP : (Pt, ("law" : Str) ++ ".<locals>." ++ "<lambda>") ∈ tbl0) (hu : ∀ p ∈ tbl0, p.1 = Pt → p.2 = ("law" : Str) ++ ".<locals>." ++ "<lambda>")
    (fb : Addr) (fdb : FuncData) (Fb : Fun K "_law_begun" "_law_begun" (top 70) fb fdb) (hmb : mg "_law_begun" = some (.ref fb))
    (A : Around) (outer : List PySem.Env) (s : Shared) (H : Hp) (E : XK) (hr : Room 6 (A.deeper (envOfC "law" (defScope (top 92)) s.heap.objs.size f (.ref c)))) (hg : (A.deeper (envOfC "law" (defScope (top 92)) s.heap.objs.size f (.ref c))).guards = some [])
    {a : Addr} {ns : List Int} (hl : ns.length ≤ 1000) (hs : SqL K H a (ns.map V.int)) (ht : ∀ p ∈ tbl0, H p.1 = some (.tbl #[])) :
    ∃ t, PSs (cxOf CX0 P w K mg base lawN "law" (defScope (top 92)) f (.ref c) A outer s H E).nox (defBody (top 92)) t ∧ t { nx := fun _ H' => (fun (v : V) (_ : Hp) => v = .bl true) .non H', rt := fun v _ => v = .bl true } (L2.start lawN [.ref a]) H := by
  have nd := sc_law.nd
  have tn := d_turn T D__law_dials D__law_places D__law_nothing D_moves_table D__law_move_plan D_places D__law_plus D_cut D_total_of D_is_closing D__law_mixed D__law_all_cuts D__law_pick D__law_is_cut D_is_parting D__law_is_parting D_closing_by D__law_is_pick D_mate D_is_cut D__law_is_table D__law_near_cut D__law_bad_dials E_parting_by ek ca tb hP hu A outer s H E hr hg
  refine ⟨_, pss_cons (ps_set (i := 1) nd (by rfl) (by first | exact Or.inl (by rfl) | exact Or.inr (by rfl)) (pe_call (d__law_begun T Fb) (hr.mono (by decide)) (by rfl) hmb Fb.kp (Fb.binds fun _ _ _ _ _ _ us hl => match us, hl with | [_], _ => rfl) .nil pass0 (pa_cons (pv 0) pa_nil)))
    (pss_cons (t := fun Dn σ H => Cnd K a ns σ H ∧ tS ⟨P, w, K⟩ (sFor (fiK (3 + min ns.length 6)) (.one 2) m_turn) Dn σ H) ((ps_for PassesOwn.never (by rfl) (di_many (a := a) (ns := ns) hl (by rfl) (by first | exact Or.inl (by rfl) | exact Or.inr (Or.inl (by rfl)) | exact Or.inr (Or.inr (by rfl))) (by rfl) (by rfl) T.range (by rfl) T.min (by rfl) T.len) (bg1 2 nd) tn).weak fun Dn σ H q => ⟨q.1, for_r (tgs1 2) q.2⟩) (pss_one (ps_ret pe_bl))), ?_⟩
  refine ⟨.ref a, rfl, a, ns, rfl, hs, hl, fun p l c' ls cs H' ex hp hlp hcp e1 e2 e3 ne hnn hcl hll => ⟨⟨rfl, ex_l ex hs⟩, ?_⟩⟩
  let Z : Zs := ⟨true, p, l, c'⟩
  let F : Hp := fun b => if b ∈ tbl0.map (·.1) then none else H b
  have gd : Gd Z ⟨F, H', 100000⟩ := by
    refine ⟨fun b o h => ?_, fun _ => ⟨ls, cs, 0, 0, e1, e2, e3, ne, Int.le_refl _, (by decide : (0 : Int) + ((100000 : Nat) : Int) ≤ 1000000), Int.le_refl _, hnn, hcl, hll⟩, fun b h => ?_, fun q hq => ⟨#[], ex _ _ (ht q hq), trivial, fun pos cv h => by cases h⟩⟩
    · have h : (if b ∈ tbl0.map (·.1) then none else H b) = some o := h
      split at h
      · cases h
      · exact ex _ _ h
    · show (if b ∈ tbl0.map (·.1) then none else H b) = none
      split
      · rfl
      · rcases h with ⟨_, h⟩ | h
        · rcases h with rfl | rfl | rfl
          · exact hp
          · exact hlp
          · exact hcp
        · obtain ⟨q, hq⟩ := h
          exact absurd (List.mem_map.mpr ⟨_, hq, rfl⟩) (by assumption)
  have S : SOk ⟨P, w, K⟩ Z ⟨F, H', 100000⟩ se0 ((L2.start lawN [.ref a]).set 1 (some (.ref p))) ⟨F, H', 100000⟩ := by
    refine ⟨gd, Gr.refl gd, rfl, fun i d h => ?_, fun i sl h o => ?_, fun i j s t p _ h _ o _ _ _ => ?_⟩
    · rcases se0_at h with ⟨rfl, e⟩ | e
      · cases e
        exact ⟨.ref p, rfl, .st rfl⟩
      · cases e
    · rcases se0_at h with ⟨rfl, e⟩ | e
      · rw [e] at o
        cases o
      · rw [e] at o
        cases o
    · rcases se0_at h with ⟨rfl, e⟩ | e
      · rw [e] at o
        cases o
      · rw [e] at o
        cases o
  refine tS_go S ?_ fun σ' H'' => rfl
  show WP (M.ret (rgI (3 + min ns.length 6)) >>= fun ds => goFor (.one 2) m_turn ds se0) 100000 _
  refine p_bind (p_det rfl (for_go turn_go _ _ _ ⟨rfl, rfl⟩ ?_))
  unfold rgI
  rw [List.length_map, List.length_range]
  omega
end
end Dv
end
section
set_option linter.all false
set_option maxRecDepth 100000
set_option maxHeartbeats 2000000
/-! V14: the call of the law where no guard stands (after HandS.EndTab's law_callTs, at callerA alone). -/
namespace LamX
open PySem PySem.Spec PyProof.Rows L2
theorem law_callA {P : Program} {w : World} {K : PySem.W.Frag} {mg mb : Str → Option Value} {fa az : Addr} {ct : List (Addr × Addr)} {sa : Shared} {xs1 : List Value} {is1 : List Int}
    (KXz : K.In sa.heap) (hnsz : sa.heap.Ns mainGlobals mg) (hbz : sa.heap.Ns builtinsNs mb) (hbbz : ∀ xz : Str, xz ≠ "__name__" → mb xz = bootBuiltins xz) (hlimz : sa.heap.NoLimit) (hgz : sa.gens = #[])
    (hTz : ∀ pz ∈ ct, sa.heap.get? pz.2 = some { cls := .none, data := .fields #[] }) (nTz : ∀ pz ∈ ct, K.lookup pz.2 = none) (Cz : ∀ pz ∈ ct, PySem.W.CodeHd sa.heap pz.1 pz.2)
    (hbmz : ∃ (bmz : Addr) (obz : Obj), mg "__builtins__" = some (.ref bmz) ∧ bmz ≠ builtinsNs ∧ sa.heap.get? bmz = some obz ∧ obz.cls = .type "module" ∧ obz.dict = some builtinsNs ∧ obz.data = .plain)
    (haz : sa.heap.get? az = some { cls := .type "list", data := .seq xs1.toArray }) (hiz : IntsAre xs1 is1) (hlz : is1.length ≤ sizeLine)
    (runs : ∀ (base : Heap) (Hz : Hp), K.In base → base.Ns mainGlobals mg → (∀ pz ∈ ct, TabB base mg pz.1 pz.2) → Env0 P w K mg base callerA [] sa Hz → (∀ pz ∈ ct, Hz pz.2 = some (.tbl #[])) → SqL K Hz az (is1.map V.int) → codeAny (model P w) callerA (.call (.ref fa) ⟨[.ref az], []⟩) (CR CX0 [] P w Hz sa (fun vz _ => vz = .bl true) fun _ _ _ => False) sa)
    (noErr_ : ∀ (Hz : Hp) (ez : Value) (sz' : Shared), CX0 [] Hz sa (fun _ _ _ => False) ez sz' → False) :
    codeAny (model P w) callerA (.call (.ref fa) ⟨[.ref az], []⟩) (fun rz sz' => rz = .ok (.ret (.bool true)) ∧ OldK sa.heap sz'.heap ∧ sz'.os = sa.os ∧ AllBare sz'.gens) sa := by
  have rvz := vals_ints hiz
  have lenVz := hiz.length
  have tabIs : ∀ bz : Addr, bz ∈ ct.map (·.2) → sa.heap.get? bz = some { cls := .none, data := .fields #[] } := fun bz hbz => by
    obtain ⟨pz, hpz, ez⟩ := List.mem_map.mp hbz
    rw [← ez]
    exact hTz pz hpz
  have notTab : az ∉ ct.map (·.2) := fun zz => by
    have qz := tabIs az zz
    rw [haz] at qz
    have zz' : Data.seq xs1.toArray _ = Data.fields #[] := congrArg Obj.data (Option.some.inj qz)
    cases zz'
  have inTabs : ∀ pz ∈ ct, pz.2 ∈ ct.map (·.2) := fun pz hpz => List.mem_map.mpr ⟨pz, hpz, rfl⟩
  -- from an abstract heap in which nothing but the script and the tables may be tracked
  have coreA : ∀ Hz : Hp, (∀ pz ∈ ct, Hz pz.2 = some (.tbl #[])) → (∀ bz, Hz bz = none ∨ bz ∈ ct.map (·.2) ∨ ∃ oz xs2, Hz bz = some (.frz oz (.lst xs2))) → SqL K Hz az (is1.map V.int) → HOk P w Hz sa.heap → (∀ bz, Hz bz ≠ none → bz = az ∨ bz ∈ ct.map (·.2)) → (Hz az ≠ none → K.lookup az = none) →
      codeAny (model P w) callerA (.call (.ref fa) ⟨[.ref az], []⟩) (fun rz sz' => rz = .ok (.ret (.bool true)) ∧ OldK sa.heap sz'.heap ∧ sz'.os = sa.os ∧ AllBare sz'.gens) sa := by
    intro Hz ut0 uo0 us0 ug0 ua0 uk0
    have lowOf : ∀ {bz : Addr} {oz : Obj}, sa.heap.get? bz = some oz → Hz bz = none → (hidT sa.heap Hz).get? bz = some oz := fun ez nz => hidT_get ez nz
    have notData : ∀ {bz : Addr} {oz : Obj}, sa.heap.get? bz = some oz → (∀ xs1 nz, oz.data ≠ .seq xs1 nz) → oz.data ≠ .fields #[] → Hz bz = none := fun {bz oz} ez h1 h2 => by
      cases qz : Hz bz with
      | none => rfl
      | some uz =>
        rcases ua0 bz (by rw [qz]; simp) with ez' | ez'
        · rw [ez', haz] at ez
          cases ez
          exact (h1 _ _ rfl).elim
        · rw [tabIs bz ez'] at ez
          cases ez
          exact (h2 rfl).elim
    have notDict : ∀ {bz : Addr} {oz : Obj} {esz : Array DictEntry} {epz : Nat}, sa.heap.get? bz = some oz → oz.data = .dict esz epz → Hz bz = none := fun {bz oz esz epz} ez dz_ => by
      refine notData ez (fun xs1 nz zz => ?_) fun zz => ?_
      · rw [dz_] at zz
        cases zz
      · rw [dz_] at zz
        cases zz
    have nsLow : ∀ {bz : Addr} {mz : Str → Option Value}, sa.heap.Ns bz mz → (hidT sa.heap Hz).Ns bz mz := fun {bz mz} ⟨oz, esz, epz, ez, dz_, rz⟩ => ⟨oz, esz, epz, lowOf ez (notDict ez dz_), dz_, rz⟩
    have kLow : K.In (hidT sa.heap Hz) := fun bz oz ez => lowOf (KXz bz oz ez) (by
      cases qz : Hz bz with
      | none => rfl
      | some uz =>
        rcases ua0 bz (by rw [qz]; simp) with ez' | ez'
        · rw [ez'] at ez qz
          rw [uk0 (by rw [qz]; simp)] at ez
          cases ez
        · obtain ⟨pz, hpz, epz⟩ := List.mem_map.mp ez'
          rw [← epz, nTz pz hpz] at ez
          cases ez)
    have modLow : L2.Mod K mg (hidT sa.heap Hz) := ⟨kLow, nsLow hnsz, ⟨mb, nsLow hbz, hbbz⟩, let ⟨mcz, h1, h2⟩ := hlimz; ⟨mcz, nsLow h1, h2⟩⟩
    have tabLow : ∀ pz ∈ ct, TabB (hidT sa.heap Hz) mg pz.1 pz.2 := fun pz hpz => by
      have hTpz := hTz pz hpz
      refine ⟨?_, ?_, fun zz => ?_⟩
      · obtain ⟨oz, usz, filez, tfz, flagsz, tgz, inFz, textz, ttz, ez1, r1, r2, r3, r4, r5, r6, r7, r8, hnez⟩ := Cz pz hpz
        refine ⟨oz, usz, filez, tfz, flagsz, tgz, inFz, textz, ttz, lowOf ez1 (notData ez1 (fun xs1 nz zz => ?_) fun zz => ?_), r1, r2, r3, r4, r5, r6, r7, r8, hnez⟩
        · rw [r2] at zz
          cases zz
        · rw [r2] at zz
          cases zz
          simp at r3
      · obtain ⟨bmz, obz, b1, b2, b3, b4, b5, b6⟩ := hbmz
        have nGz : bmz ≠ mainGlobals := fun qz => by
          obtain ⟨oz, esz, epz, ez, hdz, _⟩ := hnsz
          rw [qz, ez] at b3
          cases b3
          rw [hdz] at b6
          cases b6
        have nPz : bmz ≠ pz.2 := fun qz => by
          rw [qz, hTpz] at b3
          cases b3
          cases b6
        refine ⟨bmz, obz, b1, b2, nGz, nPz, lowOf b3 (notData b3 (fun xs1 nz zz => ?_) fun zz => ?_), b4, b5, b6⟩
        · rw [b6] at zz
          cases zz
        · rw [b6] at zz
          cases zz
      · obtain ⟨oz, esz, epz, ez, hdz, _⟩ := hnsz
        rw [zz, hTpz] at ez
        cases ez
        cases hdz
    have envLow : Env0 P w K mg (hidT sa.heap Hz) callerA [] sa Hz := ⟨rfl, modLow, fun bz oz ez => of_hidT ez, Nat.le_of_eq (hidT_size _ _), trivial, fun bz hbz => absurd (show bz ∈ ([] : List Addr) from hbz) (by simp), ug0, .of_eq hgz⟩
    refine codeAny_mono (runs _ Hz kLow (nsLow hnsz) tabLow envLow ut0 us0) fun rz sz' hz => ?_
    cases rz with
    | error ez => exact (noErr_ Hz ez sz' hz).elim
    | ok flz =>
      cases flz with
      | next => exact False.elim hz
      | brk => exact False.elim hz
      | cont => exact False.elim hz
      | ret uz =>
        obtain ⟨vz, Hz', osz, barez, unz, ug0', rz', qz⟩ := hz
        have qz' : vz = .bl true := qz
        subst qz'
        obtain rfl : uz = Value.bool true := rz'
        have sameAt : ∀ bz oz, bz ∉ ct.map (·.2) → sa.heap.get? bz = some oz → sz'.heap.get? bz = some oz := fun bz oz nbz ez => by
          cases qz : Hz bz with
          | none => exact unz.keep bz oz ez qz (by intro zz; exact absurd (show bz ∈ ([] : List Addr) from zz) (by simp)) (by simp)
          | some uz =>
            rcases uo0 bz with zz | zz | ⟨obz, xs2, zz⟩
            · rw [qz] at zz; cases zz
            · exact absurd zz nbz
            · have zz2 := unz.frzs bz obz _ zz
              obtain ⟨ez1, _⟩ := ug0 bz _ zz
              obtain ⟨ez2, _⟩ := ug0' bz _ zz2
              rw [ez] at ez1; cases ez1
              exact ez2
        have tabGrown : ∀ pz ∈ ct, ∃ morez : Array Value, sz'.heap.get? pz.2 = some { cls := .none, data := .fields morez } := fun pz hpz => by
          obtain ⟨morez, zz⟩ := unz.tbls pz.2 #[] (ut0 pz hpz)
          exact ⟨_, ug0' pz.2 _ zz⟩
        refine ⟨rfl, ⟨fun bz oz ez => ?_, fun bz oz ez => ?_⟩, osz, barez⟩
        · by_cases hbz : bz ∈ ct.map (·.2)
          · obtain ⟨pz, hpz, epz⟩ := List.mem_map.mp hbz
            obtain ⟨morez, hmz⟩ := tabGrown pz hpz
            rw [← epz] at ez ⊢
            rw [hTz pz hpz] at ez
            cases ez
            exact .inr (.inl ⟨((Cz pz hpz).tab (hTz pz hpz)).isCodeTable, rfl, #[], morez, rfl, by rw [Array.empty_append]; exact hmz⟩)
          · exact .inl (sameAt bz oz hbz ez)
        · by_cases hbz : bz ∈ ct.map (·.2)
          · obtain ⟨pz, hpz, epz⟩ := List.mem_map.mp hbz
            obtain ⟨morez, hmz⟩ := tabGrown pz hpz
            rw [← epz]
            exact ⟨_, hmz⟩
          · exact ⟨oz, sameAt bz oz hbz ez⟩
  cases hkz : K.lookup az with
  | some oz =>
    have ez := KXz az oz hkz
    rw [haz] at ez
    cases ez
    refine coreA (fun bz => if bz ∈ ct.map (·.2) then some (.tbl #[]) else none) (fun pz hpz => if_pos (inTabs pz hpz)) (fun bz => ?_) (.inr ⟨_, xs1.toArray, _, hkz, rfl, rfl, rfl, by rw [List.size_toArray, lenVz]; exact hlz, by simpa using rvz⟩) (fun bz uz zz => ?_) (fun bz zz => ?_) fun zz => absurd (show (if az ∈ ct.map (·.2) then some (HO.tbl #[]) else none) = none from if_neg notTab) zz
    · by_cases hbz : bz ∈ ct.map (·.2)
      · exact .inr (.inl hbz)
      · exact .inl (if_neg hbz)
    · by_cases hbz : bz ∈ ct.map (·.2)
      · have zz' := (if_pos hbz).symm.trans zz
        cases zz'
        exact tabIs bz hbz
      · have zz' := (if_neg hbz).symm.trans zz
        cases zz'
    · by_cases hbz : bz ∈ ct.map (·.2)
      · exact .inr hbz
      · exact absurd (if_neg hbz) zz
  | none =>
    refine coreA (fun bz => if bz = az then some (.frz { cls := .type "list", data := .seq xs1.toArray } (.lst (is1.map V.int))) else if bz ∈ ct.map (·.2) then some (.tbl #[]) else none) (fun pz hpz => (if_neg (show ¬ pz.2 = az from fun zz => notTab (by rw [← zz]; exact inTabs pz hpz))).trans (if_pos (inTabs pz hpz))) (fun bz => ?_)
      (.inl (.inr ⟨{ cls := .type "list", data := .seq xs1.toArray }, if_pos rfl⟩)) (fun bz uz zz => ?_) (fun bz zz => ?_) fun _ => hkz
    · by_cases hbz : bz = az
      · exact .inr (.inr ⟨_, _, if_pos hbz⟩)
      · by_cases hbz2 : bz ∈ ct.map (·.2)
        · exact .inr (.inl hbz2)
        · exact .inl ((if_neg hbz).trans (if_neg hbz2))
    · by_cases hbz : bz = az
      · have zz' := (if_pos hbz).symm.trans zz
        cases zz'
        rw [hbz]
        exact ⟨haz, by rw [List.length_map]; exact hlz, xs1, _, rvz, haz⟩
      · have zz1 := (if_neg hbz).symm.trans zz
        by_cases hbz2 : bz ∈ ct.map (·.2)
        · have zz' := (if_pos hbz2).symm.trans zz1
          cases zz'
          exact tabIs bz hbz2
        · have zz' := (if_neg hbz2).symm.trans zz1
          cases zz'
    · by_cases hbz : bz = az
      · exact .inl hbz
      · by_cases hbz2 : bz ∈ ct.map (·.2)
        · exact .inr hbz2
        · exact absurd ((if_neg hbz).trans (if_neg hbz2)) zz
end LamX
end
section
set_option linter.all false
set_option maxRecDepth 100000
set_option maxHeartbeats 4000000
/-! V15: the law runs, by what the head tells. Printed by gen_end.py. -/
namespace Dv
open PySem PySem.Spec PyProof.Rows L2 Evl Kept
/-- the def stands there -/
def At (K : PySem.W.Frag) (mg : Str → Option Value) (x : Str) (st : Stmt) : Prop := ∃ (f : Addr) (fd : FuncData), Fun K x x st f fd ∧ mg x = some (.ref f)
theorem at_mk {K : PySem.W.Frag} {mg : Str → Option Value} {h : Heap} {x : Str} {st : Stmt} {f : Addr} {oc : Value} {od an : Option Addr} {osl : Array (Option Value)} {kV doc pm cdv ct : Value} (X : K.In h) (G : h.Ns mainGlobals mg)
    (a : PySem.W.nsIn K mainGlobals x = some (some (.ref f))) (l : K.lookup f = some ⟨oc, od, .func (PySem.W.fnOf x x (defArgs st) (defBody st) (defScope st) .none kV doc pm an cdv ct), osl⟩) (c : PySem.W.codeIn K cdv x = true) (k : PySem.W.keepIn K (.ref f) = true) : At K mg x st :=
  ⟨f, _, fun_mk l c k, PySem.W.mg_of X G a⟩
/-- .. and the code it holds -/
def AtC (K : PySem.W.Frag) (mg : Str → Option Value) (x : Str) (st : Stmt) (f c : Addr) : Prop := ∃ fd : FuncData, FunC K x x st f fd c ∧ mg x = some (.ref f)
theorem atC_mk {K : PySem.W.Frag} {mg : Str → Option Value} {h : Heap} {x : Str} {st : Stmt} {f cd : Addr} {oc : Value} {od an : Option Addr} {osl : Array (Option Value)} {kV doc pm ct : Value} (X : K.In h) (G : h.Ns mainGlobals mg)
    (a : PySem.W.nsIn K mainGlobals x = some (some (.ref f))) (l : K.lookup f = some ⟨oc, od, .func (PySem.W.fnOf x x (defArgs st) (defBody st) (defScope st) .none kV doc pm an (.ref cd) ct), osl⟩) (c : PySem.W.codeIn K (.ref cd) x = true) (k : PySem.W.keepIn K (.ref f) = true) : AtC K mg x st f cd :=
  ⟨_, ⟨⟨oc, od, kV, doc, pm, an, ct, osl, rfl, l, c⟩, k⟩, PySem.W.mg_of X G a⟩
def tabsC : List (Addr × Addr) := [(358, 356), (517, 515)]
theorem law_runs {P : Program} {w : World} {K : PySem.W.Frag} {mg : Str → Option Value} {base : Heap} {C : Nat → Addr} {CS fp fl : Addr} (T : Txt mg) (A_is_between : At K mg "is_between" (top 12)) (A_is_pair : At K mg "is_pair" (top 13)) (A_are_apart : At K mg "are_apart" (top 14)) (A_count_of : At K mg "count_of" (top 18)) (A_are_dials : At K mg "are_dials" (top 19)) (A_need_dials : At K mg "need_dials" (top 20)) (A_is_place : At K mg "is_place" (top 21)) (A_are_moves : At K mg "are_moves" (top 22)) (A_need_moves : At K mg "need_moves" (top 23)) (A_places_of : At K mg "places_of" (top 24)) (A_nothing_of : At K mg "nothing_of" (top 25)) (A_plus_of : At K mg "plus_of" (top 26)) (A_sum_of : At K mg "sum_of" (top 27)) (A_plan_by : At K mg "plan_by" (top 28)) (A_book_by : At K mg "book_by" (top 29)) (A_places : At K mg "places" (top 30)) (A_total_of : At K mg "total_of" (top 31)) (A_are_rising : At K mg "are_rising" (top 33)) (A_picks_right : At K mg "picks_right" (top 35)) (A_sorted_pick : At K mg "sorted_pick" (top 36)) (A_unused_of : At K mg "unused_of" (top 37)) (A_links_of : At K mg "links_of" (top 39)) (A_path_of : At K mg "path_of" (top 40)) (A_grown_of : At K mg "grown_of" (top 41)) (A_grow_of : At K mg "grow_of" (top 43)) (A_is_row : At K mg "is_row" (top 48)) (A_tables_right : At K mg "tables_right" (top 49)) (A_need_table : At K mg "need_table" (top 50)) (A_table_of : At K mg "table_of" (top 52)) (A_cuts_right : At K mg "cuts_right" (top 53)) (A_moves_table : At K mg "moves_table" (top 55)) (A_is_cut : At K mg "is_cut" (top 56)) (A_need_even : At K mg "need_even" (top 59)) (A_parts_right : At K mg "parts_right" (top 60)) (A_is_parting : At K mg "is_parting" (top 61)) (A_mate : At K mg "mate" (top 62)) (A_closes : At K mg "closes" (top 65)) (A_need_told : At K mg "need_told" (top 66)) (A_is_closing : At K mg "is_closing" (top 67)) (A_closing_by : At K mg "closing_by" (top 68)) (A__law_is_whole : At K mg "_law_is_whole" (top 75)) (A__law_is_below : At K mg "_law_is_below" (top 76)) (A__law_is_pair : At K mg "_law_is_pair" (top 77)) (A__law_are_apart : At K mg "_law_are_apart" (top 78)) (A__law_is_pick : At K mg "_law_is_pick" (top 79)) (A__law_places : At K mg "_law_places" (top 81)) (A__law_plus : At K mg "_law_plus" (top 82)) (A__law_nothing : At K mg "_law_nothing" (top 83)) (A__law_move_plan : At K mg "_law_move_plan" (top 84)) (A__law_is_row : At K mg "_law_is_row" (top 86)) (A__law_is_table : At K mg "_law_is_table" (top 87)) (A__law_is_cut : At K mg "_law_is_cut" (top 88)) (A__law_all_cuts : At K mg "_law_all_cuts" (top 90)) (A__law_is_parting : At K mg "_law_is_parting" (top 91)) (A__law_draw : At K mg "_law_draw" (top 71)) (A__law_pick : At K mg "_law_pick" (top 72)) (A__law_mixed : At K mg "_law_mixed" (top 73)) (A__law_dials : At K mg "_law_dials" (top 80)) (A__law_bad_dials : At K mg "_law_bad_dials" (top 85)) (A_book_of : At K mg "book_of" (top 51)) (A_picks_by_spans : At K mg "picks_by_spans" (top 45)) (A_cut_of : At K mg "cut_of" (top 54)) (A_cut : At K mg "cut" (top 57)) (A__law_near_cut : At K mg "_law_near_cut" (top 89)) (A_need_dials' : At K mg "need_dials" (top 20)) (A_begun : At K mg "_law_begun" (top 70)) (A_caught : At K mg "_law_caught" (top 74)) (A_parting : AtC K mg "parting_by" (top 63) fp 358) (A_law : AtC K mg "law" (top 92) fl 517) (ek : ExKit K mg C CS)
    {sa : Shared} {az : Addr} {is1 : List Int} (hlen : is1.length ≤ 1000) {Hz : Hp} (tabs : ∀ pz ∈ tabsC, LamX.TabB base mg pz.1 pz.2) (env : Env0 P w K mg base callerA [] sa Hz) (ht : ∀ pz ∈ tabsC, Hz pz.2 = some (.tbl #[])) (hs : SqL K Hz az (is1.map V.int)) :
    codeAny (model P w) callerA (.call (.ref fl) ⟨[.ref az], []⟩) (CR CX0 [] P w Hz sa (fun vz _ => vz = .bl true) fun _ _ _ => False) sa := by
  have D_is_between : Def P w K mg base 1 "is_between" 3 m_is_between := by
    obtain ⟨f, fd, F, hm⟩ := A_is_between
    exact d_is_between T  F (F.binds fun _ _ _ _ _ _ us hl => match us, hl with | [_, _, _], _ => rfl) hm
  have D_is_pair : Def P w K mg base 2 "is_pair" 1 m_is_pair := by
    obtain ⟨f, fd, F, hm⟩ := A_is_pair
    exact d_is_pair T D_is_between F (F.binds fun _ _ _ _ _ _ us hl => match us, hl with | [_], _ => rfl) hm
  have D_are_apart : Def P w K mg base 1 "are_apart" 1 m_are_apart := by
    obtain ⟨f, fd, F, hm⟩ := A_are_apart
    exact d_are_apart T  F (F.binds fun _ _ _ _ _ _ us hl => match us, hl with | [_], _ => rfl) hm
  have D_count_of : Def P w K mg base 1 "count_of" 1 m_count_of := by
    obtain ⟨f, fd, F, hm⟩ := A_count_of
    exact d_count_of T  F (F.binds fun _ _ _ _ _ _ us hl => match us, hl with | [_], _ => rfl) hm
  have D_are_dials : Def P w K mg base 2 "are_dials" 1 m_are_dials := by
    obtain ⟨f, fd, F, hm⟩ := A_are_dials
    exact d_are_dials T D_count_of D_is_between F (F.binds fun _ _ _ _ _ _ us hl => match us, hl with | [_], _ => rfl) hm
  have D_need_dials : Def P w K mg base 3 "need_dials" 1 m_need_dials := by
    obtain ⟨f, fd, F, hm⟩ := A_need_dials
    exact d_need_dials T D_are_dials F (F.binds fun _ _ _ _ _ _ us hl => match us, hl with | [_], _ => rfl) hm
  have D_is_place : Def P w K mg base 2 "is_place" 2 m_is_place := by
    obtain ⟨f, fd, F, hm⟩ := A_is_place
    exact d_is_place T D_is_between F (F.binds fun _ _ _ _ _ _ us hl => match us, hl with | [_, _], _ => rfl) hm
  have D_are_moves : Def P w K mg base 3 "are_moves" 2 m_are_moves := by
    obtain ⟨f, fd, F, hm⟩ := A_are_moves
    exact d_are_moves T D_is_place F (F.binds fun _ _ _ _ _ _ us hl => match us, hl with | [_, _], _ => rfl) hm
  have D_need_moves : Def P w K mg base 4 "need_moves" 2 m_need_moves := by
    obtain ⟨f, fd, F, hm⟩ := A_need_moves
    exact d_need_moves T D_are_moves F (F.binds fun _ _ _ _ _ _ us hl => match us, hl with | [_, _], _ => rfl) hm
  have D_places_of : Def P w K mg base 1 "places_of" 1 m_places_of := by
    obtain ⟨f, fd, F, hm⟩ := A_places_of
    exact d_places_of T  F (F.binds fun _ _ _ _ _ _ us hl => match us, hl with | [_], _ => rfl) hm
  have D_nothing_of : Def P w K mg base 1 "nothing_of" 1 m_nothing_of := by
    obtain ⟨f, fd, F, hm⟩ := A_nothing_of
    exact d_nothing_of T  F (F.binds fun _ _ _ _ _ _ us hl => match us, hl with | [_], _ => rfl) hm
  have D_plus_of : Def P w K mg base 1 "plus_of" 3 m_plus_of := by
    obtain ⟨f, fd, F, hm⟩ := A_plus_of
    exact d_plus_of T  F (F.binds fun _ _ _ _ _ _ us hl => match us, hl with | [_, _, _], _ => rfl) hm
  have D_sum_of : Def P w K mg base 2 "sum_of" 2 m_sum_of := by
    obtain ⟨f, fd, F, hm⟩ := A_sum_of
    exact d_sum_of T D_nothing_of D_plus_of F (F.binds fun _ _ _ _ _ _ us hl => match us, hl with | [_, _], _ => rfl) hm
  have D_plan_by : Def P w K mg base 2 "plan_by" 2 m_plan_by := by
    obtain ⟨f, fd, F, hm⟩ := A_plan_by
    exact d_plan_by T D_places_of D_plus_of F (F.binds fun _ _ _ _ _ _ us hl => match us, hl with | [_, _], _ => rfl) hm
  have D_book_by : Def P w K mg base 3 "book_by" 2 m_book_by := by
    obtain ⟨f, fd, F, hm⟩ := A_book_by
    exact d_book_by T D_plan_by F (F.binds fun _ _ _ _ _ _ us hl => match us, hl with | [_, _], _ => rfl) hm
  have D_places : Def P w K mg base 4 "places" 1 m_places := by
    obtain ⟨f, fd, F, hm⟩ := A_places
    exact d_places T D_need_dials D_places_of F (F.binds fun _ _ _ _ _ _ us hl => match us, hl with | [_], _ => rfl) hm
  have D_total_of : Def P w K mg base 5 "total_of" 2 m_total_of := by
    obtain ⟨f, fd, F, hm⟩ := A_total_of
    exact d_total_of T D_need_dials D_need_moves D_sum_of F (F.binds fun _ _ _ _ _ _ us hl => match us, hl with | [_, _], _ => rfl) hm
  have D_are_rising : Def P w K mg base 2 "are_rising" 2 m_are_rising := by
    obtain ⟨f, fd, F, hm⟩ := A_are_rising
    exact d_are_rising T D_is_between F (F.binds fun _ _ _ _ _ _ us hl => match us, hl with | [_, _], _ => rfl) hm
  have D_picks_right : Def P w K mg base 3 "picks_right" 2 m_picks_right := by
    obtain ⟨f, fd, F, hm⟩ := A_picks_right
    exact d_picks_right T D_is_between D_is_pair D_are_apart F (F.binds fun _ _ _ _ _ _ us hl => match us, hl with | [_, _], _ => rfl) hm
  have D_sorted_pick : Def P w K mg base 1 "sorted_pick" 1 m_sorted_pick := by
    obtain ⟨f, fd, F, hm⟩ := A_sorted_pick
    exact d_sorted_pick T  F (F.binds fun _ _ _ _ _ _ us hl => match us, hl with | [_], _ => rfl) hm
  have D_unused_of : Def P w K mg base 1 "unused_of" 2 m_unused_of := by
    obtain ⟨f, fd, F, hm⟩ := A_unused_of
    exact d_unused_of T  F (F.binds fun _ _ _ _ _ _ us hl => match us, hl with | [_, _], _ => rfl) hm
  have D_links_of : Def P w K mg base 1 "links_of" 3 m_links_of := by
    obtain ⟨f, fd, F, hm⟩ := A_links_of
    exact d_links_of T  F (F.binds fun _ _ _ _ _ _ us hl => match us, hl with | [_, _, _], _ => rfl) hm
  have D_path_of : Def P w K mg base 2 "path_of" 3 m_path_of := by
    obtain ⟨f, fd, F, hm⟩ := A_path_of
    exact d_path_of T D_links_of F (F.binds fun _ _ _ _ _ _ us hl => match us, hl with | [_, _, _], _ => rfl) hm
  have D_grown_of : Def P w K mg base 3 "grown_of" 3 m_grown_of := by
    obtain ⟨f, fd, F, hm⟩ := A_grown_of
    exact d_grown_of T D_path_of D_sorted_pick F (F.binds fun _ _ _ _ _ _ us hl => match us, hl with | [_, _, _], _ => rfl) hm
  have D_grow_of : Def P w K mg base 4 "grow_of" 2 m_grow_of := by
    obtain ⟨f, fd, F, hm⟩ := A_grow_of
    exact d_grow_of T D_sorted_pick D_unused_of D_grown_of F (F.binds fun _ _ _ _ _ _ us hl => match us, hl with | [_, _], _ => rfl) hm
  have D_is_row : Def P w K mg base 2 "is_row" 2 m_is_row := by
    obtain ⟨f, fd, F, hm⟩ := A_is_row
    exact d_is_row T D_is_between F (F.binds fun _ _ _ _ _ _ us hl => match us, hl with | [_, _], _ => rfl) hm
  have D_tables_right : Def P w K mg base 3 "tables_right" 1 m_tables_right := by
    obtain ⟨f, fd, F, hm⟩ := A_tables_right
    exact d_tables_right T D_is_row F (F.binds fun _ _ _ _ _ _ us hl => match us, hl with | [_], _ => rfl) hm
  have D_need_table : Def P w K mg base 4 "need_table" 1 m_need_table := by
    obtain ⟨f, fd, F, hm⟩ := A_need_table
    exact d_need_table T D_tables_right F (F.binds fun _ _ _ _ _ _ us hl => match us, hl with | [_], _ => rfl) hm
  have D_table_of : Def P w K mg base 1 "table_of" 1 m_table_of := by
    obtain ⟨f, fd, F, hm⟩ := A_table_of
    exact d_table_of T  F (F.binds fun _ _ _ _ _ _ us hl => match us, hl with | [_], _ => rfl) hm
  have D_cuts_right : Def P w K mg base 2 "cuts_right" 2 m_cuts_right := by
    obtain ⟨f, fd, F, hm⟩ := A_cuts_right
    exact d_cuts_right T D_is_between F (F.binds fun _ _ _ _ _ _ us hl => match us, hl with | [_, _], _ => rfl) hm
  have D_moves_table : Def P w K mg base 5 "moves_table" 2 m_moves_table := by
    obtain ⟨f, fd, F, hm⟩ := A_moves_table
    exact d_moves_table T D_need_dials D_need_moves D_book_by D_table_of F (F.binds fun _ _ _ _ _ _ us hl => match us, hl with | [_, _], _ => rfl) hm
  have D_is_cut : Def P w K mg base 5 "is_cut" 2 m_is_cut := by
    obtain ⟨f, fd, F, hm⟩ := A_is_cut
    exact d_is_cut T D_need_table D_cuts_right F (F.binds fun _ _ _ _ _ _ us hl => match us, hl with | [_, _], _ => rfl) hm
  have D_need_even : Def P w K mg base 5 "need_even" 1 m_need_even := by
    obtain ⟨f, fd, F, hm⟩ := A_need_even
    exact d_need_even T D_need_table F (F.binds fun _ _ _ _ _ _ us hl => match us, hl with | [_], _ => rfl) hm
  have D_parts_right : Def P w K mg base 3 "parts_right" 2 m_parts_right := by
    obtain ⟨f, fd, F, hm⟩ := A_parts_right
    exact d_parts_right T D_cuts_right F (F.binds fun _ _ _ _ _ _ us hl => match us, hl with | [_, _], _ => rfl) hm
  have D_is_parting : Def P w K mg base 6 "is_parting" 2 m_is_parting := by
    obtain ⟨f, fd, F, hm⟩ := A_is_parting
    exact d_is_parting T D_need_even D_parts_right F (F.binds fun _ _ _ _ _ _ us hl => match us, hl with | [_, _], _ => rfl) hm
  have D_mate : Def P w K mg base 6 "mate" 2 m_mate := by
    obtain ⟨f, fd, F, hm⟩ := A_mate
    exact d_mate T D_need_even D_parts_right F (F.binds fun _ _ _ _ _ _ us hl => match us, hl with | [_, _], _ => rfl) hm
  have D_closes : Def P w K mg base 3 "closes" 3 m_closes := by
    obtain ⟨f, fd, F, hm⟩ := A_closes
    exact d_closes T D_count_of D_are_rising D_sum_of D_nothing_of F (F.binds fun _ _ _ _ _ _ us hl => match us, hl with | [_, _, _], _ => rfl) hm
  have D_need_told : Def P w K mg base 5 "need_told" 2 m_need_told := by
    obtain ⟨f, fd, F, hm⟩ := A_need_told
    exact d_need_told T D_need_dials D_need_moves F (F.binds fun _ _ _ _ _ _ us hl => match us, hl with | [_, _], _ => rfl) hm
  have D_is_closing : Def P w K mg base 6 "is_closing" 3 m_is_closing := by
    obtain ⟨f, fd, F, hm⟩ := A_is_closing
    exact d_is_closing T D_need_told D_closes F (F.binds fun _ _ _ _ _ _ us hl => match us, hl with | [_, _, _], _ => rfl) hm
  have D_closing_by : Def P w K mg base 6 "closing_by" 3 m_closing_by := by
    obtain ⟨f, fd, F, hm⟩ := A_closing_by
    exact d_closing_by T D_need_told D_count_of D_book_by D_picks_right F (F.binds fun _ _ _ _ _ _ us hl => match us, hl with | [_, _, _], _ => rfl) hm
  have D__law_is_whole : Def P w K mg base 1 "_law_is_whole" 1 m__law_is_whole := by
    obtain ⟨f, fd, F, hm⟩ := A__law_is_whole
    exact d__law_is_whole T  F (F.binds fun _ _ _ _ _ _ us hl => match us, hl with | [_], _ => rfl) hm
  have D__law_is_below : Def P w K mg base 2 "_law_is_below" 2 m__law_is_below := by
    obtain ⟨f, fd, F, hm⟩ := A__law_is_below
    exact d__law_is_below T D__law_is_whole F (F.binds fun _ _ _ _ _ _ us hl => match us, hl with | [_, _], _ => rfl) hm
  have D__law_is_pair : Def P w K mg base 3 "_law_is_pair" 1 m__law_is_pair := by
    obtain ⟨f, fd, F, hm⟩ := A__law_is_pair
    exact d__law_is_pair T D__law_is_below F (F.binds fun _ _ _ _ _ _ us hl => match us, hl with | [_], _ => rfl) hm
  have D__law_are_apart : Def P w K mg base 1 "_law_are_apart" 1 m__law_are_apart := by
    obtain ⟨f, fd, F, hm⟩ := A__law_are_apart
    exact d__law_are_apart T  F (F.binds fun _ _ _ _ _ _ us hl => match us, hl with | [_], _ => rfl) hm
  have D__law_is_pick : Def P w K mg base 4 "_law_is_pick" 2 m__law_is_pick := by
    obtain ⟨f, fd, F, hm⟩ := A__law_is_pick
    exact d__law_is_pick T D__law_is_below D__law_is_pair D__law_are_apart F (F.binds fun _ _ _ _ _ _ us hl => match us, hl with | [_, _], _ => rfl) hm
  have D__law_places : Def P w K mg base 1 "_law_places" 1 m__law_places := by
    obtain ⟨f, fd, F, hm⟩ := A__law_places
    exact d__law_places T  F (F.binds fun _ _ _ _ _ _ us hl => match us, hl with | [_], _ => rfl) hm
  have D__law_plus : Def P w K mg base 1 "_law_plus" 3 m__law_plus := by
    obtain ⟨f, fd, F, hm⟩ := A__law_plus
    exact d__law_plus T  F (F.binds fun _ _ _ _ _ _ us hl => match us, hl with | [_, _, _], _ => rfl) hm
  have D__law_nothing : Def P w K mg base 1 "_law_nothing" 1 m__law_nothing := by
    obtain ⟨f, fd, F, hm⟩ := A__law_nothing
    exact d__law_nothing T  F (F.binds fun _ _ _ _ _ _ us hl => match us, hl with | [_], _ => rfl) hm
  have D__law_move_plan : Def P w K mg base 2 "_law_move_plan" 2 m__law_move_plan := by
    obtain ⟨f, fd, F, hm⟩ := A__law_move_plan
    exact d__law_move_plan T D__law_places D__law_plus F (F.binds fun _ _ _ _ _ _ us hl => match us, hl with | [_, _], _ => rfl) hm
  have D__law_is_row : Def P w K mg base 3 "_law_is_row" 2 m__law_is_row := by
    obtain ⟨f, fd, F, hm⟩ := A__law_is_row
    exact d__law_is_row T D__law_is_below F (F.binds fun _ _ _ _ _ _ us hl => match us, hl with | [_, _], _ => rfl) hm
  have D__law_is_table : Def P w K mg base 4 "_law_is_table" 1 m__law_is_table := by
    obtain ⟨f, fd, F, hm⟩ := A__law_is_table
    exact d__law_is_table T D__law_is_row F (F.binds fun _ _ _ _ _ _ us hl => match us, hl with | [_], _ => rfl) hm
  have D__law_is_cut : Def P w K mg base 3 "_law_is_cut" 2 m__law_is_cut := by
    obtain ⟨f, fd, F, hm⟩ := A__law_is_cut
    exact d__law_is_cut T D__law_is_below F (F.binds fun _ _ _ _ _ _ us hl => match us, hl with | [_, _], _ => rfl) hm
  have D__law_all_cuts : Def P w K mg base 1 "_law_all_cuts" 1 m__law_all_cuts := by
    obtain ⟨f, fd, F, hm⟩ := A__law_all_cuts
    exact d__law_all_cuts T  F (F.binds fun _ _ _ _ _ _ us hl => match us, hl with | [_], _ => rfl) hm
  have D__law_is_parting : Def P w K mg base 4 "_law_is_parting" 2 m__law_is_parting := by
    obtain ⟨f, fd, F, hm⟩ := A__law_is_parting
    exact d__law_is_parting T D__law_is_cut F (F.binds fun _ _ _ _ _ _ us hl => match us, hl with | [_, _], _ => rfl) hm
  have D__law_draw : Def P w K mg base 1 "_law_draw" 2 m__law_draw := by
    obtain ⟨f, fd, F, hm⟩ := A__law_draw
    exact d__law_draw T  F (F.binds fun _ _ _ _ _ _ us hl => match us, hl with | [_, _], _ => rfl) hm
  have D__law_pick : Def P w K mg base 2 "_law_pick" 2 m__law_pick := by
    obtain ⟨f, fd, F, hm⟩ := A__law_pick
    exact d__law_pick T D__law_draw F (F.binds fun _ _ _ _ _ _ us hl => match us, hl with | [_, _], _ => rfl) hm
  have D__law_mixed : Def P w K mg base 2 "_law_mixed" 2 m__law_mixed := by
    obtain ⟨f, fd, F, hm⟩ := A__law_mixed
    exact d__law_mixed T D__law_draw F (F.binds fun _ _ _ _ _ _ us hl => match us, hl with | [_, _], _ => rfl) hm
  have D__law_dials : Def P w K mg base 3 "_law_dials" 2 m__law_dials := by
    obtain ⟨f, fd, F, hm⟩ := A__law_dials
    exact d__law_dials T D__law_places D__law_pick F (F.binds fun _ _ _ _ _ _ us hl => match us, hl with | [_, _], _ => rfl) hm
  have D__law_bad_dials : Def P w K mg base 3 "_law_bad_dials" 1 m__law_bad_dials := by
    obtain ⟨f, fd, F, hm⟩ := A__law_bad_dials
    exact d__law_bad_dials T D__law_pick F (F.binds fun _ _ _ _ _ _ us hl => match us, hl with | [_], _ => rfl) hm
  have D_book_of : Def P w K mg base 1 "book_of" 1 m_book_of := by
    obtain ⟨f, fd, F, hm⟩ := A_book_of
    exact d_book_of T  F (F.binds fun _ _ _ _ _ _ us hl => match us, hl with | [_], _ => rfl) hm
  have D_picks_by_spans : Def P w K mg base 1 "picks_by_spans" 2 m_picks_by_spans := by
    obtain ⟨f, fd, F, hm⟩ := A_picks_by_spans
    exact d_picks_by_spans T  F (F.binds fun _ _ _ _ _ _ us hl => match us, hl with | [_, _], _ => rfl) hm
  have D_cut_of : Def P w K mg base 5 "cut_of" 1 m_cut_of := by
    obtain ⟨f, fd, F, hm⟩ := A_cut_of
    exact d_cut_of T D_book_of D_grow_of D_picks_by_spans F (F.binds fun _ _ _ _ _ _ us hl => match us, hl with | [_], _ => rfl) hm
  have D_cut : Def P w K mg base 6 "cut" 1 m_cut := by
    obtain ⟨f, fd, F, hm⟩ := A_cut
    exact d_cut T D_need_table D_cut_of F (F.binds fun _ _ _ _ _ _ us hl => match us, hl with | [_], _ => rfl) hm
  have D__law_near_cut : Def P w K mg base 3 "_law_near_cut" 3 m__law_near_cut := by
    obtain ⟨f, fd, F, hm⟩ := A__law_near_cut
    exact d__law_near_cut T D__law_draw D__law_mixed D__law_pick F (F.binds fun _ _ _ _ _ _ us hl => match us, hl with | [_, _, _], _ => rfl) hm
  have E_need_dials : DefE P w K mg base C 3 "need_dials" 1 m_need_dialsE := by
    obtain ⟨f, fd, F, hm⟩ := A_need_dials'
    exact e_need_dials T D_are_dials ek.dials F (F.binds fun _ _ _ _ _ _ us hl => match us, hl with | [_], _ => rfl) hm
  have E_parting_by : DefE2 P w K mg base C 4 "parting_by" "dials" "cut" m_parting_byE := by
    obtain ⟨fd, F, hm⟩ := A_parting
    refine e_parting_by T D_places_of D_book_by D_table_of D_cuts_right D_count_of D_plus_of E_need_dials ek.cut F (tabs (358, 356) (by decide)) (by decide) (by decide) (F.fn.binds fun _ _ _ _ _ _ us hl => match us, hl with | [_, _], _ => rfl) (fun u v => ?_) hm
    obtain ⟨oc, od, kV, doc, pm, an, ct, osl, rfl, _, _⟩ := F.ex
    rfl
  have ca : CaughtAt K mg := by
    obtain ⟨f, fd, F, hm⟩ := A_caught
    exact ⟨⟨f, fd, F, F.binds fun _ _ _ _ _ _ us hl => match us, hl with | [_], _ => rfl, hm⟩⟩
  obtain ⟨fb, fdb, Fb, hmb⟩ := A_begun
  obtain ⟨fd, ⟨⟨oc, od, kV, doc, pm, an, ct, osl, rfl, lk, hcd⟩, kp⟩, hml⟩ := A_law
  refine LamX.run_ofS (k := 6) (N := lawN) (ps := ["_law_script"]) (us := [.ref az]) (vs := [.ref az]) lk hcd sc_law ⟨rfl, by decide, by decide⟩ env (.of_eq rfl) (.cons rfl .nil) rfl fun hr => ?_
  obtain ⟨t, h1, h2⟩ := law_body T D__law_dials D__law_places D__law_nothing D_moves_table D__law_move_plan D_places D__law_plus D_cut D_total_of D_is_closing D__law_mixed D__law_all_cuts D__law_pick D__law_is_cut D_is_parting D__law_is_parting D_closing_by D__law_is_pick D_mate D_is_cut D__law_is_table D__law_near_cut D__law_bad_dials E_parting_by ek ca (tabs (517, 515) (by decide)) (by decide) (by decide) fb fdb Fb hmb callerA [] sa Hz (fun _ _ _ => False) hr rfl hlen hs (fun p hp => by
    simp only [tbl0, List.mem_cons, List.not_mem_nil, or_false] at hp
    rcases hp with rfl | rfl
    · exact ht (358, 356) (by decide)
    · exact ht (517, 515) (by decide))
  exact ⟨t, h1.nox, h2⟩
end Dv
end
section
set_option linter.all false
set_option maxRecDepth 100000
set_option maxHeartbeats 4000000
/-! V16: the walk, from what the head tells. Printed by gen_fin.py. -/
namespace Dv
open PySem PySem.Spec PyProof.Rows L2 Evl Kept
theorem walkA {l : PySem.W.OpenLaw} {n : Nat} {q : Program} {loose : List Str} {XP : (Str → Option Value) → Heap → Prop} {YP : World → Heap → Prop} {d : DefRec} {K : PySem.Params → PySem.W.Frag}
    (hn : l.most = some n) (hn2 : n ≤ 1000) (hdf : d.params.defaults = []) (hY : ∀ (w : World) (h : Heap), YP w h → (K w.params).In h) (hT : ∀ (w : World) (h : Heap), YP w h → ∀ p ∈ tabsC, h.get? p.2 = some { cls := .none, data := .fields #[] })
    (nT : ∀ w : World, ∀ p ∈ tabsC, (K w.params).lookup p.2 = none) (hC : ∀ w : World, ∀ p ∈ tabsC, PySem.W.codeHdIn (K w.params) p.1 p.2 = true)
    (F : ∀ (w : World) (mg : Str → Option Value) (fa : Addr) (h : Heap), YP w h → (K w.params).In h → h.Ns mainGlobals mg → mg d.name = some (.ref fa) → ∀ (base : Heap) (sa : Shared) (az : Addr) (is1 : List Int) (Hz : Hp), is1.length ≤ 1000 → (∀ pz ∈ tabsC, LamX.TabB base mg pz.1 pz.2) → Env0 l.prog w (K w.params) mg base callerA [] sa Hz → (∀ pz ∈ tabsC, Hz pz.2 = some (.tbl #[])) → SqL (K w.params) Hz az (is1.map V.int) →
      codeAny (model l.prog w) callerA (.call (.ref fa) ⟨[.ref az], []⟩) (CR CX0 [] l.prog w Hz sa (fun vz _ => vz = .bl true) fun _ _ _ => False) sa) :
    PySem.W.WalkO q loose XP YP l.row.toRowW d [] (fun f vs => PySem.call f vs) := by
  refine Att.attach_callB hn hdf fun w s₀ s₁ mg mb fa oo pm cd doc a vs ns G Y ho hd hcd hmg hobj hints hlen hbits hg => ?_
  have KX := hY w _ Y
  have most : ns.length ≤ 1000 := Nat.le_trans hlen hn2
  have small : (1000 : Nat) ≤ sizeLine := by decide
  refine LamX.law_callA (ct := tabsC) KX G.T.g G.T.b G.T.builtins G.T.nolimit hg (hT w _ Y) (nT w) (fun p hp => PySem.W.codeHd_of_K KX (hC w p hp)) G.T.bmain hobj hints (Nat.le_trans most small) (fun base Hz _ _ tabs env ht hs => ?_) fun _ _ _ z => z
  exact F w mg fa _ Y KX G.T.g hmg base s₁ a ns Hz most tabs env ht hs
def two (a b : Addr) : Nat → Addr
  | 1 => a
  | _ => b
theorem cls_mk {K : PySem.W.Frag} {mg : Str → Option Value} {h : Heap} {x : Str} {a : Addr} (X : K.In h) (G : h.Ns mainGlobals mg) (e : PySem.W.nsIn K mainGlobals x = some (some (.ref a))) (e1 : PySem.W.excIn K a [.type "ValueError", .type "Exception", .type "BaseException", .type "object"] "ValueError.__new__" = true)
    (e2 : PySem.W.keepIn K (.ref a) = true) (e3 : PySem.W.subIn K (.ref a) (.type "BaseException") = some true) (e4 : PySem.W.typeIn K (.ref a) = some (.type "type")) (f1 : PySem.W.findIn K (.ref a) "__getattribute__" = some (some (.builtin "BaseException.__getattribute__")))
    (f2 : PySem.W.findIn K (.ref a) "__getattr__" = some none) (f4 : PySem.W.hasDictIn K a = true) (f5 : PySem.W.findIn K (.ref a) "__class__" = some (some (.builtin "object.__class__"))) (f6 : PySem.W.specialIn K (.builtin "object.__class__") "__get__" = some (some (.builtin "getset_descriptor.__get__")))
    (f7 : PySem.W.takesIn K (.builtin "object.__class__") = some true) (f8 : PySem.W.mroIn K a (.type "object") = some true) : ExCls K mg x a := ⟨PySem.W.mg_of X G e, e1, e2, e3, e4, ⟨f1, f2, e3, f4, f5, f6, f7, f8⟩⟩
end Dv
end
section
set_option linter.all false
open PySem PySem.W PyProof.Rows
set_option maxRecDepth 100000
set_option maxHeartbeats 8000000
open_top hd for PySem.Challenge.rw_pairpicks_k76_whole_all_moves_once
end
section
set_option linter.all false
set_option maxRecDepth 100000
set_option maxHeartbeats 4000000
open PySem PySem.W PyProof.Rows
theorem PySem.Challenge.cw_pairpicks_k76_whole_all_moves_once_holds : PySem.Challenge.rw_pairpicks_k76_whole_all_moves_once.Holds := by
  refine hd ?_
  k_fill
  refine Dv.walkA (l := PySem.Challenge.rw_pairpicks_k76_whole_all_moves_once) (K := hd.heap_39) rfl (by decide) rfl (fun w h Y => km_in_of Y) (fun w h Y p hp => km_tabs_of Y p.2 ?tabs) (fun w p hp => ?nT) (fun w p hp => ?hC) ?F
  case tabs =>
    simp only [Dv.tabsC, List.mem_cons, List.not_mem_nil, or_false] at hp
    rcases hp with rfl | rfl
    · decide
    · decide
  case nT =>
    simp only [Dv.tabsC, List.mem_cons, List.not_mem_nil, or_false] at hp
    rcases hp with rfl | rfl
    · kernel_rfl
    · kernel_rfl
  case hC =>
    simp only [Dv.tabsC, List.mem_cons, List.not_mem_nil, or_false] at hp
    rcases hp with rfl | rfl
    · kernel_rfl
    · kernel_rfl
  case F =>
    intro w mg fa h Y KX G hmg base sa az is1 Hz hlen tabs env ht hs
    have T : Dv.Txt mg := ⟨mg_none_of KX G (by k_is), mg_none_of KX G (by k_is), mg_none_of KX G (by k_is), mg_none_of KX G (by k_is), mg_none_of KX G (by k_is), mg_none_of KX G (by k_is), mg_none_of KX G (by k_is), mg_none_of KX G (by k_is), mg_none_of KX G (by k_is), mg_none_of KX G (by k_is), mg_none_of KX G (by k_is), mg_none_of KX G (by k_is), mg_none_of KX G (by k_is), mg_none_of KX G (by k_is), mg_none_of KX G (by k_is), mg_none_of KX G (by k_is), mg_none_of KX G (by k_is), ⟨_, mg_of KX G (by k_is)⟩, ⟨_, mg_of KX G (by k_is)⟩, ⟨_, mg_of KX G (by k_is)⟩, ⟨_, mg_of KX G (by k_is)⟩, ⟨_, mg_of KX G (by k_is)⟩⟩
    have A_is_between : Dv.At (hd.heap_39 w.params) mg "is_between" (Dv.top 12) := Dv.at_mk KX G (by k_is) (by k_is) (by k_is) (by k_is)
    have A_is_pair : Dv.At (hd.heap_39 w.params) mg "is_pair" (Dv.top 13) := Dv.at_mk KX G (by k_is) (by k_is) (by k_is) (by k_is)
    have A_are_apart : Dv.At (hd.heap_39 w.params) mg "are_apart" (Dv.top 14) := Dv.at_mk KX G (by k_is) (by k_is) (by k_is) (by k_is)
    have A_count_of : Dv.At (hd.heap_39 w.params) mg "count_of" (Dv.top 18) := Dv.at_mk KX G (by k_is) (by k_is) (by k_is) (by k_is)
    have A_are_dials : Dv.At (hd.heap_39 w.params) mg "are_dials" (Dv.top 19) := Dv.at_mk KX G (by k_is) (by k_is) (by k_is) (by k_is)
    have A_need_dials : Dv.At (hd.heap_39 w.params) mg "need_dials" (Dv.top 20) := Dv.at_mk KX G (by k_is) (by k_is) (by k_is) (by k_is)
    have A_is_place : Dv.At (hd.heap_39 w.params) mg "is_place" (Dv.top 21) := Dv.at_mk KX G (by k_is) (by k_is) (by k_is) (by k_is)
    have A_are_moves : Dv.At (hd.heap_39 w.params) mg "are_moves" (Dv.top 22) := Dv.at_mk KX G (by k_is) (by k_is) (by k_is) (by k_is)
    have A_need_moves : Dv.At (hd.heap_39 w.params) mg "need_moves" (Dv.top 23) := Dv.at_mk KX G (by k_is) (by k_is) (by k_is) (by k_is)
    have A_places_of : Dv.At (hd.heap_39 w.params) mg "places_of" (Dv.top 24) := Dv.at_mk KX G (by k_is) (by k_is) (by k_is) (by k_is)
    have A_nothing_of : Dv.At (hd.heap_39 w.params) mg "nothing_of" (Dv.top 25) := Dv.at_mk KX G (by k_is) (by k_is) (by k_is) (by k_is)
    have A_plus_of : Dv.At (hd.heap_39 w.params) mg "plus_of" (Dv.top 26) := Dv.at_mk KX G (by k_is) (by k_is) (by k_is) (by k_is)
    have A_sum_of : Dv.At (hd.heap_39 w.params) mg "sum_of" (Dv.top 27) := Dv.at_mk KX G (by k_is) (by k_is) (by k_is) (by k_is)
    have A_plan_by : Dv.At (hd.heap_39 w.params) mg "plan_by" (Dv.top 28) := Dv.at_mk KX G (by k_is) (by k_is) (by k_is) (by k_is)
    have A_book_by : Dv.At (hd.heap_39 w.params) mg "book_by" (Dv.top 29) := Dv.at_mk KX G (by k_is) (by k_is) (by k_is) (by k_is)
    have A_places : Dv.At (hd.heap_39 w.params) mg "places" (Dv.top 30) := Dv.at_mk KX G (by k_is) (by k_is) (by k_is) (by k_is)
    have A_total_of : Dv.At (hd.heap_39 w.params) mg "total_of" (Dv.top 31) := Dv.at_mk KX G (by k_is) (by k_is) (by k_is) (by k_is)
    have A_are_rising : Dv.At (hd.heap_39 w.params) mg "are_rising" (Dv.top 33) := Dv.at_mk KX G (by k_is) (by k_is) (by k_is) (by k_is)
    have A_picks_right : Dv.At (hd.heap_39 w.params) mg "picks_right" (Dv.top 35) := Dv.at_mk KX G (by k_is) (by k_is) (by k_is) (by k_is)
    have A_sorted_pick : Dv.At (hd.heap_39 w.params) mg "sorted_pick" (Dv.top 36) := Dv.at_mk KX G (by k_is) (by k_is) (by k_is) (by k_is)
    have A_unused_of : Dv.At (hd.heap_39 w.params) mg "unused_of" (Dv.top 37) := Dv.at_mk KX G (by k_is) (by k_is) (by k_is) (by k_is)
    have A_links_of : Dv.At (hd.heap_39 w.params) mg "links_of" (Dv.top 39) := Dv.at_mk KX G (by k_is) (by k_is) (by k_is) (by k_is)
    have A_path_of : Dv.At (hd.heap_39 w.params) mg "path_of" (Dv.top 40) := Dv.at_mk KX G (by k_is) (by k_is) (by k_is) (by k_is)
    have A_grown_of : Dv.At (hd.heap_39 w.params) mg "grown_of" (Dv.top 41) := Dv.at_mk KX G (by k_is) (by k_is) (by k_is) (by k_is)
    have A_grow_of : Dv.At (hd.heap_39 w.params) mg "grow_of" (Dv.top 43) := Dv.at_mk KX G (by k_is) (by k_is) (by k_is) (by k_is)
    have A_is_row : Dv.At (hd.heap_39 w.params) mg "is_row" (Dv.top 48) := Dv.at_mk KX G (by k_is) (by k_is) (by k_is) (by k_is)
    have A_tables_right : Dv.At (hd.heap_39 w.params) mg "tables_right" (Dv.top 49) := Dv.at_mk KX G (by k_is) (by k_is) (by k_is) (by k_is)
    have A_need_table : Dv.At (hd.heap_39 w.params) mg "need_table" (Dv.top 50) := Dv.at_mk KX G (by k_is) (by k_is) (by k_is) (by k_is)
    have A_table_of : Dv.At (hd.heap_39 w.params) mg "table_of" (Dv.top 52) := Dv.at_mk KX G (by k_is) (by k_is) (by k_is) (by k_is)
    have A_cuts_right : Dv.At (hd.heap_39 w.params) mg "cuts_right" (Dv.top 53) := Dv.at_mk KX G (by k_is) (by k_is) (by k_is) (by k_is)
    have A_moves_table : Dv.At (hd.heap_39 w.params) mg "moves_table" (Dv.top 55) := Dv.at_mk KX G (by k_is) (by k_is) (by k_is) (by k_is)
    have A_is_cut : Dv.At (hd.heap_39 w.params) mg "is_cut" (Dv.top 56) := Dv.at_mk KX G (by k_is) (by k_is) (by k_is) (by k_is)
    have A_need_even : Dv.At (hd.heap_39 w.params) mg "need_even" (Dv.top 59) := Dv.at_mk KX G (by k_is) (by k_is) (by k_is) (by k_is)
    have A_parts_right : Dv.At (hd.heap_39 w.params) mg "parts_right" (Dv.top 60) := Dv.at_mk KX G (by k_is) (by k_is) (by k_is) (by k_is)
    have A_is_parting : Dv.At (hd.heap_39 w.params) mg "is_parting" (Dv.top 61) := Dv.at_mk KX G (by k_is) (by k_is) (by k_is) (by k_is)
    have A_mate : Dv.At (hd.heap_39 w.params) mg "mate" (Dv.top 62) := Dv.at_mk KX G (by k_is) (by k_is) (by k_is) (by k_is)
    have A_closes : Dv.At (hd.heap_39 w.params) mg "closes" (Dv.top 65) := Dv.at_mk KX G (by k_is) (by k_is) (by k_is) (by k_is)
    have A_need_told : Dv.At (hd.heap_39 w.params) mg "need_told" (Dv.top 66) := Dv.at_mk KX G (by k_is) (by k_is) (by k_is) (by k_is)
    have A_is_closing : Dv.At (hd.heap_39 w.params) mg "is_closing" (Dv.top 67) := Dv.at_mk KX G (by k_is) (by k_is) (by k_is) (by k_is)
    have A_closing_by : Dv.At (hd.heap_39 w.params) mg "closing_by" (Dv.top 68) := Dv.at_mk KX G (by k_is) (by k_is) (by k_is) (by k_is)
    have A__law_is_whole : Dv.At (hd.heap_39 w.params) mg "_law_is_whole" (Dv.top 75) := Dv.at_mk KX G (by k_is) (by k_is) (by k_is) (by k_is)
    have A__law_is_below : Dv.At (hd.heap_39 w.params) mg "_law_is_below" (Dv.top 76) := Dv.at_mk KX G (by k_is) (by k_is) (by k_is) (by k_is)
    have A__law_is_pair : Dv.At (hd.heap_39 w.params) mg "_law_is_pair" (Dv.top 77) := Dv.at_mk KX G (by k_is) (by k_is) (by k_is) (by k_is)
    have A__law_are_apart : Dv.At (hd.heap_39 w.params) mg "_law_are_apart" (Dv.top 78) := Dv.at_mk KX G (by k_is) (by k_is) (by k_is) (by k_is)
    have A__law_is_pick : Dv.At (hd.heap_39 w.params) mg "_law_is_pick" (Dv.top 79) := Dv.at_mk KX G (by k_is) (by k_is) (by k_is) (by k_is)
    have A__law_places : Dv.At (hd.heap_39 w.params) mg "_law_places" (Dv.top 81) := Dv.at_mk KX G (by k_is) (by k_is) (by k_is) (by k_is)
    have A__law_plus : Dv.At (hd.heap_39 w.params) mg "_law_plus" (Dv.top 82) := Dv.at_mk KX G (by k_is) (by k_is) (by k_is) (by k_is)
    have A__law_nothing : Dv.At (hd.heap_39 w.params) mg "_law_nothing" (Dv.top 83) := Dv.at_mk KX G (by k_is) (by k_is) (by k_is) (by k_is)
    have A__law_move_plan : Dv.At (hd.heap_39 w.params) mg "_law_move_plan" (Dv.top 84) := Dv.at_mk KX G (by k_is) (by k_is) (by k_is) (by k_is)
    have A__law_is_row : Dv.At (hd.heap_39 w.params) mg "_law_is_row" (Dv.top 86) := Dv.at_mk KX G (by k_is) (by k_is) (by k_is) (by k_is)
    have A__law_is_table : Dv.At (hd.heap_39 w.params) mg "_law_is_table" (Dv.top 87) := Dv.at_mk KX G (by k_is) (by k_is) (by k_is) (by k_is)
    have A__law_is_cut : Dv.At (hd.heap_39 w.params) mg "_law_is_cut" (Dv.top 88) := Dv.at_mk KX G (by k_is) (by k_is) (by k_is) (by k_is)
    have A__law_all_cuts : Dv.At (hd.heap_39 w.params) mg "_law_all_cuts" (Dv.top 90) := Dv.at_mk KX G (by k_is) (by k_is) (by k_is) (by k_is)
    have A__law_is_parting : Dv.At (hd.heap_39 w.params) mg "_law_is_parting" (Dv.top 91) := Dv.at_mk KX G (by k_is) (by k_is) (by k_is) (by k_is)
    have A__law_draw : Dv.At (hd.heap_39 w.params) mg "_law_draw" (Dv.top 71) := Dv.at_mk KX G (by k_is) (by k_is) (by k_is) (by k_is)
    have A__law_pick : Dv.At (hd.heap_39 w.params) mg "_law_pick" (Dv.top 72) := Dv.at_mk KX G (by k_is) (by k_is) (by k_is) (by k_is)
    have A__law_mixed : Dv.At (hd.heap_39 w.params) mg "_law_mixed" (Dv.top 73) := Dv.at_mk KX G (by k_is) (by k_is) (by k_is) (by k_is)
    have A__law_dials : Dv.At (hd.heap_39 w.params) mg "_law_dials" (Dv.top 80) := Dv.at_mk KX G (by k_is) (by k_is) (by k_is) (by k_is)
    have A__law_bad_dials : Dv.At (hd.heap_39 w.params) mg "_law_bad_dials" (Dv.top 85) := Dv.at_mk KX G (by k_is) (by k_is) (by k_is) (by k_is)
    have A_book_of : Dv.At (hd.heap_39 w.params) mg "book_of" (Dv.top 51) := Dv.at_mk KX G (by k_is) (by k_is) (by k_is) (by k_is)
    have A_picks_by_spans : Dv.At (hd.heap_39 w.params) mg "picks_by_spans" (Dv.top 45) := Dv.at_mk KX G (by k_is) (by k_is) (by k_is) (by k_is)
    have A_cut_of : Dv.At (hd.heap_39 w.params) mg "cut_of" (Dv.top 54) := Dv.at_mk KX G (by k_is) (by k_is) (by k_is) (by k_is)
    have A_cut : Dv.At (hd.heap_39 w.params) mg "cut" (Dv.top 57) := Dv.at_mk KX G (by k_is) (by k_is) (by k_is) (by k_is)
    have A__law_near_cut : Dv.At (hd.heap_39 w.params) mg "_law_near_cut" (Dv.top 89) := Dv.at_mk KX G (by k_is) (by k_is) (by k_is) (by k_is)
    have A_begun : Dv.At (hd.heap_39 w.params) mg "_law_begun" (Dv.top 70) := Dv.at_mk KX G (by k_is) (by k_is) (by k_is) (by k_is)
    have A_caught : Dv.At (hd.heap_39 w.params) mg "_law_caught" (Dv.top 74) := Dv.at_mk KX G (by k_is) (by k_is) (by k_is) (by k_is)
    have A_parting : Dv.AtC (hd.heap_39 w.params) mg "parting_by" (Dv.top 63) 359 358 := Dv.atC_mk KX G (by k_is) (by k_is) (by k_is) (by k_is)
    have A_law : Dv.AtC (hd.heap_39 w.params) mg "law" (Dv.top 92) 518 517 := Dv.atC_mk KX G (by k_is) (by k_is) (by k_is) (by k_is)
    have X_dials := Dv.cls_mk (x := "BadDials") KX G (by k_is) (by k_exc) (by k_is) (by k_is) (by k_is) (by k_is) (by k_is) (by k_is) (by k_is) (by k_is) (by k_is) (by k_is)
    have X_cut := Dv.cls_mk (x := "BadCut") KX G (by k_is) (by k_exc) (by k_is) (by k_is) (by k_is) (by k_is) (by k_is) (by k_is) (by k_is) (by k_is) (by k_is) (by k_is)
    have e := hmg.symm.trans (show mg "law" = _ from let ⟨_, _, z⟩ := A_law; z)
    cases e
    have ek : Dv.ExKit (hd.heap_39 w.params) mg (Dv.two _ _) _ := ⟨X_dials, X_cut, mg_of KX G (by k_is), by kernel_rfl, by kernel_rfl, by kernel_rfl, by kernel_rfl, by kernel_rfl, by kernel_rfl, by kernel_rfl, by kernel_rfl⟩
    exact Dv.law_runs T A_is_between A_is_pair A_are_apart A_count_of A_are_dials A_need_dials A_is_place A_are_moves A_need_moves A_places_of A_nothing_of A_plus_of A_sum_of A_plan_by A_book_by A_places A_total_of A_are_rising A_picks_right A_sorted_pick A_unused_of A_links_of A_path_of A_grown_of A_grow_of A_is_row A_tables_right A_need_table A_table_of A_cuts_right A_moves_table A_is_cut A_need_even A_parts_right A_is_parting A_mate A_closes A_need_told A_is_closing A_closing_by A__law_is_whole A__law_is_below A__law_is_pair A__law_are_apart A__law_is_pick A__law_places A__law_plus A__law_nothing A__law_move_plan A__law_is_row A__law_is_table A__law_is_cut A__law_all_cuts A__law_is_parting A__law_draw A__law_pick A__law_mixed A__law_dials A__law_bad_dials A_book_of A_picks_by_spans A_cut_of A_cut A__law_near_cut A_need_dials A_begun A_caught A_parting A_law ek hlen tabs env ht hs
end
