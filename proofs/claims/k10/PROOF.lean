import PyProof.Rows.All
import Wide.All
import OpenK.AllK
import Wide.FinOn
import HandS.SetKeys
import KE.KDictCopyH
import HandS.ForMost
import HandS.Flow
import HandS.Deep
import HandS.TupAny
import HandS.TupMul
import HandS.IsInst
import HandS.Conv
import HandS.DictComp
import HandS.ForExc
import HandS.Star
import HandS.Lambda
import PyProof.ReprRoads
import PyProof.StrLawsRepr
import KE.GoesEnum
import HandS.Zip
import HandS.WordsDict
import KE.KDictKeyed
import PyProof.Rows.SeqRoads
import HandS.Dict
import HandS.List
import HandS.ExcInit
import HandS.Style
import HandS.ExcIs
import HandS.ExcField
import HandS.ExcValue
import HandS.SortInts
import HandS.Keys
import KE.KSortedM
import PyProof.TupleOfSeq
import KE.KDictSum
import KE.SortData
import KE.DataMinMax
import KE.DataEq
import HandS.Flt
import HandS.Text
import HandS.EndTab
import HandS.HeadHook4
import HandS.HeadWalk
import HandS.NestedK
import KE.KStateDown
import HandS.Head0
import HandS.Head1
import HandS.Head2
import HandS.Wide
import HandS.Small
import PySem.Challenge.RW_shortbars_k10_part_b_by_hand_and_refused
set_option Elab.async false
set_option linter.all false
set_option maxRecDepth 100000
set_option maxHeartbeats 0
/-! dicts whose keys are whole numbers and None -/
namespace L2
open PySem PySem.Spec PyProof.Rows
def nnIs : Option Int → Value → Bool
  | none, .none => true
  | some i, v => Value.isInt i v
  | _, _ => false
def nnLeaf : Option Int → Leaf
  | none => .none
  | some i => .num i
theorem nn_shape {k : Option Int} {v : Value} (h : nnIs k v = true) : (k = none ∧ v = .none) ∨ ∃ i t, k = some i ∧ v = .int i t := by
  cases k with
  | none => cases v <;> first | exact .inl ⟨rfl, rfl⟩ | cases h
  | some i =>
    have h' : Value.isInt i v = true := by cases v <;> exact h
    obtain ⟨t, rfl⟩ := Value.isInt_shape h'
    exact .inr ⟨i, t, rfl, rfl⟩
theorem nn_leaf {k : Option Int} {v : Value} (h : nnIs k v = true) : Leaf.isOf (nnLeaf k) v = true := by
  rcases nn_shape h with ⟨rfl, rfl⟩ | ⟨i, t, rfl, rfl⟩
  · rfl
  · exact decide_eq_true rfl
theorem nn_int (i : Int) (t : Tok) : nnIs (some i) (.int i t) = true := by
  show Value.isInt i (.int i t) = true
  simp [Value.isInt]
def nnHash : Option Int → Int
  | none => reduceHash 0xFCA86420
  | some i => hashInt i
theorem nn_hash {w : World} (k : Option Int) : (nnLeaf k).key.hash w = nnHash k := by cases k <;> rfl
def nnKind (prog : Program) (w : World) : PySem.KeyKind prog w (Option Int) where
  is := nnIs
  hash := nnHash
  inj := fun v a b ha hb => by
    rcases nn_shape ha with ⟨rfl, rfl⟩ | ⟨i, t, rfl, rfl⟩
    · rcases nn_shape hb with ⟨rfl, _⟩ | ⟨j, u, rfl, e⟩
      · rfl
      · exact nomatch e
    · rcases nn_shape hb with ⟨rfl, e⟩ | ⟨j, u, rfl, e⟩
      · exact nomatch e
      · injection e with e1 _; rw [e1]
  byValue := fun k v h => Leaf.byValue (nn_leaf h)
  pyHash := fun {k v A Q E s} hv h => by
    rw [← nn_hash (w := w)] at h
    exact pyHash_leaf (nn_leaf hv) h
  eqBool := fun hu hv h => eqAt_leaf (nn_leaf hu) (nn_leaf hv) _ _ _ _ (by
    rcases nn_shape hu with ⟨rfl, rfl⟩ | ⟨i, t, rfl, rfl⟩ <;> rcases nn_shape hv with ⟨rfl, rfl⟩ | ⟨j, u, rfl, rfl⟩ <;> first | exact h | skip
    have e : decide (Leaf.num i = Leaf.num j) = decide ((some i : Option Int) = some j) := by
      by_cases q : i = j
      · subst q; simp
      · rw [decide_eq_false fun z => q (Option.some.inj z), decide_eq_false fun z => q (Leaf.num.inj z)]
    show _
    rw [show decide (nnLeaf (some i) = nnLeaf (some j)) = decide ((some i : Option Int) = some j) from e]
    exact h)
  «strs» := fun k x t v h => by
    rcases nn_shape h with ⟨rfl, e⟩ | ⟨i, u, rfl, e⟩ <;> exact nomatch e
/-- a key as a value -/
def nV : Option Int → V
  | none => .non
  | some i => .int i
theorem nn_of {k : Option Int} {u : Value} (r : RelV (nV k) u) : nnIs k u = true := by
  cases k with
  | none =>
    have r : u = Value.none := r
    subst r; rfl
  | some i =>
    obtain ⟨t, rfl⟩ := r
    exact nn_int i t
theorem nn_rel {k : Option Int} {u : Value} (h : nnIs k u = true) : RelV (nV k) u := by
  rcases nn_shape h with ⟨rfl, rfl⟩ | ⟨i, t, rfl, rfl⟩
  · rfl
  · exact ⟨t, rfl⟩
end L2
namespace Ev
open PySem PySem.Spec PyProof.Rows L2
/-- a dict's entries by keys and values -/
def NN (a : Addr) (es : Array DictEntry) (kws : List (Option Int × V)) : Prop := kws.length ≤ sizeLine ∧ (a == sysModules) = false ∧ ∃ (P : Program) (w : World) (vs : List (Option Int × Value)), KV kws vs ∧ KeysOf (nnKind P w) es ∧ Pairs (nnKind P w) es.toList vs ∧ (vs.map (·.1)).Nodup
theorem nn_pairs {P P' : Program} {w w' : World} {l : List DictEntry} {vs : List (Option Int × Value)} (h : Pairs (nnKind P w) l vs) : Pairs (nnKind P' w') l vs := by
  induction h with
  | nil => exact .nil
  | cons a b _ ih => exact .cons a b ih
end Ev

namespace Ev
open PySem PySem.Spec PyProof.Rows L2

/-! the state of the draws: a dict at d, known up to how many draws there were -/
class Wd where
  d : Addr
  dr : Nat → Heap → Prop
  dct : ∀ T h, dr T h → ∃ o es ep, h.get? d = some o ∧ o.data = .dict es ep
  sepD : ∀ (T : Nat) (D : Addr) (es : Array DictEntry), ∃ h, dr T h ∧ ¬ ∃ o ep, h.get? D = some o ∧ o.ExactDict ∧ o.data = .dict es ep
  /-- what else is known of it -/
  aux : Hp → Prop
  auxm : ∀ H H' : Hp, (∀ a o, a ≠ d → H a = some o → (∀ ps, o ≠ .tbl ps) → H' a = some o) → aux H → aux H'
def one (a : Addr) (o : Obj) : Heap := { objs := Array.replicate (a + 1) o }
theorem one_get {a b : Addr} {o x : Obj} (z : (one a o).get? b = some x) : x = o := by
  unfold one Heap.get? at z
  simp only [Array.getElem?_replicate] at z
  by_cases hb : b < a + 1
  · simp only [hb, if_true] at z
    split at z
    · cases z
    · cases z; rfl
  · simp only [hb, if_false] at z
    cases z
theorem one_at {a : Addr} {o : Obj} (h : ∀ p d s, o ≠ ⟨p, d, .freed, s⟩) : (one a o).get? a = some o := by
  unfold one Heap.get?
  simp only [Array.getElem?_replicate]
  rw [if_pos (Nat.lt_succ_self a)]
  split
  · rename_i e
    exact absurd (Option.some.inj e) (h _ _ _)
  · rfl
variable [Wd]
abbrev drO (T : Nat) : HO := .ext (Wd.dr T)
theorem drO_flds {T : Nat} {φ : Heap → Prop} {a : Addr} {c : Value} {dx : Option Addr} {vs : Array Value} (h : φ (one a { cls := c, dict := dx, data := .fields vs })) : HO.ext φ ≠ drO T := fun e => by
  have e2 : φ = Wd.dr T := HO.ext.inj e
  rw [e2] at h
  obtain ⟨o, es, ep, e3, e4⟩ := Wd.dct T _ h
  rw [one_get e3] at e4
  cases e4
/-- at a: an exception of the class cls with the dict d -/
def ExK (cls : Value) (d : Option Addr) (a : Addr) : HO := .ext fun h => ∃ (oe : Obj) (vs : Array Value), h.get? a = some oe ∧ Zc cls d oe ∧ oe.data = .fields vs
/-! results -/
inductive Res (α : Type) where
  | ok (a : α)
  | exn (c : Nat) (d : PyData)
  | bad
  /-- a number from 0 to below n, none knows which -/
  | ask (n : Int) (f : Int → Res α)
def Res.bind {α β : Type} : Res α → (α → Res β) → Res β
  | .ok a, f => f a
  | .exn c d, _ => .exn c d
  | .bad, _ => .bad
  | .ask n g, f => .ask n fun r => (g r).bind f
/-- .. where none is asked -/
def noA {α : Type} : Res α → Res α
  | .ask _ _ => .bad
  | m => m
def Res.of {α : Type} : Option α → Res α
  | some a => .ok a
  | none => .bad

/-! a datum at a value -/
def keyOf : PyData → Option Key
  | .int i => some (.inl i)
  | .str s => some (.inr s)
  | _ => none
/-- the state of the draws as a datum -/
def tok : PyData := .dict [(.none, .none)]
def isTok : List (PyData × PyData) → Bool
  | [(.none, .none)] => true
  | _ => false
mutual
def R (K : PySem.W.Frag) (H : Hp) : PyData → V → Prop
  | .none, v => v = .non
  | .bool b, v => v = .bl b
  | .int i, v => v = .int i
  | .str s, v => v = .str s
  | .list ds, v => ∃ a vs, v = .ref a ∧ H a = some (.lst vs) ∧ Rs K H ds vs
  | .tuple ds, v => ∃ a vs, v = .ref a ∧ SqT K H a vs ∧ Rs K H ds vs
  | .dict kvs, v => (isTok kvs = false ∧ ∃ a o kws, v = .ref a ∧ H a = some (.frz o (.dK kws)) ∧ Rk K H kvs kws) ∨ (isTok kvs = true ∧ v = .ref Wd.d ∧ (∃ T, H Wd.d = some (drO T)) ∧ Wd.aux H)
def Rs (K : PySem.W.Frag) (H : Hp) : List PyData → List V → Prop
  | [], vs => vs = []
  | d :: ds, vs => ∃ v r, vs = v :: r ∧ R K H d v ∧ Rs K H ds r
def Rp (K : PySem.W.Frag) (H : Hp) : PyData × PyData → Key × V → Prop
  | (k, d), q => keyOf k = some q.1 ∧ R K H d q.2
def Rk (K : PySem.W.Frag) (H : Hp) : List (PyData × PyData) → List (Key × V) → Prop
  | [], vs => vs = []
  | d :: ds, vs => ∃ v r, vs = v :: r ∧ Rp K H d v ∧ Rk K H ds r
end

/-- all but the tables of code objects stay -/
def nt : HO → Prop
  | .tbl _ => False
  | _ => True
class Nt (o : HO) : Prop where
  nt : nt o
instance {xs : List V} : Nt (.lst xs) := ⟨trivial⟩
instance {xs : List V} : Nt (.tup xs) := ⟨trivial⟩
instance {o : Obj} {u : HO} : Nt (.frz o u) := ⟨trivial⟩
instance {fs : List (Str × V)} : Nt (.xd fs) := ⟨trivial⟩
instance {kvs : List (Key × V)} : Nt (.dK kvs) := ⟨trivial⟩
instance {φ : Heap → Prop} : Nt (.ext φ) := ⟨trivial⟩
instance {cls : Value} {d : Option Addr} {a : Addr} : Nt (ExK cls d a) := ⟨trivial⟩
class Nd (o : HO) : Prop where
  nd : ∀ T, o ≠ drO T
instance {xs : List V} : Nd (.lst xs) := ⟨fun _ h => by cases h⟩
instance {xs : List V} : Nd (.tup xs) := ⟨fun _ h => by cases h⟩
instance {o : Obj} {u : HO} : Nd (.frz o u) := ⟨fun _ h => by cases h⟩
instance {fs : List (Str × V)} : Nd (.xd fs) := ⟨fun _ h => by cases h⟩
instance {kvs : List (Key × V)} : Nd (.dK kvs) := ⟨fun _ h => by cases h⟩
theorem exK_nd {cls : Value} {dx : Option Addr} {a : Addr} (T : Nat) : ExK cls dx a ≠ drO T := drO_flds (a := a) (c := cls) (dx := dx) (vs := #[]) ⟨_, #[], one_at (by simp), ⟨rfl, rfl⟩, rfl⟩
theorem codeO_nd {c : Addr} {q : Str} (T : Nat) : LamX.CodeO c q ≠ drO T := drO_flds (a := c) (c := .none) (dx := none) (vs := #[.none, .str q default]) ⟨_, _, default, one_at (by simp), rfl, rfl⟩
instance {cls : Value} {dx : Option Addr} {a : Addr} : Nd (ExK cls dx a) := ⟨exK_nd⟩
/-- all but the tables stays -/
structure Exs (H H' : Hp) : Prop where
  at_ : ∀ a o, H a = some o → nt o → H' a = some o
/-- .. and how many draws there were -/
structure Ex (H H' : Hp) : Prop where
  at_ : ∀ a o, H a = some o → nt o → (a ≠ Wd.d ∨ ∀ T, o ≠ drO T) → H' a = some o
  dr : ∀ T, H Wd.d = some (drO T) → ∃ T', H' Wd.d = some (drO T')
theorem Exs.w {H H' : Hp} (s : Exs H H') : Ex H H' := ⟨fun a o e n _ => s.at_ a o e n, fun T e => ⟨T, s.at_ _ _ e trivial⟩⟩
instance {H H' : Hp} : CoeOut (Exs H H') (Ex H H') := ⟨fun s => s.w⟩
theorem Exs.g {H H' : Hp} (s : Exs H H') (a : Addr) (o : HO) (e : H a = some o) [n : Nt o] : H' a = some o := s.at_ a o e n.nt
theorem Ex.g {H H' : Hp} (s : Ex H H') (a : Addr) (o : HO) (e : H a = some o) [n : Nt o] [k : Nd o] : H' a = some o := s.at_ a o e n.nt (.inr k.nd)
theorem Exs.refl (H : Hp) : Exs H H := ⟨fun _ _ e _ => e⟩
theorem Exs.trans {H H1 H2 : Hp} (a : Exs H H1) (b : Exs H1 H2) : Exs H H2 := ⟨fun x o e n => b.at_ x o (a.at_ x o e n) n⟩
theorem Exs.all {H H' : Hp} (h : ∀ a o, H a = some o → H' a = some o) : Exs H H' := ⟨fun a o e _ => h a o e⟩
theorem Ex.refl (H : Hp) : Ex H H := (Exs.refl H).w
theorem Ex.trans {H H1 H2 : Hp} (a : Ex H H1) (b : Ex H1 H2) : Ex H H2 := ⟨fun x o e n k => b.at_ x o (a.at_ x o e n k) n k, fun T e => let ⟨_, e1⟩ := a.dr T e; b.dr _ e1⟩
theorem Ex.all {H H' : Hp} (h : ∀ a o, H a = some o → H' a = some o) : Ex H H' := (Exs.all h).w
theorem Ex.aux {H H' : Hp} (s : Ex H H') (h : Wd.aux H) : Wd.aux H' := Wd.auxm H H' (fun a o na e n => s.at_ a o e (by cases o <;> first | trivial | exact absurd rfl (n _)) (.inl na)) h
structure Sm (TT : List (Addr × Str)) (H H' : Hp) : Prop where
  ex : Exs H H'
  tab : LamX.Tabs TT H → LamX.Tabs TT H'
  live : ∀ a, H' a = none → H a = none
structure Sw (TT : List (Addr × Str)) (H H' : Hp) : Prop where
  ex : Ex H H'
  tab : LamX.Tabs TT H → LamX.Tabs TT H'
  live : ∀ a, H' a = none → H a = none
theorem Sm.w {TT : List (Addr × Str)} {H H' : Hp} (s : Sm TT H H') : Sw TT H H' := ⟨s.ex.w, s.tab, s.live⟩
instance {TT : List (Addr × Str)} {H H' : Hp} : CoeOut (Sm TT H H') (Sw TT H H') := ⟨fun s => s.w⟩
theorem Sm.g {TT : List (Addr × Str)} {H H' : Hp} (s : Sm TT H H') (a : Addr) (o : HO) (e : H a = some o) [n : Nt o] : H' a = some o := s.ex.at_ a o e n.nt
theorem Sw.g {TT : List (Addr × Str)} {H H' : Hp} (s : Sw TT H H') (a : Addr) (o : HO) (e : H a = some o) [n : Nt o] [k : Nd o] : H' a = some o := s.ex.at_ a o e n.nt (.inr k.nd)
instance {TT : List (Addr × Str)} {H H' : Hp} : CoeOut (Sm TT H H') (Ex H H') := ⟨fun s => s.ex.w⟩
instance {TT : List (Addr × Str)} {H H' : Hp} : CoeOut (Sm TT H H') (Exs H H') := ⟨fun s => s.ex⟩
instance {TT : List (Addr × Str)} {H H' : Hp} : CoeOut (Sw TT H H') (Ex H H') := ⟨fun s => s.ex⟩
theorem Sm.all {TT : List (Addr × Str)} {H H' : Hp} (h : ∀ a o, H a = some o → H' a = some o) : Sm TT H H' := ⟨Exs.all h, fun t => t.ext h, fun a e => by
  cases q : H a with
  | none => rfl
  | some o => rw [h a o q] at e; cases e⟩
theorem Sm.e {TT : List (Addr × Str)} {H H' : Hp} (s : Sm TT H H') : Ex H H' := s.ex.w
theorem Sw.e {TT : List (Addr × Str)} {H H' : Hp} (s : Sw TT H H') : Ex H H' := s.ex
theorem Exs.rd {H H' : Hp} (s : Exs H H') {a : Addr} {o : HO} (r : Rd H a o) (n : nt o) : Rd H' a o := by
  rcases r with r | ⟨u, r⟩
  · exact .inl (s.at_ _ _ r n)
  · exact .inr ⟨u, s.at_ _ _ r trivial⟩
theorem Ex.rd {H H' : Hp} (s : Ex H H') {a : Addr} {o : HO} (r : Rd H a o) [n : Nt o] [k : Nd o] : Rd H' a o := by
  rcases r with r | ⟨u, r⟩
  · exact .inl (s.g _ _ r)
  · exact .inr ⟨u, s.g _ _ r⟩
theorem Sm.refl {TT : List (Addr × Str)} (H : Hp) : Sm TT H H := Sm.all fun _ _ e => e
theorem Sm.trans {TT : List (Addr × Str)} {H H1 H2 : Hp} (a : Sm TT H H1) (b : Sm TT H1 H2) : Sm TT H H2 := ⟨a.ex.trans b.ex, fun t => b.tab (a.tab t), fun x e => a.live x (b.live x e)⟩
theorem Sw.trans {TT : List (Addr × Str)} {H H1 H2 : Hp} (a : Sw TT H H1) (b : Sw TT H1 H2) : Sw TT H H2 := ⟨a.ex.trans b.ex, fun t => b.tab (a.tab t), fun x e => a.live x (b.live x e)⟩
theorem Sm.new {TT : List (Addr × Str)} {H : Hp} {p : Addr} {o : HO} (h : H p = none) : Sm TT H (upd H p o) := Sm.all fun a u e => by
  rw [upd_ne (ne_of_none e h)]; exact e
theorem Ex.new {H : Hp} {p : Addr} {o : HO} (h : H p = none) : Ex H (upd H p o) := Ex.all fun a u e => by
  rw [upd_ne (ne_of_none e h)]; exact e
/-- one draw more -/
def drn (H : Hp) (T : Nat) : Hp := upd H Wd.d (drO (T + 1))
theorem tabs_upd {TT : List (Addr × Str)} {H : Hp} {T T' : Nat} (h : H Wd.d = some (drO T)) (t : LamX.Tabs TT H) : LamX.Tabs TT (upd H Wd.d (drO T')) := fun q hq => by
  obtain ⟨ps, h1, h2, h3⟩ := t q hq
  have hP : q.1 ≠ Wd.d := fun z => by rw [z, h] at h1; cases h1
  refine ⟨ps, by rw [upd_ne hP]; exact h1, h2, fun pos cv hc => ?_⟩
  obtain ⟨c, e1, e2⟩ := h3 pos cv hc
  have hcd : c ≠ Wd.d := fun z => by
    rw [z, h] at e2
    exact codeO_nd T (Option.some.inj e2).symm
  exact ⟨c, e1, by rw [upd_ne hcd]; exact e2⟩
theorem drn_sw {TT : List (Addr × Str)} {H : Hp} {T : Nat} (h : H Wd.d = some (drO T)) : Sw TT H (drn H T) := by
  refine ⟨⟨fun a o e n k => ?_, fun _ _ => ⟨T + 1, upd_same⟩⟩, tabs_upd h, fun a e => ?_⟩
  · have ha : a ≠ Wd.d := fun z => by
      subst z
      rw [h] at e
      cases e
      rcases k with k | k
      · exact k rfl
      · exact k T rfl
    unfold drn
    rw [upd_ne ha]; exact e
  · unfold drn at e
    by_cases ha : a = Wd.d
    · rw [ha, upd_same] at e; cases e
    · rw [upd_ne ha] at e; exact e
theorem drn_sm {TT : List (Addr × Str)} {H H1 : Hp} {T : Nat} (h : H Wd.d = some (drO T)) (s : Sm TT H H1) : Sm TT (drn H T) (drn H1 T) := by
  have h1 : H1 Wd.d = some (drO T) := s.ex.at_ _ _ h trivial
  refine ⟨⟨fun a o e n => ?_⟩, fun t => ?_, fun a e => ?_⟩
  · unfold drn at e ⊢
    by_cases ha : a = Wd.d
    · rw [ha, upd_same] at e ⊢; exact e
    · rw [upd_ne ha] at e ⊢; exact s.ex.at_ a o e n
  · have t0 : LamX.Tabs TT H := by
      have := tabs_upd (T' := T) (H := drn H T) (T := T + 1) upd_same t
      unfold drn at this
      rw [upd_upd] at this
      have e : upd H Wd.d (drO T) = H := by
        funext b
        by_cases hb : b = Wd.d
        · rw [hb, upd_same, h]
        · rw [upd_ne hb]
      rw [e] at this
      exact this
    exact tabs_upd h1 (s.tab t0)
  · unfold drn at e ⊢
    by_cases ha : a = Wd.d
    · rw [ha, upd_same] at e; cases e
    · rw [upd_ne ha] at e ⊢; exact s.live a e
/-- what may be written -/
def mu : HO → Prop
  | .lst _ => True
  | .dK _ => True
  | .ext φ => (∀ c q, HO.ext φ ≠ LamX.CodeO c q) ∧ ∀ T, HO.ext φ ≠ drO T
  | _ => False
theorem TabS.upd {H : Hp} {p : Addr} {o o' : HO} {P : Addr} {q : Str} (h : H p = some o) (m : mu o) (t : LamX.TabS H P q) : LamX.TabS (upd H p o') P q := by
  obtain ⟨ps, h1, h2, h3⟩ := t
  have hP : P ≠ p := fun z => by rw [z, h] at h1; cases h1; exact m
  refine ⟨ps, by rw [upd_ne hP]; exact h1, h2, fun pos cv hc => ?_⟩
  obtain ⟨c, e1, e2⟩ := h3 pos cv hc
  have hc : c ≠ p := fun z => by
    rw [z, h] at e2
    have e3 := Option.some.inj e2
    rw [e3] at m
    exact (show (∀ c' q', _ ≠ LamX.CodeO c' q') ∧ _ from m).1 p q rfl
  exact ⟨c, e1, by rw [upd_ne hc]; exact e2⟩

/-- a dict of known entries -/
def DE (D : Addr) (es : Array DictEntry) : HO := .ext fun h => ∃ o ep, h.get? D = some o ∧ o.ExactDict ∧ o.data = .dict es ep
theorem DE.ne {D c : Addr} {es : Array DictEntry} {q : Str} : DE D es ≠ LamX.CodeO c q := fun e => by
  unfold DE LamX.CodeO at e
  have e2 := HO.ext.inj e
  have g : ∀ b o, ({ objs := Array.replicate (D + 1) { cls := .type "dict", data := .dict es } } : Heap).get? b = some o → o = { cls := .type "dict", data := .dict es } := fun b o z => by
    unfold Heap.get? at z
    simp only [Array.getElem?_replicate] at z
    split at z
    · cases z
    · rename_i z2
      split at z
      · cases z; rfl
      · cases z
  have x := (congrFun e2 { objs := Array.replicate (D + 1) { cls := .type "dict", data := .dict es } }).mp ⟨{ cls := .type "dict", data := .dict es }, 0, by
    unfold Heap.get?
    simp [Array.getElem?_replicate], ⟨rfl, rfl, rfl⟩, rfl⟩
  obtain ⟨oc, vs, t, h1, h2, _⟩ := x
  rw [g _ _ h1] at h2
  cases h2
theorem DE.nd {D : Addr} {es : Array DictEntry} (T : Nat) : DE D es ≠ drO T := fun e => by
  obtain ⟨h, h1, h2⟩ := Wd.sepD T D es
  have e2 := HO.ext.inj e
  exact h2 ((congrFun e2 h).mpr h1)
instance {D : Addr} {es : Array DictEntry} : Nd (DE D es) := ⟨DE.nd⟩
theorem DE.mu {D : Addr} {es : Array DictEntry} : Ev.mu (DE D es) := ⟨fun _ _ => DE.ne, DE.nd⟩
instance {D : Addr} {es : Array DictEntry} : Nt (DE D es) := ⟨trivial⟩
theorem DE.ok {P : Program} {w : World} {H : Hp} {h : Heap} {D : Addr} {es : Array DictEntry} {o : Obj} {ep : Nat} (e : h.get? D = some o) (c : o.ExactDict) (d : o.data = .dict es ep) : ObjOk P w H h D (DE D es) :=
  ⟨⟨o, ep, e, c, d⟩, ⟨o, e⟩, fun _ _ ⟨o1, e1, z1, z2, z3⟩ k => ⟨o1, e1, k _ z1, z2, z3⟩⟩

theorem sqT_mono {K : PySem.W.Frag} {H H' : Hp} (m : Ex H H') {a : Addr} {xs : List V} (h : SqT K H a xs) : SqT K H' a xs := by
  rcases h with (h | ⟨o, h⟩) | h
  · exact .inl (.inl (m.g _ _ h))
  · exact .inl (.inr ⟨o, m.g _ _ h⟩)
  · exact .inr h
mutual
theorem R.mono {K : PySem.W.Frag} {H H' : Hp} (m : Ex H H') : ∀ {d : PyData} {v : V}, R K H d v → R K H' d v
  | .none, _, h => by simpa [R] using h
  | .bool _, _, h => by simpa [R] using h
  | .int _, _, h => by simpa [R] using h
  | .str _, _, h => by simpa [R] using h
  | .list ds, v, h => by
    unfold R at h ⊢
    obtain ⟨a, vs, e, h1, h2⟩ := h
    exact ⟨a, vs, e, m.g _ _ h1, Rs.mono m h2⟩
  | .tuple ds, v, h => by
    unfold R at h ⊢
    obtain ⟨a, vs, e, h1, h2⟩ := h
    exact ⟨a, vs, e, sqT_mono m h1, Rs.mono m h2⟩
  | .dict _, _, h => by
    unfold R at h ⊢
    rcases h with ⟨hb, a, od, kws, e1, h1, h2⟩ | ⟨hb, hv, ⟨T, hT⟩, hx⟩
    · exact .inl ⟨hb, a, od, kws, e1, m.g _ _ h1, Rk.mono m h2⟩
    · exact .inr ⟨hb, hv, m.dr T hT, m.aux hx⟩
theorem Rs.mono {K : PySem.W.Frag} {H H' : Hp} (m : Ex H H') : ∀ {ds : List PyData} {vs : List V}, Rs K H ds vs → Rs K H' ds vs
  | [], _, h => by simpa [Rs] using h
  | d :: ds, vs, h => by
    unfold Rs at h ⊢
    obtain ⟨v, r, e, h1, h2⟩ := h
    exact ⟨v, r, e, R.mono m h1, Rs.mono m h2⟩
theorem Rp.mono {K : PySem.W.Frag} {H H' : Hp} (m : Ex H H') : ∀ {p : PyData × PyData} {q : Key × V}, Rp K H p q → Rp K H' p q
  | (k, d), q, h => by
    unfold Rp at h ⊢
    exact ⟨h.1, R.mono m h.2⟩
theorem Rk.mono {K : PySem.W.Frag} {H H' : Hp} (m : Ex H H') : ∀ {ds : List (PyData × PyData)} {vs : List (Key × V)}, Rk K H ds vs → Rk K H' ds vs
  | [], _, h => by simpa [Rk] using h
  | d :: ds, vs, h => by
    unfold Rk at h ⊢
    obtain ⟨v, r, e, h1, h2⟩ := h
    exact ⟨v, r, e, Rp.mono m h1, Rk.mono m h2⟩
end
/-! no dict in it -/
mutual
def nod : PyData → Bool
  | .list l => nods l
  | .tuple l => nods l
  | .dict _ => false
  | _ => true
def nods : List PyData → Bool
  | [] => true
  | d :: l => nod d && nods l
end
mutual
theorem R.dp {K : PySem.W.Frag} {H : Hp} : ∀ {d : PyData} {v : V}, nod d = true → R K H d v → Dp K H v d
  | .none, v, _, h => by unfold R at h; subst h; exact .non
  | .bool _, v, _, h => by unfold R at h; subst h; exact .bl _
  | .int _, v, _, h => by unfold R at h; subst h; exact .int _
  | .str _, v, _, h => by unfold R at h; subst h; exact .str _
  | .list ds, v, n, h => by
    unfold R at h
    obtain ⟨a, vs, e, h1, h2⟩ := h
    subst e
    exact .lst (SqL.of h1) (Rs.dp (by simpa [nod] using n) h2)
  | .tuple ds, v, n, h => by
    unfold R at h
    obtain ⟨a, vs, e, h1, h2⟩ := h
    subst e
    exact .tup h1 (Rs.dp (by simpa [nod] using n) h2)
  | .dict _, v, n, h => by simp [nod] at n
theorem Rs.dp {K : PySem.W.Frag} {H : Hp} : ∀ {ds : List PyData} {vs : List V}, nods ds = true → Rs K H ds vs → DpAll K H vs ds
  | [], vs, _, h => by unfold Rs at h; subst h; exact .nil
  | d :: ds, vs, n, h => by
    unfold Rs at h
    obtain ⟨v, r, e, h1, h2⟩ := h
    subst e
    have n2 : (nod d && nods ds) = true := by simpa [nods] using n
    rw [Bool.and_eq_true] at n2
    exact .cons (R.dp n2.1 h1) (Rs.dp n2.2 h2)
end
section
variable {K : PySem.W.Frag} {H : Hp}
theorem Rs.nil : Rs K H [] [] := by unfold Rs; rfl
theorem Rs.cons {d : PyData} {ds : List PyData} {v : V} {vs : List V} (h : R K H d v) (t : Rs K H ds vs) : Rs K H (d :: ds) (v :: vs) := by
  unfold Rs; exact ⟨v, vs, rfl, h, t⟩
theorem Rs.nil_inv {vs : List V} (h : Rs K H [] vs) : vs = [] := by unfold Rs at h; exact h
theorem Rs.cons_inv {d : PyData} {ds : List PyData} {vs : List V} (h : Rs K H (d :: ds) vs) : ∃ v r, vs = v :: r ∧ R K H d v ∧ Rs K H ds r := by
  unfold Rs at h; exact h
theorem Rs.length : ∀ {ds : List PyData} {vs : List V}, Rs K H ds vs → vs.length = ds.length
  | [], vs, h => by rw [h.nil_inv]; rfl
  | d :: ds, vs, h => by
    obtain ⟨v, r, e, _, h2⟩ := h.cons_inv
    rw [e, List.length_cons, List.length_cons, h2.length]
theorem Rs.get : ∀ {ds : List PyData} {vs : List V}, Rs K H ds vs → ∀ {i : Nat} {d : PyData}, ds[i]? = some d → ∃ v, vs[i]? = some v ∧ R K H d v
  | [], vs, h, i, d, e => by simp at e
  | x :: ds, vs, h, 0, d, e => by
    obtain ⟨v, r, e1, h1, _⟩ := h.cons_inv
    simp at e; subst e; subst e1
    exact ⟨v, rfl, h1⟩
  | x :: ds, vs, h, i + 1, d, e => by
    obtain ⟨v, r, e1, _, h2⟩ := h.cons_inv
    subst e1
    exact h2.get (i := i) (by simpa using e)
theorem Rs.append : ∀ {ds es : List PyData} {vs us : List V}, Rs K H ds vs → Rs K H es us → Rs K H (ds ++ es) (vs ++ us)
  | [], es, vs, us, h, t => by rw [h.nil_inv]; exact t
  | x :: ds, es, vs, us, h, t => by
    obtain ⟨v, r, e1, h1, h2⟩ := h.cons_inv
    subst e1
    exact .cons h1 (h2.append t)
theorem Rs.drop : ∀ (n : Nat) {ds : List PyData} {vs : List V}, Rs K H ds vs → Rs K H (ds.drop n) (vs.drop n)
  | 0, ds, vs, h => h
  | n + 1, [], vs, h => by rw [h.nil_inv]; exact .nil
  | n + 1, x :: ds, vs, h => by
    obtain ⟨v, r, e1, h1, h2⟩ := h.cons_inv
    subst e1
    exact h2.drop n
theorem Rs.take : ∀ (n : Nat) {ds : List PyData} {vs : List V}, Rs K H ds vs → Rs K H (ds.take n) (vs.take n)
  | 0, ds, vs, h => .nil
  | n + 1, [], vs, h => by rw [h.nil_inv]; exact .nil
  | n + 1, x :: ds, vs, h => by
    obtain ⟨v, r, e1, h1, h2⟩ := h.cons_inv
    subst e1
    exact .cons h1 (h2.take n)
theorem Rs.rep {ds : List PyData} {vs : List V} (h : Rs K H ds vs) : ∀ k : Nat, Rs K H (List.replicate k ds).flatten (List.replicate k vs).flatten
  | 0 => .nil
  | k + 1 => by
    rw [List.replicate_succ, List.replicate_succ, List.flatten_cons, List.flatten_cons]
    exact h.append (h.rep k)
theorem R.list_iff {ds : List PyData} {v : V} : R K H (.list ds) v ↔ ∃ a vs, v = .ref a ∧ H a = some (.lst vs) ∧ Rs K H ds vs := by
  constructor <;> intro h <;> (unfold R at *; exact h)
theorem R.tuple_iff {ds : List PyData} {v : V} : R K H (.tuple ds) v ↔ ∃ a vs, v = .ref a ∧ SqT K H a vs ∧ Rs K H ds vs := by
  constructor <;> intro h <;> (unfold R at *; exact h)
end

/-! what a slot holds; which addresses are owned -/
inductive Sl where
  | v (d : PyData)
  | o (l : List PyData)
  | x (c : Nat) (d : PyData)
  | d (l : List (PyData × PyData))
  /-- a list that is not ours, so long -/
  | s (n : Nat)
  /-- a dict of our own whose values are lists of our own -/
  | dl (l : List (PyData × List PyData))
  /-- the same where the keys are whole numbers and None -/
  | ll (l : List (PyData × List PyData))
  /-- .. locked -/
  | lv (l : List (PyData × PyData))
abbrev SG := List (Option Sl)
abbrev Ow := Addr → Option Nat
def hid (A : Ow) (H : Hp) : Hp := fun b => if (A b).isSome then none else H b
theorem hid_exs {A : Ow} {H H' : Hp} (m : Exs H H') : Exs (hid A H) (hid A H') := ⟨fun a o e n => by
  unfold hid at e ⊢
  split at e
  · cases e
  · rename_i h; rw [if_neg h]; exact m.at_ a o e n⟩
theorem hid_ex {A : Ow} {H H' : Hp} (m : Ex H H') : Ex (hid A H) (hid A H') := ⟨fun a o e n k => by
  unfold hid at e ⊢
  split at e
  · cases e
  · rename_i h; rw [if_neg h]; exact m.at_ a o e n k, fun T e => by
  unfold hid at e ⊢
  split at e
  · cases e
  · rename_i h
    obtain ⟨T', e'⟩ := m.dr T e
    exact ⟨T', by rw [if_neg h]; exact e'⟩⟩
theorem hid_sms {A : Ow} {H H' : Hp} (m : Exs H H') : Exs (hid A H) (hid A H') := hid_exs m
theorem hid_sm {A : Ow} {H H' : Hp} (m : Ex H H') : Ex (hid A H) (hid A H') := hid_ex m
theorem hid_les {A : Ow} {H : Hp} : Exs (hid A H) H := ⟨fun a o e _ => by
  unfold hid at e
  split at e
  · cases e
  · exact e⟩
theorem hid_le {A : Ow} {H : Hp} : Ex (hid A H) H := hid_les.w
def Trk (A : Ow) (H : Hp) : Prop := ∀ a, (A a).isSome = true → ∃ o, H a = some o ∧ mu o
theorem mu.nd {o : HO} (h : mu o) (T : Nat) : o ≠ drO T := by
  cases o <;> first | (intro e; cases e; done) | exact (show _ ∧ ∀ T, _ from h).2 T
theorem mu.nt {o : HO} (h : mu o) : nt o := by cases o <;> first | exact trivial | exact h.elim
theorem Trk.mono {A : Ow} {H H' : Hp} (t : Trk A H) (m : Ex H H') : Trk A H' := fun a h => let ⟨o, e, k⟩ := t a h; ⟨o, m.at_ a o e k.nt (.inr k.nd), k⟩
theorem Trk.new {A : Ow} {H : Hp} (t : Trk A H) {p : Addr} (h : H p = none) : (A p).isSome = false := by
  cases e : (A p).isSome with
  | false => rfl
  | true =>
    obtain ⟨o, q, _⟩ := t p e
    rw [h] at q; cases q
theorem hid_new {A : Ow} {H : Hp} (t : Trk A H) {p : Addr} {o : HO} (h : H p = none) : hid A (upd H p o) p = some o := by
  unfold hid
  rw [if_neg (by rw [t.new h]; decide), upd_same]

structure CT where
  cls : Nat → Addr
  fld : Nat → Str
  /-- the tables of code objects of lambdas, and the lambdas' names -/
  tabs : List (Addr × Str)
/-- a caught exception as a value -/
def XcR (K : PySem.W.Frag) (C : CT) (H : Hp) (c : Nat) (d : PyData) (v : V) : Prop := ∃ a q u, v = .ref a ∧ H a = some (ExK (.ref (C.cls c)) (some q) a) ∧ H q = some (.xd [(C.fld c, u)]) ∧ R K H d u
theorem XcR.mono {K : PySem.W.Frag} {C : CT} {H H' : Hp} {c : Nat} {d : PyData} {v : V} (h : XcR K C H c d v) (m : Ex H H') : XcR K C H' c d v := by
  obtain ⟨a, q, u, e1, e2, e3, e4⟩ := h
  exact ⟨a, q, u, e1, m.g _ _ e2, m.g _ _ e3, e4.mono m⟩
theorem sqL_mono {K : PySem.W.Frag} {H H' : Hp} (m : Ex H H') {a : Addr} {xs : List V} (h : SqL K H a xs) : SqL K H' a xs := by
  rcases h with (h | ⟨o, h⟩) | h
  · exact .inl (.inl (m.g _ _ h))
  · exact .inl (.inr ⟨o, m.g _ _ h⟩)
  · exact .inr h
/-- lists of our own under keys, no two at one place -/
def Rkl (K : PySem.W.Frag) (A : Ow) (H : Hp) (i : Nat) : List (PyData × List PyData) → List (Key × V) → Prop
  | [], r => r = []
  | p :: l, r => ∃ q b us t, r = (q, .ref b) :: t ∧ keyOf p.1 = some q ∧ A b = some i ∧ H b = some (.lst us) ∧ Rs K (hid A H) p.2 us ∧ (∀ x ∈ t, x.2 ≠ .ref b) ∧ Rkl K A H i l t
theorem Rkl.keep {K : PySem.W.Frag} {A A' : Ow} {H H' : Hp} {j : Nat} (o : ∀ b u, A b = some j → H b = some u → mu u → A' b = some j ∧ H' b = some u) (m : Ex (hid A H) (hid A' H')) : ∀ {l : List (PyData × List PyData)} {r : List (Key × V)}, Rkl K A H j l r → Rkl K A' H' j l r
  | [], _, h => h
  | p :: l, r, h => by
    obtain ⟨q, b, us, t, e, e1, e2, e3, e4, e5, e6⟩ := h
    obtain ⟨k1, k2⟩ := o b _ e2 e3 trivial
    exact ⟨q, b, us, t, e, e1, k1, k2, e4.mono m, e5, e6.keep o m⟩
def keyN : PyData → Option (Option Int)
  | .none => some none
  | .int i => some (some i)
  | _ => none
def RnL (K : PySem.W.Frag) (A : Ow) (H : Hp) (i : Nat) : List (PyData × List PyData) → List (Option Int × V) → Prop
  | [], r => r = []
  | p :: l, r => ∃ q b us t, r = (q, .ref b) :: t ∧ keyN p.1 = some q ∧ A b = some i ∧ H b = some (.lst us) ∧ Rs K (hid A H) p.2 us ∧ (∀ x ∈ t, x.2 ≠ .ref b) ∧ RnL K A H i l t
theorem RnL.keep {K : PySem.W.Frag} {A A' : Ow} {H H' : Hp} {j : Nat} (o : ∀ b u, A b = some j → H b = some u → mu u → A' b = some j ∧ H' b = some u) (m : Ex (hid A H) (hid A' H')) : ∀ {l : List (PyData × List PyData)} {r : List (Option Int × V)}, RnL K A H j l r → RnL K A' H' j l r
  | [], _, h => h
  | p :: l, r, h => by
    obtain ⟨q, b, us, t, e, e1, e2, e3, e4, e5, e6⟩ := h
    obtain ⟨k1, k2⟩ := o b _ e2 e3 trivial
    exact ⟨q, b, us, t, e, e1, k1, k2, e4.mono m, e5, e6.keep o m⟩
def RnV (K : PySem.W.Frag) (H : Hp) : List (PyData × PyData) → List (Option Int × V) → Prop
  | [], r => r = []
  | p :: l, r => ∃ q v t, r = (q, v) :: t ∧ keyN p.1 = some q ∧ R K H p.2 v ∧ RnV K H l t
theorem RnV.mono {K : PySem.W.Frag} {H H' : Hp} (m : Ex H H') : ∀ {l : List (PyData × PyData)} {r : List (Option Int × V)}, RnV K H l r → RnV K H' l r
  | [], _, h => h
  | p :: l, r, h => by
    obtain ⟨q, v, t, e, e1, e2, e3⟩ := h
    exact ⟨q, v, t, e, e1, e2.mono m, e3.mono m⟩
/-- the slot's content at a value -/
def SlR (K : PySem.W.Frag) (C : CT) (A : Ow) (H : Hp) (i : Nat) (s : Sl) (v : V) : Prop := match s with
  | .v d => R K (hid A H) d v
  | .o l => ∃ p vs, v = .ref p ∧ A p = some i ∧ H p = some (.lst vs) ∧ Rs K (hid A H) l vs
  | .x c d => XcR K C (hid A H) c d v
  | .d l => ∃ p vs, v = .ref p ∧ A p = some i ∧ H p = some (.dK vs) ∧ Rk K (hid A H) l vs
  | .s n => ∃ p xs, v = .ref p ∧ SqL K (hid A H) p xs ∧ xs.length = n
  | .dl l => ∃ p kws, v = .ref p ∧ A p = some i ∧ H p = some (.dK kws) ∧ Rkl K A H i l kws
  | .ll l => ∃ p es kws, v = .ref p ∧ A p = some i ∧ H p = some (DE p es) ∧ NN p es kws ∧ RnL K A H i l kws
  | .lv l => ∃ p o es kws, v = .ref p ∧ hid A H p = some (.frz o (DE p es)) ∧ NN p es kws ∧ RnV K (hid A H) l kws
theorem SlR.keep {K : PySem.W.Frag} {C : CT} {A A' : Ow} {H H' : Hp} {j : Nat} {s : Sl} {v : V} (h : SlR K C A H j s v) (o : ∀ b u, A b = some j → H b = some u → mu u → A' b = some j ∧ H' b = some u) (m : Ex (hid A H) (hid A' H')) : SlR K C A' H' j s v := by
  cases s with
  | v d => exact R.mono m h
  | o l =>
    obtain ⟨p, vs, e1, e2, e3, e4⟩ := h
    obtain ⟨k1, k2⟩ := o p _ e2 e3 trivial
    exact ⟨p, vs, e1, k1, k2, e4.mono m⟩
  | x c d => exact XcR.mono h m
  | d l =>
    obtain ⟨p, vs, e1, e2, e3, e4⟩ := h
    obtain ⟨k1, k2⟩ := o p _ e2 e3 trivial
    exact ⟨p, vs, e1, k1, k2, e4.mono m⟩
  | s n =>
    obtain ⟨p, xs, e1, e2, e3⟩ := h
    exact ⟨p, xs, e1, sqL_mono m e2, e3⟩
  | dl l =>
    obtain ⟨p, kws, e1, e2, e3, e4⟩ := h
    obtain ⟨k1, k2⟩ := o p _ e2 e3 trivial
    exact ⟨p, kws, e1, k1, k2, e4.keep o m⟩
  | ll l =>
    obtain ⟨p, es, kws, e1, e2, e3, n, e4⟩ := h
    obtain ⟨k1, k2⟩ := o p _ e2 e3 DE.mu
    exact ⟨p, es, kws, e1, k1, k2, n, e4.keep o m⟩
  | lv l =>
    obtain ⟨p, oo, es, kws, e1, e2, n, e4⟩ := h
    exact ⟨p, oo, es, kws, e1, m.g _ _ e2, n, e4.mono m⟩
structure Rel (K : PySem.W.Frag) (C : CT) (A : Ow) (H : Hp) (sg : SG) (σ : L2.St) : Prop where
  len : sg.length = σ.length
  slot : ∀ (i : Nat) s, sg[i]? = some (some s) → ∃ v, σ[i]? = some (some v) ∧ SlR K C A H i s v
  trk : Trk A H
  tab : LamX.Tabs C.tabs H
section
variable {K : PySem.W.Frag} {C : CT} {A A' : Ow} {H H' : Hp} {sg : SG} {σ : L2.St}
theorem Rel.val (r : Rel K C A H sg σ) (i : Nat) (d : PyData) (e : sg[i]? = some (some (.v d))) : ∃ v, σ[i]? = some (some v) ∧ R K (hid A H) d v := r.slot i _ e
theorem Rel.own (r : Rel K C A H sg σ) (i : Nat) (l : List PyData) (e : sg[i]? = some (some (.o l))) : ∃ a vs, σ[i]? = some (some (.ref a)) ∧ A a = some i ∧ H a = some (.lst vs) ∧ Rs K (hid A H) l vs := by
  obtain ⟨v, h, a, vs, rfl, k⟩ := r.slot i _ e
  exact ⟨a, vs, h, k⟩
theorem Rel.exc (r : Rel K C A H sg σ) (i c : Nat) (d : PyData) (e : sg[i]? = some (some (.x c d))) : ∃ v, σ[i]? = some (some v) ∧ XcR K C (hid A H) c d v := r.slot i _ e
theorem Rel.dic (r : Rel K C A H sg σ) (i : Nat) (l : List (PyData × PyData)) (e : sg[i]? = some (some (.d l))) : ∃ a vs, σ[i]? = some (some (.ref a)) ∧ A a = some i ∧ H a = some (.dK vs) ∧ Rk K (hid A H) l vs := by
  obtain ⟨v, h, a, vs, rfl, k⟩ := r.slot i _ e
  exact ⟨a, vs, h, k⟩
theorem Rel.keep (r : Rel K C A H sg σ) (o : ∀ j b u, j < σ.length → A b = some j → H b = some u → mu u → A' b = some j ∧ H' b = some u) (m : Ex (hid A H) (hid A' H')) (t : Trk A' H') (tb : LamX.Tabs C.tabs H') : Rel K C A' H' sg σ :=
  ⟨r.len, fun i s e => let ⟨v, h, k⟩ := r.slot i s e; ⟨v, h, k.keep (fun b u => o i b u (List.getElem?_eq_some_iff.mp h).1) m⟩, t, tb⟩
theorem Rel.mono (h : Rel K C A H sg σ) (m : Sw C.tabs H H') : Rel K C A H' sg σ :=
  h.keep (fun j b u _ e1 e2 mm => ⟨e1, m.ex.at_ b u e2 mm.nt (.inr mm.nd)⟩) (hid_sm m.ex) (h.trk.mono m.ex) (m.tab h.tab)
end

/-- a value that may be an owned list or dict, to be read only -/
def RB (K : PySem.W.Frag) (A : Ow) (H : Hp) (d : PyData) (v : V) : Prop :=
  R K (hid A H) d v ∨ (∃ l a vs, d = .list l ∧ v = .ref a ∧ (A a).isSome = true ∧ H a = some (.lst vs) ∧ Rs K (hid A H) l vs) ∨
    ∃ l a vs, d = .dict l ∧ v = .ref a ∧ (A a).isSome = true ∧ H a = some (.dK vs) ∧ Rk K (hid A H) l vs
section
variable {K : PySem.W.Frag} {A : Ow} {H H' : Hp} {d : PyData} {v : V}
theorem Rk.nt {ds : List (PyData × PyData)} {vs : List (Key × V)} (h : Rk K H ds vs) : isTok ds = false := by
  unfold isTok
  split
  · unfold Rk at h
    obtain ⟨v, r, _, h1, _⟩ := h
    unfold Rp at h1
    exact absurd h1.1 (by simp [keyOf])
  · rfl
theorem R.dict_of {ds : List (PyData × PyData)} {v : V} (h : ∃ a o vs, v = .ref a ∧ H a = some (.frz o (.dK vs)) ∧ Rk K H ds vs) : R K H (.dict ds) v := by
  unfold R
  obtain ⟨a, o, vs, h1, h2, h3⟩ := h
  exact .inl ⟨h3.nt, a, o, vs, h1, h2, h3⟩
theorem R.dict_iff {ds : List (PyData × PyData)} {v : V} (hb : isTok ds = false) : R K H (.dict ds) v ↔ ∃ a o vs, v = .ref a ∧ H a = some (.frz o (.dK vs)) ∧ Rk K H ds vs := by
  constructor <;> intro h
  · unfold R at h
    rcases h with ⟨_, h⟩ | ⟨h, _⟩
    · exact h
    · rw [hb] at h; cases h
  · unfold R
    exact .inl ⟨hb, h⟩
theorem RB.full (h : RB K A H d v) (n : nod d = true) : R K H d v := by
  rcases h with h | ⟨l, a, vs, rfl, rfl, _, e, r⟩ | ⟨l, a, vs, rfl, rfl, _, e, r⟩
  · exact h.mono hid_le
  · exact R.list_iff.mpr ⟨a, vs, rfl, e, r.mono hid_le⟩
  · simp [nod] at n
theorem RB.mono (h : RB K A H d v) (m : Ex H H') : RB K A H' d v := by
  rcases h with h | ⟨l, a, vs, e1, e2, e3, e, r⟩ | ⟨l, a, vs, e1, e2, e3, e, r⟩
  · exact .inl (h.mono (hid_sm m))
  · exact .inr (.inl ⟨l, a, vs, e1, e2, e3, m.g _ _ e, r.mono (hid_sm m)⟩)
  · exact .inr (.inr ⟨l, a, vs, e1, e2, e3, m.g _ _ e, r.mono (hid_sm m)⟩)
theorem RB.list {l : List PyData} (h : RB K A H (.list l) v) : ∃ a vs, v = .ref a ∧ H a = some (.lst vs) ∧ Rs K (hid A H) l vs := by
  rcases h with h | ⟨l', a, vs, e1, e2, _, e, r⟩ | ⟨l', a, vs, e1, _⟩
  · obtain ⟨a, vs, e, h1, h2⟩ := R.list_iff.mp h
    exact ⟨a, vs, e, hid_le.g _ _ h1, h2⟩
  · cases e1
    exact ⟨a, vs, e2, e, r⟩
  · cases e1
theorem RB.dict {l : List (PyData × PyData)} (h : RB K A H (.dict l) v) (hb : isTok l = false) : ∃ a vs, v = .ref a ∧ Rd H a (.dK vs) ∧ Rk K (hid A H) l vs := by
  rcases h with h | ⟨l', a, vs, e1, _⟩ | ⟨l', a, vs, e1, e2, _, e, r⟩
  · obtain ⟨a, o, vs, e, h1, h2⟩ := (R.dict_iff hb).mp h
    exact ⟨a, vs, e, .inr ⟨o, hid_le.g _ _ h1⟩, h2⟩
  · cases e1
  · cases e1
    exact ⟨a, vs, e2, .inl e, r⟩
theorem RB.tup {l : List PyData} (h : RB K A H (.tuple l) v) : ∃ a vs, v = .ref a ∧ SqT K (hid A H) a vs ∧ Rs K (hid A H) l vs := by
  rcases h with h | ⟨l', a, vs, e1, _⟩ | ⟨l', a, vs, e1, _⟩
  · exact R.tuple_iff.mp h
  · cases e1
  · cases e1
theorem RB.int {i : Int} (h : RB K A H (.int i) v) : v = .int i := by
  have := h.full (by simp [nod]); unfold R at this; exact this
theorem RB.bool {i : Bool} (h : RB K A H (.bool i) v) : v = .bl i := by
  have := h.full (by simp [nod]); unfold R at this; exact this
theorem RB.str {i : Str} (h : RB K A H (.str i) v) : v = .str i := by
  have := h.full (by simp [nod]); unfold R at this; exact this
theorem RB.none (h : RB K A H .none v) : v = .non := by
  have := h.full (by simp [nod]); unfold R at this; exact this
end

/-! outcomes -/
def XR (K : PySem.W.Frag) (C : CT) (H : Hp) (c : Nat) (d : PyData) (cx : Value) (dx : Option Addr) : Prop :=
  cx = .ref (C.cls c) ∧ ∃ q v, dx = some q ∧ H q = some (.xd [(C.fld c, v)]) ∧ R K H d v
def Out {α : Type} (K : PySem.W.Frag) (C : CT) (A : Ow) (W : Value → Option Addr → Hp → Prop) (H : Hp) (m : Res α) (k : α → Hp → Prop) : Prop :=
  match m with
  | .ok a => ∀ H', Sm C.tabs H H' → k a H'
  | .exn c d => ∀ H' cx dx, Sm C.tabs H H' → Trk A H' → XR K C (hid A H') c d cx dx → W cx dx H'
  | .bad => False
  | .ask n f => (0 < n ∧ n ≤ 100000) ∧ ∃ T, H Wd.d = some (drO T) ∧ T < 900000 ∧ ∀ r, 0 ≤ r → r < n → Out K C A W (drn H T) (f r) k
section
variable {α β : Type} {K : PySem.W.Frag} {C : CT} {A : Ow} {W : Value → Option Addr → Hp → Prop} {H : Hp}
theorem Out.mono {m : Res α} {k k' : α → Hp → Prop} (o : Out K C A W H m k) (h : ∀ a H', Sw C.tabs H H' → k a H' → k' a H') : Out K C A W H m k' := by
  induction m generalizing H with
  | ok a => exact fun H' s => h a H' s.w (o H' s)
  | exn c d => exact o
  | bad => exact o
  | ask n f ih =>
    obtain ⟨o1, T, e, o2, o3⟩ := o
    exact ⟨o1, T, e, o2, fun r h0 h1 => ih r (o3 r h0 h1) fun a H' s => h a H' ((drn_sw e).trans s)⟩
theorem Out.up {m : Res α} {k : α → Hp → Prop} {H1 : Hp} (o : Out K C A W H m k) (s : Sm C.tabs H H1) : Out K C A W H1 m k := by
  induction m generalizing H H1 with
  | ok a => exact fun H2 s2 => o H2 (s.trans s2)
  | exn c d => exact fun H2 cx dx s2 => o H2 cx dx (s.trans s2)
  | bad => exact o
  | ask n f ih =>
    obtain ⟨o1, T, e, o2, o3⟩ := o
    exact ⟨o1, T, s.ex.at_ _ _ e trivial, o2, fun r h0 h1 => ih r (o3 r h0 h1) (drn_sm e s)⟩
theorem Out.bind {m : Res α} {f : α → Res β} {k : β → Hp → Prop} (o : Out K C A W H (m.bind f) k) : Out K C A W H m fun a H1 => Out K C A W H1 (f a) k := by
  induction m generalizing H with
  | ok a => exact fun H1 s => Out.up o s
  | exn c d => exact o
  | bad => exact o
  | ask n f ih =>
    obtain ⟨o1, T, e, o2, o3⟩ := o
    exact ⟨o1, T, e, o2, fun r h0 h1 => ih r (o3 r h0 h1)⟩
theorem Out.of {o : Option α} {k : α → Hp → Prop} (h : Out K C A W H (Res.of o) k) : ∃ a, o = some a ∧ ∀ H', Sm C.tabs H H' → k a H' := by
  cases o with
  | none => exact h.elim
  | some a => exact ⟨a, rfl, h⟩
end

def T (K : PySem.W.Frag) (C : CT) (W : WX) (m : SG → Res PyData) : TE := fun σ H Q => ∃ sg A, Rel K C A H sg σ ∧ Out K C A (fun cx dx H' => W cx dx σ H') H (m sg) fun d H' => ∀ v, R K (hid A H') d v → Q v H'
def TB (K : PySem.W.Frag) (C : CT) (W : WX) (m : SG → Res PyData) : TE := fun σ H Q => ∃ sg A, Rel K C A H sg σ ∧ Out K C A (fun cx dx H' => W cx dx σ H') H (m sg) fun d H' => ∀ v, RB K A H' d v → Q v H'
def TL (K : PySem.W.Frag) (C : CT) (W : WX) (m : SG → Res (List PyData)) : TA := fun σ H Q => ∃ sg A, Rel K C A H sg σ ∧ Out K C A (fun cx dx H' => W cx dx σ H') H (m sg) fun d H' => ∀ v, Rs K (hid A H') d v → Q v H'
/-- .. where the truth is told -/
def TP (K : PySem.W.Frag) (C : CT) (W : WX) (m : SG → Res Bool) : TT := fun σ H Q => ∃ sg A, Rel K C A H sg σ ∧ Out K C A (fun cx dx H' => W cx dx σ H') H (m sg) fun d H' => Q d H'

section
variable {X : Cx} {C : CT} {W : WX} {e a b : Expr} {m ma mb : SG → Res PyData} {pos : Pos}
theorem pe_imp {t t' : TE} (h : PE X e t) (i : ∀ σ H Q, t' σ H Q → t σ H Q) : PE X e t' := ⟨fun pins s σ H Q I q => h.run pins s σ H Q I (i σ H Q q)⟩
theorem pt_imp {t t' : TT} (h : PT X e t) (i : ∀ σ H Q, t' σ H Q → t σ H Q) : PT X e t' := ⟨fun pins s σ H Q I q => h.run pins s σ H Q I (i σ H Q q)⟩
theorem pa_imp {es : List Expr} {t t' : TA} (h : PA X es t) (i : ∀ σ H Q, t' σ H Q → t σ H Q) : PA X es t' := ⟨fun pos pins s σ H Q I q => h.run pos pins s σ H Q I (i σ H Q q)⟩
/-- what is shared may be read -/
theorem pe_tb (h : PE X e (T X.K C W m)) : PE X e (TB X.K C W m) := pe_imp h fun σ H Q ⟨sg, A, r, o⟩ => ⟨sg, A, r, o.mono fun d H' _ k v q => k v (.inl q)⟩

/-! names and constants -/
def mVar (i : Nat) (sg : SG) : Res PyData := match sg[i]? with
  | some (some (.v d)) => .ok d
  | _ => .bad
def mVarB (i : Nat) (sg : SG) : Res PyData := match sg[i]? with
  | some (some (.v d)) => .ok d
  | some (some (.o l)) => .ok (.list l)
  | some (some (.d l)) => .ok (.dict l)
  | _ => .bad
theorem e_var {i : Nat} {x : Str} (hN : X.N[i]? = some x) (hv : Vis X.env.scope x) (hd : (x == ("__debug__" : Str)) = false) (hcd : (x == ("__classdict__" : Str)) = false) : PE X (.Name x pos) (T X.K C W (mVar i)) :=
  pe_imp (pe_var hN hv hd hcd) fun σ H Q ⟨sg, A, r, o⟩ => by
    unfold mVar at o
    split at o
    · rename_i d e
      obtain ⟨v, e1, q⟩ := r.val i d e
      exact ⟨v, e1, o H (Sm.refl H) v q⟩
    · exact o.elim
theorem e_varB {i : Nat} {x : Str} (hN : X.N[i]? = some x) (hv : Vis X.env.scope x) (hd : (x == ("__debug__" : Str)) = false) (hcd : (x == ("__classdict__" : Str)) = false) : PE X (.Name x pos) (TB X.K C W (mVarB i)) :=
  pe_imp (pe_var hN hv hd hcd) fun σ H Q ⟨sg, A, r, o⟩ => by
    unfold mVarB at o
    split at o
    · rename_i d e
      obtain ⟨v, e1, q⟩ := r.val i d e
      exact ⟨v, e1, o H (Sm.refl H) v (.inl q)⟩
    · rename_i l e
      obtain ⟨a, vs, e1, e2, e3, q⟩ := r.own i l e
      exact ⟨.ref a, e1, o H (Sm.refl H) _ (.inr (.inl ⟨l, a, vs, rfl, rfl, by rw [e2]; rfl, e3, q⟩))⟩
    · rename_i l e
      obtain ⟨a, vs, e1, e2, e3, q⟩ := r.dic i l e
      exact ⟨.ref a, e1, o H (Sm.refl H) _ (.inr (.inr ⟨l, a, vs, rfl, rfl, by rw [e2]; rfl, e3, q⟩))⟩
    · exact o.elim
/-- a value that hangs on no heap -/
theorem e_con {v : V} {d : PyData} (h : PE X e (tC v)) (r : ∀ H, R X.K H d v) : PE X e (T X.K C W fun _ => .ok d) :=
  pe_imp h fun σ H Q ⟨sg, A, rl, o⟩ => o H (Sm.refl H) v (r _)
end
end Ev

namespace Ev
variable [Wd]
open PySem PySem.Spec PyProof.Rows L2
open LamX (ExtN Tabs TabS TabB CodeO codeO_ne lamEnv lamCx)
/-- one parameter of its own, which none of ours is; what it takes is ours -/
structure LamD (N : List Str) (sc scope : Scope) : Prop where
  kind : scope.kind = .function
  co : scope.isCoroutine = false
  gen : scope.isGenerator = false
  own : ∀ y ∈ scope.names, y.2 ≠ .cell ∧ (y.2 = .local → y.1 ∉ N)
  free : ∀ y ∈ scope.names, y.2 = .free → sc.names.lookup y.1 = some .cell ∨ sc.names.lookup y.1 = some .free
/-- what a lambda's parameters may be: none, or one with an int for default -/
inductive ParG (scope : Scope) (params : Arguments) : Prop where
  | none (h : params = { posonlyargs := [], args := [], vararg := none, kwonlyargs := [], kw_defaults := [], kwarg := none, defaults := [] })
  | one {i : Int} {kk : Nat} {cp : Pos} {ag : Arg} (h : params = { posonlyargs := [], args := [ag], vararg := none, kwonlyargs := [], kw_defaults := [], kwarg := none, defaults := [.Constant (.int i) kk cp] }) (hl : scope.names.lookup ag.arg = some .local)
end Ev

namespace Ev
variable [Wd]
open PySem PySem.Spec PyProof.Rows L2
open PySem.W.Z (ltB leB eqB ltB_iff leB_iff eqB_iff)

/-! plain functions, made for the kernel -/
def natsEq : List Nat → List Nat → Bool
  | [], [] => true
  | a :: as, b :: bs => Nat.beq a b && natsEq as bs
  | _, _ => false
theorem natsEq_iff : ∀ {a b : List Nat}, natsEq a b = true ↔ a = b
  | [], [] => by simp [natsEq]
  | [], _ :: _ => by simp [natsEq]
  | _ :: _, [] => by simp [natsEq]
  | x :: a, y :: b => by
    rw [natsEq, Bool.and_eq_true, natsEq_iff, Nat.beq_eq]
    constructor
    · rintro ⟨h1, h2⟩; rw [h1, h2]
    · intro h; cases h; exact ⟨rfl, rfl⟩
def strEq (a b : Str) : Bool := natsEq a.cps.toList b.cps.toList
theorem str_ext {a b : Str} (h : a.cps.toList = b.cps.toList) : a = b := by
  obtain ⟨x⟩ := a; obtain ⟨y⟩ := b
  have : x = y := Array.ext' h
  rw [this]
theorem strEq_iff {a b : Str} : strEq a b = true ↔ a = b := by
  unfold strEq
  rw [natsEq_iff]
  exact ⟨str_ext, fun h => by rw [h]⟩
theorem bool_of_iff {a b : Bool} {p : Prop} (h1 : a = true ↔ p) (h2 : b = true ↔ p) : a = b := by
  cases a <;> cases b <;> simp_all
theorem strEq_eq (a b : Str) : strEq a b = (a == b) := bool_of_iff strEq_iff (by simp)
theorem eqB_eq (a b : Int) : eqB a b = (a == b) := bool_of_iff (eqB_iff a b) (by simp)
theorem ltB_eq (a b : Int) : ltB a b = decide (a < b) := bool_of_iff (ltB_iff a b) (by simp)
theorem leB_eq (a b : Int) : leB a b = decide (a ≤ b) := bool_of_iff (leB_iff a b) (by simp)
def boolI (b : Bool) : Int := match b with | true => 1 | false => 0
theorem boolI_eq (b : Bool) : boolI b = if b then 1 else 0 := by cases b <;> rfl
mutual
def deq : PyData → PyData → Bool
  | .none, y => match y with | .none => true | _ => false
  | .bool a, y => match y with | .bool b => (match a with | true => b | false => !b) | .int j => eqB (boolI a) j | _ => false
  | .int i, y => match y with | .bool b => eqB i (boolI b) | .int j => eqB i j | _ => false
  | .str a, y => match y with | .str b => strEq a b | _ => false
  | .list xs, y => match y with | .list ys => deqs xs ys | _ => false
  | .tuple xs, y => match y with | .tuple ys => deqs xs ys | _ => false
  | .dict _, _ => false
def deqs : List PyData → List PyData → Bool
  | [], y => match y with | [] => true | _ => false
  | x :: xs, y => match y with | y :: ys => (match deq x y with | true => deqs xs ys | false => false) | [] => false
end
mutual
theorem deq_eq : ∀ (a b : PyData), deq a b = PyData.eqv a b
  | .none, b => by cases b <;> simp [deq, PyData.eqv]
  | .bool x, b => by
    cases b with
    | bool y => cases x <;> cases y <;> simp [deq, PyData.eqv]
    | int j => simp [deq, PyData.eqv, eqB_eq, boolI_eq]
    | _ => simp [deq, PyData.eqv]
  | .int x, b => by
    cases b with
    | bool y => simp [deq, PyData.eqv, eqB_eq, boolI_eq]
    | int j => simp [deq, PyData.eqv, eqB_eq]
    | _ => simp [deq, PyData.eqv]
  | .str x, b => by cases b <;> simp [deq, PyData.eqv, strEq_eq]
  | .list xs, b => by
    cases b with
    | list ys => simp [deq, PyData.eqv, deqs_eq xs ys]
    | _ => simp [deq, PyData.eqv]
  | .tuple xs, b => by
    cases b with
    | tuple ys => simp [deq, PyData.eqv, deqs_eq xs ys]
    | _ => simp [deq, PyData.eqv]
  | .dict xs, b => by cases b <;> simp [deq, PyData.eqv]
theorem deqs_eq : ∀ (a b : List PyData), deqs a b = PyData.eqvAll a b
  | [], [] => by simp [deqs, PyData.eqvAll]
  | [], _ :: _ => by simp [deqs, PyData.eqvAll]
  | _ :: _, [] => by simp [deqs, PyData.eqvAll]
  | x :: xs, y :: ys => by
    simp only [deqs, PyData.eqvAll, ← deq_eq x y, ← deqs_eq xs ys]
    cases deq x y <;> simp
end

/-! depth, and what may be compared -/
mutual
def shp : Nat → PyData → Bool
  | _, .none => true
  | _, .bool _ => true
  | _, .int _ => true
  | _, .str s => PyData.strOk s
  | 0, .list _ => false
  | 0, .tuple _ => false
  | n + 1, .list l => shps n l
  | n + 1, .tuple l => shps n l
  | _, .dict _ => false
def shps : Nat → List PyData → Bool
  | _, [] => true
  | n, x :: l => shp n x && shps n l
end
mutual
theorem shp_lay : ∀ (n : Nat) (d : PyData), shp n d = true → d.canLay0 = true ∧ d.depth ≤ n
  | n, .none, _ => by simp [PyData.canLay0, PyData.depth]
  | n, .bool _, _ => by simp [PyData.canLay0, PyData.depth]
  | n, .int _, _ => by simp [PyData.canLay0, PyData.depth]
  | n, .str s, h => by
    have h' : PyData.strOk s = true := by simpa [shp] using h
    simp [PyData.canLay0, PyData.depth, h']
  | 0, .list _, h => by simp [shp] at h
  | 0, .tuple _, h => by simp [shp] at h
  | n + 1, .list l, h => by
    have := shps_lay n l (by simpa [shp] using h)
    simp [PyData.canLay0, PyData.depth, this.1]
    exact this.2
  | n + 1, .tuple l, h => by
    have := shps_lay n l (by simpa [shp] using h)
    simp [PyData.canLay0, PyData.depth, this.1]
    exact this.2
  | n, .dict _, h => by cases n <;> simp [shp] at h
theorem shps_lay : ∀ (n : Nat) (l : List PyData), shps n l = true → PyData.canLayAll0 l = true ∧ PyData.depthAll l ≤ n
  | n, [], _ => by simp [PyData.canLayAll0, PyData.depthAll]
  | n, x :: l, h => by
    simp only [shps, Bool.and_eq_true] at h
    have h1 := shp_lay n x h.1
    have h2 := shps_lay n l h.2
    simp [PyData.canLayAll0, PyData.depthAll, h1.1, h2.1]
    omega
end
mutual
theorem shp_nod : ∀ {n : Nat} {d : PyData}, shp n d = true → nod d = true
  | n, .none, _ => by simp [nod]
  | n, .bool _, _ => by simp [nod]
  | n, .int _, _ => by simp [nod]
  | n, .str _, _ => by simp [nod]
  | 0, .list _, h => by simp [shp] at h
  | 0, .tuple _, h => by simp [shp] at h
  | n + 1, .list l, h => by
    have h' : shps n l = true := by simpa [shp] using h
    simpa [nod] using shps_nods h'
  | n + 1, .tuple l, h => by
    have h' : shps n l = true := by simpa [shp] using h
    simpa [nod] using shps_nods h'
  | n, .dict _, h => by cases n <;> simp [shp] at h
theorem shps_nods : ∀ {n : Nat} {l : List PyData}, shps n l = true → nods l = true
  | n, [], _ => by simp [nods]
  | n, d :: l, h => by
    have h' : (shp n d && shps n l) = true := by simpa [shps] using h
    rw [Bool.and_eq_true] at h'
    simp [nods, shp_nod h'.1, shps_nods h'.2]
end
theorem shaped_of {d : PyData} (h : shp 60 d = true) : SeqAt.shaped d = true := by
  have := shp_lay 60 d h
  unfold SeqAt.shaped
  rw [this.1]
  simp; omega

/-! new objects -/
section
variable {K : PySem.W.Frag} {A : Ow} {H : Hp} {p : Addr}
theorem new_list {l : List PyData} {vs : List V} (t : Trk A H) (h : Rs K (hid A H) l vs) (hp : H p = none) : (∀ {TT : List (Addr × Str)}, Sm TT H (upd H p (.lst vs))) ∧ R K (hid A (upd H p (.lst vs))) (.list l) (.ref p) :=
  ⟨Sm.new hp, R.list_iff.mpr ⟨p, vs, rfl, hid_new t hp, h.mono (hid_ex (Ex.new hp))⟩⟩
theorem new_tup {l : List PyData} {vs : List V} (t : Trk A H) (h : Rs K (hid A H) l vs) (hp : H p = none) : (∀ {TT : List (Addr × Str)}, Sm TT H (upd H p (.tup vs))) ∧ R K (hid A (upd H p (.tup vs))) (.tuple l) (.ref p) :=
  ⟨Sm.new hp, R.tuple_iff.mpr ⟨p, vs, rfl, .inl (.inl (hid_new t hp)), h.mono (hid_ex (Ex.new hp))⟩⟩
end
def few (n : Nat) : Bool := Nat.ble n 100000
theorem few_le {n : Nat} (h : few n = true) : n ≤ sizeLine := by
  have := Nat.le_of_ble_eq_true h
  rw [sizeLine_eq]; omega

/-! operators of two values -/
/-- what is asked of an operator's reading r so that it reckons f -/
def OpF (K : PySem.W.Frag) (r : R2) (f : PyData → PyData → Option PyData) : Prop :=
  ∀ (TT : List (Addr × Str)) (A : Ow) (H : Hp) (dx dy d : PyData) (x y : V) (Q : VK), f dx dy = some d → Trk A H → RB K A H dx x → RB K A H dy y → (∀ v H', Sm TT H H' → R K (hid A H') d v → Q v H') → r x y H Q
section
variable {X : Cx} {C : CT} {W : WX} {a b : Expr} {ma mb : SG → Res PyData} {pos : Pos} {r : R2} {f : PyData → PyData → Option PyData}
def m2 (f : PyData → PyData → Option PyData) (ma mb : SG → Res PyData) (sg : SG) : Res PyData := (ma sg).bind fun x => (mb sg).bind fun y => Res.of (f x y)
theorem two_ok (hf : OpF X.K r f) {σ : L2.St} {H : Hp} {Q : VK} (h : T X.K C W (m2 f ma mb) σ H Q) : tOp r (TB X.K C W ma) (TB X.K C W mb) σ H Q := by
  obtain ⟨sg, A, rl, o⟩ := h
  refine ⟨sg, A, rl, o.bind.mono fun dx H1 s1 o1 x rx => ⟨sg, A, rl.mono s1, o1.bind.mono fun dy H2 s2 o2 y ry => ?_⟩⟩
  obtain ⟨d, e, k⟩ := o2.of
  exact hf C.tabs A H2 dx dy d x y Q e ((rl.mono s1).mono s2).trk (rx.mono s2) ry fun v H' s' q => k H' s' v q
theorem e_bin {op : Operator} (ho : OpR X (binaryOp op) r) (hf : OpF X.K r f) (ha : PE X a (TB X.K C W ma)) (hb : PE X b (TB X.K C W mb)) : PE X (.BinOp a op b pos) (T X.K C W (m2 f ma mb)) :=
  pe_imp (pe_op ho ha hb) fun σ H Q h => two_ok hf h
theorem e_cmp {op : CmpOp} (ho : OpR X (compareOp op) r) (hf : OpF X.K r f) (ha : PE X a (TB X.K C W ma)) (hb : PE X b (TB X.K C W mb)) (hm : behindInMarks op b = false) : PE X (.Compare a [op] [b] pos) (T X.K C W (m2 f ma mb)) :=
  pe_imp (pe_cmpR ho ha hb hm) fun σ H Q h => two_ok hf h
def mT (m : SG → Res PyData) (sg : SG) : Res Bool := (m sg).bind fun d => match d with
  | .bool b => .ok b
  | _ => .bad
theorem p_cmp {op : CmpOp} (ho : OpR X (compareOp op) r) (hf : OpF X.K r f) (ha : PE X a (TB X.K C W ma)) (hb : PE X b (TB X.K C W mb)) (hm : behindInMarks op b = false) : PT X (.Compare a [op] [b] pos) (TP X.K C W (mT (m2 f ma mb))) :=
  pt_imp (pt_cmpR ho ha hb hm) fun σ H Q ⟨sg, A, rl, o⟩ => by
    refine two_ok (W := W) (C := C) hf ⟨sg, A, rl, o.bind.mono fun d H1 s1 o1 v q => ?_⟩
    cases d with
    | bool k =>
      unfold R at q
      exact ⟨k, q, o1 H1 (Sm.refl H1)⟩
    | _ => exact o1.elim
end

def addP : PyData → PyData → Option PyData
  | .int i, .int j => some (.int (i + j))
  | .str a, .str b => match few (a.length + b.length) with | true => some (.str (a ++ b)) | false => none
  | .list a, .list b => match few (a.length + b.length) with | true => some (.list (a ++ b)) | false => none
  | .tuple a, .tuple b => match few (a.length + b.length) with | true => some (.tuple (a ++ b)) | false => none
  | _, _ => none
def subP : PyData → PyData → Option PyData
  | .int i, .int j => some (.int (i - j))
  | _, _ => none
def small (i : Int) : Bool := ltB (-(2 ^ 64)) i && ltB i (2 ^ 64)
def mulP : PyData → PyData → Option PyData
  | .int i, .int j => match small i || small j with | true => some (.int (i * j)) | false => none
  | .list a, .int j => match few (a.length * j.toNat) && small j && leB j 100000 && leB (-100000) j with | true => some (.list (List.replicate j.toNat a).flatten) | false => none
  | _, _ => none
def powP : PyData → PyData → Option PyData
  | .int i, .int j => match leB 0 j && leB j 100 && ltB i 1000000 && ltB (-1000000) i with | true => some (.int (i ^ j.toNat)) | false => none
  | _, _ => none
def cmpI (f : Int → Int → Bool) : PyData → PyData → Option PyData
  | .int i, .int j => some (.bool (f i j))
  | _, _ => none
def eqP (a b : PyData) : Option PyData := match shp 60 a && shp 60 b with | true => some (.bool (deq a b)) | false => none
def neP (a b : PyData) : Option PyData := match shp 60 a && shp 60 b with | true => some (.bool (!deq a b)) | false => none

section
variable {X : Cx}
theorem R.int' {K : PySem.W.Frag} {H : Hp} {i : Int} : R K H (.int i) (.int i) := by unfold R; rfl
theorem R.bool' {K : PySem.W.Frag} {H : Hp} {i : Bool} : R K H (.bool i) (.bl i) := by unfold R; rfl
theorem R.str' {K : PySem.W.Frag} {H : Hp} {i : Str} : R K H (.str i) (.str i) := by unfold R; rfl
theorem R.none' {K : PySem.W.Frag} {H : Hp} : R K H .none .non := by unfold R; rfl
def rAdd4 (K : PySem.W.Frag) : R2 := fun x y H Q => (∃ i j, x = .int i ∧ y = .int j ∧ Q (.int (i + j)) H) ∨ (∃ i j, x = .str i ∧ y = .str j ∧ i.length + j.length ≤ sizeLine ∧ Q (.str (i ++ j)) H) ∨ rCat x y H Q ∨ rCatA K x y H Q
theorem op_add4 : OpR X (binaryOp .Add) (rAdd4 X.K) := op_add.or (op_add_str.or (op_cat.or op_catA))
theorem f_add : OpF X.K (rAdd4 X.K) addP := by
  intro TT A H dx dy d x y Q e t rx ry k
  unfold addP at e
  split at e
  · cases e
    exact .inl ⟨_, _, rx.int, ry.int, k _ _ (Sm.refl H) R.int'⟩
  · split at e
    · rename_i h
      cases e
      exact .inr (.inl ⟨_, _, rx.str, ry.str, few_le h, k _ _ (Sm.refl H) R.str'⟩)
    · cases e
  · split at e
    · rename_i l l' _ h
      cases e
      obtain ⟨p, vs, e1, h1, r1⟩ := rx.list
      obtain ⟨q, us, e2, h2, r2⟩ := ry.list
      refine .inr (.inr (.inl ⟨p, q, vs, us, e1, e2, h1, h2, by rw [r1.length, r2.length]; exact few_le h, fun n hn => ?_⟩))
      exact k _ _ (new_list t (r1.append r2) hn).1 (new_list t (r1.append r2) hn).2
    · cases e
  · split at e
    · rename_i l l' _ h
      cases e
      obtain ⟨p, vs, e1, h1, r1⟩ := rx.tup
      obtain ⟨q, us, e2, h2, r2⟩ := ry.tup
      refine .inr (.inr (.inr ⟨p, q, vs, us, e1, e2, sqT_mono hid_le h1, sqT_mono hid_le h2, by rw [r1.length, r2.length]; exact few_le h, fun z => ?_, fun _ z => ?_, fun _ _ n hn => ?_⟩))
      · subst z
        have : l = [] := by have := r1.length; cases l with | nil => rfl | cons _ _ => simp at this
        subst this
        exact k _ _ (Sm.refl H) (R.tuple_iff.mpr ⟨q, us, rfl, h2, r2⟩)
      · subst z
        have : l' = [] := by have := r2.length; cases l' with | nil => rfl | cons _ _ => simp at this
        subst this
        rw [List.append_nil] at k
        exact k _ _ (Sm.refl H) (R.tuple_iff.mpr ⟨p, vs, rfl, h1, r1⟩)
      · exact k _ _ (new_tup t (r1.append r2) hn).1 (new_tup t (r1.append r2) hn).2
    · cases e
  · cases e
theorem f_sub : OpF X.K (rI0 fun i j => .int (i - j)) subP := by
  intro TT A H dx dy d x y Q e t rx ry k
  unfold subP at e
  split at e
  · cases e
    exact ⟨_, _, rx.int, ry.int, k _ _ (Sm.refl H) R.int'⟩
  · cases e
def rMul2 : R2 := fun x y H Q => (∃ i j, x = .int i ∧ y = .int j ∧ CMul i j ∧ Q (.int (i * j)) H) ∨ rRep x y H Q
theorem op_mul2 : OpR X (binaryOp .Mult) rMul2 := op_mul.or op_rep
theorem small_iff {i : Int} (h : small i = true) : -(2 ^ 64) < i ∧ i < 2 ^ 64 := by
  unfold small at h
  rw [Bool.and_eq_true, ltB_iff, ltB_iff] at h
  exact h
theorem f_mul : OpF X.K rMul2 mulP := by
  intro TT A H dx dy d x y Q e t rx ry k
  unfold mulP at e
  split at e
  · split at e
    · rename_i h
      cases e
      refine .inl ⟨_, _, rx.int, ry.int, ?_, k _ _ (Sm.refl H) R.int'⟩
      rw [Bool.or_eq_true] at h
      exact h.imp small_iff small_iff
    · cases e
  · split at e
    · rename_i l j _ h
      cases e
      simp only [Bool.and_eq_true, leB_iff] at h
      obtain ⟨p, vs, e1, h1, r1⟩ := rx.list
      refine .inr ⟨p, j, vs, e1, ry.int, h1, by omega, by omega, by rw [r1.length]; exact few_le h.1.1.1, fun n hn => ?_⟩
      exact k _ _ (new_list t (r1.rep _) hn).1 (new_list t (r1.rep _) hn).2
    · cases e
  · cases e
theorem f_pow : OpF X.K (rI CPow fun i j => .int (i ^ j.toNat)) powP := by
  intro TT A H dx dy d x y Q e t rx ry k
  unfold powP at e
  split at e
  · split at e
    · rename_i i j _ h
      cases e
      simp only [Bool.and_eq_true, leB_iff, ltB_iff] at h
      refine ⟨_, _, rx.int, ry.int, ⟨by omega, by omega, by omega⟩, k _ _ (Sm.refl H) R.int'⟩
    · cases e
  · cases e
theorem f_cmpI {g : Int → Int → Bool} {g' : Int → Int → V} (hg : ∀ i j, g' i j = .bl (g i j)) : OpF X.K (rI0 g') (cmpI g) := by
  intro TT A H dx dy d x y Q e t rx ry k
  unfold cmpI at e
  split at e
  · cases e
    exact ⟨_, _, rx.int, ry.int, by rw [hg]; exact k _ _ (Sm.refl H) R.bool'⟩
  · cases e
theorem f_eq : OpF X.K (rEqD X.K) eqP := by
  intro TT A H dx dy d x y Q e t rx ry k
  unfold eqP at e
  split at e
  · rename_i h
    cases e
    rw [Bool.and_eq_true] at h
    exact ⟨dx, dy, R.dp (shp_nod h.1) (rx.full (shp_nod h.1)), R.dp (shp_nod h.2) (ry.full (shp_nod h.2)), shaped_of h.1, shaped_of h.2, by rw [← deq_eq]; exact k _ _ (Sm.refl H) R.bool'⟩
  · cases e
theorem f_ne : OpF X.K (rNeD X.K) neP := by
  intro TT A H dx dy d x y Q e t rx ry k
  unfold neP at e
  split at e
  · rename_i h
    cases e
    rw [Bool.and_eq_true] at h
    exact ⟨dx, dy, R.dp (shp_nod h.1) (rx.full (shp_nod h.1)), R.dp (shp_nod h.2) (ry.full (shp_nod h.2)), shaped_of h.1, shaped_of h.2, by rw [← deq_eq]; exact k _ _ (Sm.refl H) R.bool'⟩
  · cases e
/-! is None -/
def isN : PyData → Bool
  | .none => true
  | _ => false
def isNP : PyData → PyData → Option PyData
  | x, .none => some (.bool (isN x))
  | _, _ => none
def notNP : PyData → PyData → Option PyData
  | x, .none => some (.bool (!isN x))
  | _, _ => none
theorem R.non_iff {K : PySem.W.Frag} {H : Hp} {d : PyData} {v : V} (r : R K H d v) : decide (v = .non) = isN d := by
  cases d with
  | none => unfold R at r; subst r; rfl
  | bool _ => unfold R at r; subst r; rfl
  | int _ => unfold R at r; subst r; rfl
  | str _ => unfold R at r; subst r; rfl
  | list _ => obtain ⟨a, vs, e, _⟩ := R.list_iff.mp r; subst e; rfl
  | tuple _ => obtain ⟨a, vs, e, _⟩ := R.tuple_iff.mp r; subst e; rfl
  | dict _ =>
    unfold R at r
    rcases r with ⟨_, a, _, _, rfl, _⟩ | ⟨_, rfl, _⟩ <;> rfl
theorem RB.non_iff {K : PySem.W.Frag} {A : Ow} {H : Hp} {d : PyData} {v : V} (r : RB K A H d v) : decide (v = .non) = isN d := by
  rcases r with h | ⟨l, a, vs, rfl, rfl, _, e, r⟩ | ⟨l, a, vs, rfl, rfl, _, e, r⟩
  · exact h.non_iff
  · rfl
  · rfl
theorem f_isN : OpF X.K (fun x y H Q => y = .non ∧ Q (.bl (decide (x = .non))) H) isNP := by
  intro TT A H dx dy d x y Q e t rx ry k
  unfold isNP at e
  split at e
  · cases e
    exact ⟨ry.none, by rw [rx.non_iff]; exact k _ _ (Sm.refl H) R.bool'⟩
  · cases e
theorem f_notN : OpF X.K (fun x y H Q => y = .non ∧ Q (.bl (!decide (x = .non))) H) notNP := by
  intro TT A H dx dy d x y Q e t rx ry k
  unfold notNP at e
  split at e
  · cases e
    exact ⟨ry.none, by rw [rx.non_iff]; exact k _ _ (Sm.refl H) R.bool'⟩
  · cases e
end
end Ev

namespace Ev
variable [Wd]
open PySem PySem.Spec PyProof.Rows L2
open PySem.W.Z (ltB leB eqB ltB_iff leB_iff eqB_iff)

/-! truth -/
def emptyL {α : Type} : List α → Bool
  | [] => true
  | _ => false
def truS (s : Str) : Option Bool := match few s.cps.toList.length with
  | true => some (!emptyL s.cps.toList)
  | false => none
def truthP : PyData → Option Bool
  | .none => some false
  | .bool b => some b
  | .int i => some (!eqB i 0)
  | .str s => truS s
  | .list l => some (!emptyL l)
  | .tuple l => some (!emptyL l)
  | .dict _ => none
theorem emptyL_eq {α : Type} (l : List α) : emptyL l = l.isEmpty := by cases l <;> rfl
theorem tru_of {K : PySem.W.Frag} {A : Ow} {H : Hp} {d : PyData} {v : V} {k : Bool} (r : RB K A H d v) (h : truthP d = some k) : TruV K v H k := by
  cases d with
  | none => cases h; rw [r.none]; exact rfl
  | bool b => cases h; rw [r.bool]; exact rfl
  | int i => cases h; rw [r.int]; show _ = (i != 0); rw [eqB_eq]; rfl
  | str s =>
    have h : truS s = some k := h
    unfold truS at h
    split at h
    · rename_i _ h1
      cases h
      rw [r.str]
      refine ⟨?_, ?_⟩
      · have := few_le h1
        simpa [Str.length] using this
      · rw [emptyL_eq]
        have : s.length = s.cps.toList.length := by simp [Str.length]
        rw [this]
        cases s.cps.toList with
        | nil => rfl
        | cons a l => simp; omega
    · cases h
  | list l =>
    cases h
    obtain ⟨a, vs, e, h1, r1⟩ := r.list
    subst e
    refine .inl ⟨vs, SqL.of h1, ?_⟩
    have := r1.length
    rw [emptyL_eq]
    cases l <;> cases vs <;> simp_all
  | tuple l =>
    cases h
    obtain ⟨a, vs, e, h1, r1⟩ := r.tup
    subst e
    refine .inr (.inl ⟨vs, sqT_mono hid_le h1, ?_⟩)
    have := r1.length
    rw [emptyL_eq]
    cases l <;> cases vs <;> simp_all
  | dict _ => cases h

section
variable {X : Cx} {C : CT} {W : WX} {e a b c : Expr} {es rest : List Expr} {m ma mb mc : SG → Res PyData} {ta tb tc : SG → Res Bool} {pos : Pos}
def mTru (m : SG → Res PyData) (sg : SG) : Res Bool := (m sg).bind fun d => Res.of (truthP d)
theorem p_tru (ha : PE X a (TB X.K C W ma)) (he : ∀ whole, isTrue a X.env whole = (do let v ← whole; standAt a.pos; holding [v] (truthy v))) : PT X a (TP X.K C W (mTru ma)) :=
  pt_imp (pt_truth ha he) fun σ H Q ⟨sg, A, rl, o⟩ => by
    refine ⟨sg, A, rl, o.bind.mono fun d H1 s1 o1 v q => ?_⟩
    obtain ⟨k, e, kk⟩ := o1.of
    exact ⟨k, tru_of q e, kk H1 (Sm.refl H1)⟩
/-! not, and, or, if -/
def mNot (m : SG → Res Bool) (sg : SG) : Res Bool := (m sg).bind fun b => .ok (!b)
theorem p_not (ha : PT X a (TP X.K C W ta)) : PT X (.UnaryOp .Not a pos) (TP X.K C W (mNot ta)) :=
  pt_imp (pt_not ha) fun σ H Q ⟨sg, A, rl, o⟩ => ⟨sg, A, rl, o.bind.mono fun d H1 s1 o1 => o1 H1 (Sm.refl H1)⟩
def mNotV (m : SG → Res PyData) (sg : SG) : Res PyData := (m sg).bind fun d => Res.of ((truthP d).map fun b => .bool (!b))
theorem e_not (ha : PE X a (TB X.K C W ma)) : PE X (.UnaryOp .Not a pos) (T X.K C W (mNotV ma)) :=
  pe_imp (pe_notT ha) fun σ H Q ⟨sg, A, rl, o⟩ => by
    refine ⟨sg, A, rl, o.bind.mono fun d H1 s1 o1 v q => ?_⟩
    obtain ⟨k, e, kk⟩ := o1.of
    cases ht : truthP d with
    | none => rw [ht] at e; cases e
    | some k' =>
      rw [ht] at e
      cases e
      exact ⟨k', tru_of q ht, kk H1 (Sm.refl H1) _ R.bool'⟩
def mAndT (a b : SG → Res Bool) (sg : SG) : Res Bool := (a sg).bind fun c => match c with | true => b sg | false => .ok false
def mOrT (a b : SG → Res Bool) (sg : SG) : Res Bool := (a sg).bind fun c => match c with | true => .ok true | false => b sg
theorem pw_imp {t t' : TT} (h : PW X e t) (i : ∀ σ H Q, t' σ H Q → t σ H Q) : PW X e t' := ⟨fun wh pins s σ H Q I q => h.run wh pins s σ H Q I (i σ H Q q)⟩
theorem w_and1 (ha : PT X a (TP X.K C W ta)) : PW X (.BoolOp .And [a] pos) (TP X.K C W ta) := pw_and1 ha
theorem w_or1 (ha : PT X a (TP X.K C W ta)) : PW X (.BoolOp .Or [a] pos) (TP X.K C W ta) := pw_or1 ha
theorem w_and (ha : PT X a (TP X.K C W ta)) (hb : PW X (.BoolOp .And (b :: rest) pos) (TP X.K C W tb)) : PW X (.BoolOp .And (a :: b :: rest) pos) (TP X.K C W (mAndT ta tb)) :=
  pw_imp (pw_and ha hb) fun σ H Q ⟨sg, A, rl, o⟩ => by
    refine ⟨sg, A, rl, o.bind.mono fun d H1 s1 o1 => ?_⟩
    cases d with
    | true => exact iteT ⟨sg, A, rl.mono s1, o1⟩
    | false => exact iteF (o1 H1 (Sm.refl H1))
theorem w_or (ha : PT X a (TP X.K C W ta)) (hb : PW X (.BoolOp .Or (b :: rest) pos) (TP X.K C W tb)) : PW X (.BoolOp .Or (a :: b :: rest) pos) (TP X.K C W (mOrT ta tb)) :=
  pw_imp (pw_or ha hb) fun σ H Q ⟨sg, A, rl, o⟩ => by
    refine ⟨sg, A, rl, o.bind.mono fun d H1 s1 o1 => ?_⟩
    cases d with
    | true => exact iteT (o1 H1 (Sm.refl H1))
    | false => exact iteF ⟨sg, A, rl.mono s1, o1⟩
/-- the value of a and b, a or b: shared values alone -/
def mAndV (a b : SG → Res PyData) (sg : SG) : Res PyData := (a sg).bind fun d => match truthP d with | some true => b sg | some false => .ok d | none => .bad
def mOrV (a b : SG → Res PyData) (sg : SG) : Res PyData := (a sg).bind fun d => match truthP d with | some true => .ok d | some false => b sg | none => .bad
theorem e_one {op} (ha : PE X a (T X.K C W ma)) : PE X (.BoolOp op [a] pos) (T X.K C W ma) := pe_one ha
theorem e_and (ha : PE X a (T X.K C W ma)) (hb : PE X (.BoolOp .And (b :: rest) pos) (T X.K C W mb)) : PE X (.BoolOp .And (a :: b :: rest) pos) (T X.K C W (mAndV ma mb)) :=
  pe_imp (pe_andT ha hb) fun σ H Q ⟨sg, A, rl, o⟩ => by
    refine ⟨sg, A, rl, o.bind.mono fun d H1 s1 o1 v q => ?_⟩
    split at o1
    · rename_i h; exact ⟨true, tru_of (.inl q) h, iteT ⟨sg, A, rl.mono s1, o1⟩⟩
    · rename_i h; exact ⟨false, tru_of (.inl q) h, iteF (o1 H1 (Sm.refl H1) v q)⟩
    · exact o1.elim
theorem e_or (ha : PE X a (T X.K C W ma)) (hb : PE X (.BoolOp .Or (b :: rest) pos) (T X.K C W mb)) : PE X (.BoolOp .Or (a :: b :: rest) pos) (T X.K C W (mOrV ma mb)) :=
  pe_imp (pe_orT ha hb) fun σ H Q ⟨sg, A, rl, o⟩ => by
    refine ⟨sg, A, rl, o.bind.mono fun d H1 s1 o1 v q => ?_⟩
    split at o1
    · rename_i h; exact ⟨true, tru_of (.inl q) h, iteT (o1 H1 (Sm.refl H1) v q)⟩
    · rename_i h; exact ⟨false, tru_of (.inl q) h, iteF ⟨sg, A, rl.mono s1, o1⟩⟩
    · exact o1.elim
def mIte (c : SG → Res Bool) (a b : SG → Res PyData) (sg : SG) : Res PyData := (c sg).bind fun k => match k with | true => a sg | false => b sg
theorem e_ite (hc : PT X c (TP X.K C W tc)) (ha : PE X a (T X.K C W ma)) (hb : PE X b (T X.K C W mb)) : PE X (.IfExp c a b pos) (T X.K C W (mIte tc ma mb)) :=
  pe_imp (pe_ifExp hc ha hb) fun σ H Q ⟨sg, A, rl, o⟩ => by
    refine ⟨sg, A, rl, o.bind.mono fun d H1 s1 o1 => ?_⟩
    cases d with
    | true => exact iteT ⟨sg, A, rl.mono s1, o1⟩
    | false => exact iteF ⟨sg, A, rl.mono s1, o1⟩
/-! a < b < c -/
def m3 (f g : PyData → PyData → Option PyData) (ma mb mc : SG → Res PyData) (sg : SG) : Res PyData := (ma sg).bind fun x => (mb sg).bind fun y => match f x y with
  | some (.bool true) => (mc sg).bind fun z => Res.of (g y z)
  | some (.bool false) => .ok (.bool false)
  | _ => .bad
theorem three_ok {r r' : R2} {f g : PyData → PyData → Option PyData} (hf : OpF X.K r f) (hg : OpF X.K r' g) {σ : L2.St} {H : Hp} {Q : VK} (h : T X.K C W (m3 f g ma mb mc) σ H Q) : tChain r r' (TB X.K C W ma) (TB X.K C W mb) (TB X.K C W mc) σ H Q := by
  obtain ⟨sg, A, rl, o⟩ := h
  refine ⟨sg, A, rl, o.bind.mono fun dx H1 s1 o1 x rx => ⟨sg, A, rl.mono s1, o1.bind.mono fun dy H2 s2 o2 y ry => ?_⟩⟩
  have rl2 := (rl.mono s1).mono s2
  split at o2
  · rename_i e
    refine hf C.tabs A H2 dx dy _ x y _ e rl2.trk (rx.mono s2) ry fun v H3 s3 q => ?_
    unfold R at q
    refine ⟨true, q, iteT ⟨sg, A, rl2.mono s3, ?_⟩⟩
    have o3 : Out X.K C A _ H2 (mc sg) _ := o2.bind
    have o4 : Out X.K C A (fun cx dx H' => W cx dx σ H') H3 (mc sg) (fun z H4 => Out X.K C A (fun cx dx H' => W cx dx σ H') H4 (Res.of (g dy z)) fun d H' => ∀ v, R X.K (hid A H') d v → Q v H') := by
      exact o3.up s3
    refine o4.mono fun dz H4 s4 o5 z rz => ?_
    obtain ⟨d, e2, k⟩ := o5.of
    exact hg C.tabs A H4 dy dz d y z Q e2 ((rl2.mono s3.w).mono s4).trk ((ry.mono s3.e).mono s4.e) rz fun v H' s' q => k H' s' v q
  · rename_i e
    refine hf C.tabs A H2 dx dy _ x y _ e rl2.trk (rx.mono s2) ry fun v H3 s3 q => ?_
    unfold R at q
    exact ⟨false, q, iteF (o2 H3 s3 _ R.bool')⟩
  · exact o2.elim
theorem e_chain {op op' : CmpOp} {r r' : R2} {f g : PyData → PyData → Option PyData} (ho : OpR X (compareOp op) r) (ho' : OpR X (compareOp op') r') (hf : OpF X.K r f) (hg : OpF X.K r' g) (ha : PE X a (TB X.K C W ma)) (hb : PE X b (TB X.K C W mb)) (hc : PE X c (TB X.K C W mc))
    (hm : lastMarks [op, op'] [b, c] = false) : PE X (.Compare a [op, op'] [b, c] pos) (T X.K C W (m3 f g ma mb mc)) :=
  pe_imp (pe_chain ho ho' ha hb hc hm) fun σ H Q h => three_ok hf hg h
theorem p_chain {op op' : CmpOp} {r r' : R2} {f g : PyData → PyData → Option PyData} (ho : OpR X (compareOp op) r) (ho' : OpR X (compareOp op') r') (hf : OpF X.K r f) (hg : OpF X.K r' g) (ha : PE X a (TB X.K C W ma)) (hb : PE X b (TB X.K C W mb)) (hc : PE X c (TB X.K C W mc))
    (hm : lastMarks [op, op'] [b, c] = false) : PT X (.Compare a [op, op'] [b, c] pos) (TP X.K C W (mT (m3 f g ma mb mc))) :=
  pt_imp (pt_chain ho ho' ha hb hc hm) fun σ H Q ⟨sg, A, rl, o⟩ => by
    refine three_ok (W := W) (C := C) hf hg ⟨sg, A, rl, o.bind.mono fun d H1 s1 o1 v q => ?_⟩
    cases d with
    | bool k =>
      unfold R at q
      exact ⟨k, q, o1 H1 (Sm.refl H1)⟩
    | _ => exact o1.elim

/-! displays, with stars -/
def TLB (K : PySem.W.Frag) (C : CT) (W : WX) (m : SG → Res (List PyData)) : TA := TL K C W m
def mNil (_ : SG) : Res (List PyData) := .ok []
def mCons (a : SG → Res PyData) (r : SG → Res (List PyData)) (sg : SG) : Res (List PyData) := (a sg).bind fun x => (r sg).bind fun xs => .ok (x :: xs)
def mStarK (r : SG → Res (List PyData)) (sg : SG) (x : PyData) : Res (List PyData) := match x with
  | .list l => (r sg).bind fun xs => .ok (l ++ xs)
  | .tuple l => (r sg).bind fun xs => .ok (l ++ xs)
  | _ => .bad
def mStar (a : SG → Res PyData) (r : SG → Res (List PyData)) (sg : SG) : Res (List PyData) := (a sg).bind (mStarK r sg)
theorem a_nil : PA X [] (TL X.K C W mNil) := pa_imp pa_nil fun σ H Q ⟨sg, A, rl, o⟩ => o H (Sm.refl H) [] Rs.nil
theorem a_cons {mr : SG → Res (List PyData)} (ha : PE X e (T X.K C W ma)) (hr : PA X es (TL X.K C W mr)) (hs : starEach (e :: es) X.env = (false, eval e X.env) :: starEach es X.env) : PA X (e :: es) (TL X.K C W (mCons ma mr)) :=
  pa_imp (pa_cons ha hr hs) fun σ H Q ⟨sg, A, rl, o⟩ => by
    refine ⟨sg, A, rl, o.bind.mono fun d H1 s1 o1 v q => ⟨sg, A, rl.mono s1, o1.bind.mono fun ds H2 s2 o2 vs qs => ?_⟩⟩
    exact o2 H2 (Sm.refl H2) _ (.cons (q.mono (hid_sm s2)) qs)
theorem a_star {mr : SG → Res (List PyData)} {p : Pos} (ha : PE X e (TB X.K C W ma)) (hr : PA X es (TL X.K C W mr)) : PA X (.Starred e p :: es) (TL X.K C W (mStar ma mr)) := by
  refine ⟨fun pos pins s σ H Q I ⟨sg, A, rl, o⟩ => ?_⟩
  let kk : List PyData → Hp → Prop := fun d H' => ∀ v, Rs X.K (hid A H') d v → Q v H'
  have h0 : TB X.K C W ma σ H (fun v H1 => ∃ d, Sw C.tabs H H1 ∧ RB X.K A H1 d v ∧ Out X.K C A (fun cx dx H' => W cx dx σ H') H1 (mStarK mr sg d) kk) :=
    ⟨sg, A, rl, o.bind.mono fun d H1 s1 o1 v q => ⟨d, s1, q, o1⟩⟩
  refine PySem.W.items_star (thn (ha.run pins s σ H _ I h0) fun u s1 ⟨x, H1, I1, r1, d, sm1, q1, o1⟩ => ?_)
  have main : ∀ (l : List PyData) (vs : List V) (a : Addr), x = .ref a → (SqT X.K H1 a vs ∨ SqL X.K H1 a vs) → Rs X.K (hid A H1) l vs → Out X.K C A (fun cx dx H' => W cx dx σ H') H1 ((mr sg).bind fun xs => .ok (l ++ xs)) kk →
      PySem.W.StarOf (model X.prog X.w) X.A X.xe u (fun here s2 => wpAny (model X.prog X.w) X.A (spliced (backTo pos (starEach es X.env))) (fun vs s3 => AP X pins σ Q (here ++ vs) s3) X.xe s2) s1 := by
    intro l vs a ex hq rs o2
    subst ex
    cases r1
    refine StX.star_any I1 hq fun us s2 I2 rv => ?_
    have h2 : TL X.K C W mr σ H1 (fun ys H2 => ∃ xs, Sw C.tabs H1 H2 ∧ kk (l ++ xs) H2 ∧ Rs X.K (hid A H2) xs ys) :=
      ⟨sg, A, rl.mono sm1, o2.bind.mono fun xs H2 sm2 o3 ys qs => ⟨xs, sm2, o3 H2 (Sm.refl H2), qs⟩⟩
    refine thn (hr.run pos pins s2 σ H1 _ I2 h2) fun ws s3 ⟨ys, H2, I3, r3, xs, sm2, k, qs⟩ => ?_
    exact ⟨vs ++ ys, H2, I3, rv.append r3, k _ ((rs.mono (hid_sm sm2)).append qs)⟩
  cases d with
  | list l =>
    obtain ⟨a', vs, ex, h1, rs⟩ := q1.list
    exact main l vs a' ex (.inr (SqL.of h1)) rs o1
  | tuple l =>
    obtain ⟨a', vs, ex, h1, rs⟩ := q1.tup
    exact main l vs a' ex (.inl (sqT_mono hid_le h1)) rs o1
  | _ => exact o1.elim
def mTup (m : SG → Res (List PyData)) (sg : SG) : Res PyData := (m sg).bind fun l => match few l.length with | true => .ok (.tuple l) | false => .bad
def mLst (m : SG → Res (List PyData)) (sg : SG) : Res PyData := (m sg).bind fun l => match few l.length with | true => .ok (.list l) | false => .bad
theorem e_tup {x1} {mr : SG → Res (List PyData)} (h : PA X es (TL X.K C W mr)) : PE X (.Tuple es x1 pos) (T X.K C W (mTup mr)) :=
  pe_imp (pe_tup h) fun σ H Q ⟨sg, A, rl, o⟩ => by
    refine ⟨sg, A, rl, o.bind.mono fun l H1 s1 o1 vs q => ?_⟩
    split at o1
    · rename_i hf
      refine ⟨by rw [q.length]; exact few_le hf, fun p hp => ?_⟩
      have z := new_tup (rl.mono s1).trk q hp
      exact o1 _ z.1 _ z.2
    · exact o1.elim
theorem e_lst {mr : SG → Res (List PyData)} (h : PA X es (TL X.K C W mr)) : PE X (.List es pos) (T X.K C W (mLst mr)) :=
  pe_imp (pe_lst h) fun σ H Q ⟨sg, A, rl, o⟩ => by
    refine ⟨sg, A, rl, o.bind.mono fun l H1 s1 o1 vs q => ?_⟩
    split at o1
    · rename_i hf
      refine ⟨by rw [q.length]; exact few_le hf, fun p hp => ?_⟩
      have z := new_list (rl.mono s1).trk q hp
      exact o1 _ z.1 _ z.2
    · exact o1.elim

/-! items and slices -/
def nth : List PyData → Nat → Option PyData
  | [], _ => none
  | x :: l, i => match i with | 0 => some x | i + 1 => nth l i
theorem nth_eq : ∀ (l : List PyData) (i : Nat), nth l i = l[i]?
  | [], i => by simp [nth]
  | x :: l, 0 => by simp [nth]
  | x :: l, i + 1 => by simp [nth, nth_eq l i]
def ixP : PyData → PyData → Option PyData
  | .list l, .int i => (ixN l.length i).bind (nth l)
  | .tuple l, .int i => (ixN l.length i).bind (nth l)
  | _, _ => none
theorem f_ix : OpF X.K (rIx X.K) ixP := by
  intro TT A H dx dy d x y Q e t rx ry k
  have key : ∀ (l : List PyData) (vs : List V) (i : Int), Rs X.K (hid A H) l vs → (ixN l.length i).bind (nth l) = some d → ∃ v, atI vs i = some v ∧ R X.K (hid A H) d v := by
    intro l vs i r h
    unfold atI
    rw [r.length]
    cases hn : ixN l.length i with
    | none => rw [hn] at h; cases h
    | some j =>
      rw [hn] at h
      have h' : nth l j = some d := h
      rw [nth_eq] at h'
      exact r.get h'
  unfold ixP at e
  split at e
  · obtain ⟨a, vs, e1, h1, r1⟩ := rx.list
    obtain ⟨v, h2, h3⟩ := key _ vs _ r1 e
    exact .inl ⟨a, vs, _, v, e1, ry.int, SqL.of h1, h2, k v H (Sm.refl H) h3⟩
  · obtain ⟨a, vs, e1, h1, r1⟩ := rx.tup
    obtain ⟨v, h2, h3⟩ := key _ vs _ r1 e
    exact .inr (.inl ⟨a, vs, _, v, e1, ry.int, sqT_mono hid_le h1, h2, k v H (Sm.refl H) h3⟩)
  · cases e
theorem e_ix (ha : PE X a (TB X.K C W ma)) (hb : PE X b (TB X.K C W mb)) (hs : PlainIx b) : PE X (.Subscript a b pos) (T X.K C W (m2 ixP ma mb)) :=
  pe_imp (pe_ix ix_seq ha hb hs) fun σ H Q h => two_ok f_ix h
/-- the parts of a slice -/
def TI' (K : PySem.W.Frag) (C : CT) (W : WX) (m : SG → Res (Option Int)) : TO := fun σ H Q => ∃ sg A, Rel K C A H sg σ ∧ Out K C A (fun cx dx H' => W cx dx σ H') H (m sg) fun d H' => Q d H'
theorem po_imp {x : Option Expr} {t t' : TO} (h : PO X x t) (i : ∀ σ H Q, t' σ H Q → t σ H Q) : PO X x t' := ⟨fun pins s σ H Q I q => h.run pins s σ H Q I (i σ H Q q)⟩
def mNo (_ : SG) : Res (Option Int) := .ok none
def mPart (m : SG → Res PyData) (sg : SG) : Res (Option Int) := (m sg).bind fun d => match d with | .int i => .ok (some i) | _ => .bad
theorem o_none : PO X none (TI' X.K C W mNo) := po_imp po_none fun σ H Q ⟨sg, A, rl, o⟩ => o H (Sm.refl H)
theorem o_some (h : PE X e (T X.K C W m)) : PO X (some e) (TI' X.K C W (mPart m)) :=
  po_imp (po_some h) fun σ H Q ⟨sg, A, rl, o⟩ => by
    refine ⟨sg, A, rl, o.bind.mono fun d H1 s1 o1 v q => ?_⟩
    cases d with
    | int i => unfold R at q; exact ⟨i, q, o1 H1 (Sm.refl H1)⟩
    | _ => exact o1.elim
def cutP (l : List PyData) (lo hi : Option Int) : List PyData := (l.drop (HT.sIx l.length 0 lo)).take (HT.sIx l.length l.length hi - HT.sIx l.length 0 lo)
def slP (lo hi : Option Int) : PyData → Option PyData
  | .list l => some (.list (cutP l lo hi))
  | .tuple l => some (.tuple (cutP l lo hi))
  | _ => none
theorem cut_rs {K : PySem.W.Frag} {H : Hp} {l : List PyData} {vs : List V} (r : Rs K H l vs) (lo hi : Option Int) : Rs K H (cutP l lo hi) (cutV vs lo hi) := by
  unfold cutP cutV
  rw [r.length]
  exact (r.drop _).take _
def mSl (ma : SG → Res PyData) (ml mh : SG → Res (Option Int)) (sg : SG) : Res PyData := (ma sg).bind fun x => (ml sg).bind fun lo => (mh sg).bind fun hi => Res.of (slP lo hi x)
theorem e_sl {lo hi : Option Expr} {p2 : Pos} {ml mh : SG → Res (Option Int)} (ha : PE X a (TB X.K C W ma)) (hl : PO X lo (TI' X.K C W ml)) (hh : PO X hi (TI' X.K C W mh)) : PE X (.Subscript a (.Slice lo hi none p2) pos) (T X.K C W (mSl ma ml mh)) :=
  pe_imp (pe_slice (SlR.or sl_list sl_tupA) ha hl hh) fun σ H Q ⟨sg, A, rl, o⟩ => by
    refine ⟨sg, A, rl, o.bind.mono fun d H1 s1 o1 v rv => ⟨sg, A, rl.mono s1, o1.bind.mono fun lo' H2 s2 o2 => ⟨sg, A, (rl.mono s1).mono s2, o2.bind.mono fun hi' H3 s3 o3 => ?_⟩⟩⟩
    obtain ⟨d', e, k⟩ := o3.of
    have t := (((rl.mono s1).mono s2).mono s3).trk
    have rv3 := (rv.mono s2.e).mono s3.e
    unfold slP at e
    split at e
    · cases e
      obtain ⟨a', vs, e1, h1, r1⟩ := rv3.list
      refine .inl ⟨a', vs, e1, SqL.of h1, fun p hp => ?_⟩
      have z := new_list t (cut_rs r1 lo' hi') hp
      exact k _ z.1 _ z.2
    · cases e
      obtain ⟨a', vs, e1, h1, r1⟩ := rv3.tup
      refine .inr ⟨a', vs, e1, sqT_mono hid_le h1, fun w => ?_, fun w p hp => ?_⟩
      · refine k H3 (Sm.refl H3) _ (R.tuple_iff.mpr ⟨a', vs, rfl, h1, ?_⟩)
        have z := cut_rs r1 lo' hi'
        have : cutV vs lo' hi' = vs := by
          unfold cutV
          rw [w.1, w.2]
          simp
        rw [this] at z
        exact z
      · have z := new_tup t (cut_rs r1 lo' hi') hp
        exact k _ z.1 _ z.2
    · cases e
end
end Ev

namespace Ev
open PySem PySem.Spec PyProof.Rows L2

/-! how lists and tuples with empty dicts in them are shown -/
mutual
inductive Rx (g : Heap) : Value → PyData → Prop
  | nn : Rx g .none .none
  | bb (b) : Rx g (.bool b) (.bool b)
  | ii (i t) : Rx g (.int i t) (.int i)
  | ss (x t) : Rx g (.str x t) (.str x)
  | ll {a o vs n xs} (e1 : g.get? a = some o) (e2 : o.cls = .type "list") (e3 : o.data = .seq vs n) (q : Rxs g vs.toList xs) : Rx g (.ref a) (.list xs)
  | tt {a o vs n xs} (e1 : g.get? a = some o) (e2 : o.cls = .type "tuple") (e3 : o.data = .seq vs n) (q : Rxs g vs.toList xs) : Rx g (.ref a) (.tuple xs)
  | dd {a o n} (e1 : g.get? a = some o) (e2 : o.cls = .type "dict") (e3 : o.data = .dict #[] n) (ns : (a == sysModules) = false) : Rx g (.ref a) (.dict [])
inductive Rxs (g : Heap) : List Value → List PyData → Prop
  | nil : Rxs g [] []
  | cons {v vs d ds} : Rx g v d → Rxs g vs ds → Rxs g (v :: vs) (d :: ds)
end
mutual
theorem Rx.rd {g : Heap} : ∀ {v : Value} {d : PyData}, Rx g v d → ∃ l, Reads g v d l
  | _, _, .nn => ⟨_, .none⟩
  | _, _, .bb b => ⟨_, .bool b⟩
  | _, _, .ii i t => ⟨_, .int i t⟩
  | _, _, .ss x t => ⟨_, .str x t⟩
  | _, _, .ll e1 e2 e3 q => let ⟨_, r⟩ := q.rd; ⟨_, .list e1 e2 e3 r⟩
  | _, _, .tt e1 e2 e3 q => let ⟨_, r⟩ := q.rd; ⟨_, .tuple e1 e2 e3 r⟩
  | _, _, .dd e1 e2 e3 _ => ⟨_, .dict (kvs := []) e1 e2 e3 .nil .nil⟩
theorem Rxs.rd {g : Heap} : ∀ {vs : List Value} {ds : List PyData}, Rxs g vs ds → ∃ l, ReadsAll g vs ds l
  | _, _, .nil => ⟨_, .nil⟩
  | _, _, .cons r q => let ⟨_, x⟩ := r.rd; let ⟨_, y⟩ := q.rd; ⟨_, .cons x y⟩
end
section
variable {P : Program} {w : World} {g : Heap}
mutual
theorem Rx.rk : ∀ {v : Value} {d : PyData}, Rx g v d → d.showable = true → d.shown.length ≤ sizeLine → ∃ l, ReadAtMost g d.depth l ∧ ReprK P w l g d.depth v d.shown
  | _, _, .nn, _, _ => ⟨[], (fun _ z => by cases z), by simp only [PyData.shown]; exact ReprK.of_is ReprIs.none _ _ _⟩
  | _, _, .bb b, _, _ => ⟨[], (fun _ z => by cases z), by simp only [PyData.shown]; exact ReprK.of_is (ReprIs.bool b) _ _ _⟩
  | _, _, .ii i t, sh, _ => ⟨[], (fun _ z => by cases z), by simp only [PyData.shown]; exact ReprK.of_is (ReprIs.int t (by simpa [PyData.showable] using sh)) _ _ _⟩
  | _, _, .ss x t, _, ln => ⟨[], (fun _ z => by cases z), by simp only [PyData.shown]; exact ReprK.of_is (ReprIs.str x t (by simpa only [PyData.shown] using ln)) _ _ _⟩
  | _, _, .ll (a := a) (vs := vs) (xs := xs) e1 e2 e3 q, sh, ln => by
    have ln2 : (listText (PyData.shownAll xs)).length ≤ sizeLine := by simpa only [PyData.shown] using ln
    obtain ⟨l, lb, lk⟩ := q.rk (by simpa [PyData.showable] using sh) fun t m => Nat.le_trans (listText_mem_le m) ln2
    obtain ⟨as0, r0⟩ := q.rd
    have me : Reads g (.ref a) (.list xs) _ := .list e1 e2 e3 r0
    have off : a ∉ l := not_mem_of_deeper me (by simp only [PyData.depth]; omega) lb
    refine ⟨a :: l, lb.cons me (by simp only [PyData.depth]; omega), ?_⟩
    simp only [PyData.depth, PyData.shown]
    obtain ⟨vl⟩ := vs
    cases vl with
    | nil =>
      have q' : Rxs g [] xs := q
      cases q'
      simp only [PyData.shownAll, listText_nil]
      exact .listEmpty e1 e2 e3
    | cons y ys => exact .list e1 e2 e3 off (by simpa using lk.length_eq) fun i z e => lk.item i z (by simpa using e)
  | _, _, .tt (a := a) (xs := xs) e1 e2 e3 q, sh, ln => by
    have ln2 : (tupleText (PyData.shownAll xs)).length ≤ sizeLine := by simpa only [PyData.shown] using ln
    obtain ⟨l, lb, lk⟩ := q.rk (by simpa [PyData.showable] using sh) fun t m => Nat.le_trans (tupleText_mem_le m) ln2
    obtain ⟨as0, r0⟩ := q.rd
    have me : Reads g (.ref a) (.tuple xs) _ := .tuple e1 e2 e3 r0
    have off : a ∉ l := not_mem_of_deeper me (by simp only [PyData.depth]; omega) lb
    refine ⟨a :: l, lb.cons me (by simp only [PyData.depth]; omega), ?_⟩
    simp only [PyData.depth, PyData.shown]
    exact .tuple e1 e2 e3 off lk
  | _, _, .dd (a := a) e1 e2 e3 ns, _, _ => by
    have me : Reads g (.ref a) (.dict []) _ := .dict (kvs := []) e1 e2 e3 .nil .nil
    have lb : ReadAtMost g (PyData.depthKv []) [] := fun _ z => by cases z
    refine ⟨[a], lb.cons me (by simp only [PyData.depth]; omega), ?_⟩
    simp only [PyData.depth, PyData.shown]
    exact .dict e1 e2 e3 ns (fun z => by cases z) .nil
theorem Rxs.rk : ∀ {vs : List Value} {ds : List PyData}, Rxs g vs ds → PyData.showableAll ds = true → (∀ t ∈ PyData.shownAll ds, t.length ≤ sizeLine) → ∃ l, ReadAtMost g (PyData.depthAll ds) l ∧ ReprAllK P w l g (PyData.depthAll ds) vs (PyData.shownAll ds)
  | _, _, .nil, _, _ => ⟨[], (fun _ z => by cases z), by simp only [PyData.shownAll]; exact .nil⟩
  | _, _, .cons (d := d) (ds := ds) r q, sh, ln => by
    have sh2 : d.showable = true ∧ PyData.showableAll ds = true := by simpa [PyData.showableAll] using sh
    obtain ⟨l1, lb1, lk1⟩ := r.rk sh2.1 (ln _ (by simp [PyData.shownAll]))
    obtain ⟨l2, lb2, lk2⟩ := q.rk sh2.2 fun t m => ln t (by simp [PyData.shownAll, m])
    refine ⟨l1 ++ l2, fun b m => ?_, ?_⟩
    · simp only [PyData.depthAll]
      rcases List.mem_append.mp m with m | m
      · exact let ⟨x, y, z, u⟩ := lb1 b m; ⟨x, y, z, Nat.le_trans u (Nat.le_max_left _ _)⟩
      · exact let ⟨x, y, z, u⟩ := lb2 b m; ⟨x, y, z, Nat.le_trans u (Nat.le_max_right _ _)⟩
    · simp only [PyData.depthAll, PyData.shownAll]
      exact .cons ((lk1.more fun b m => List.mem_append_left _ m).level_le (Nat.le_max_left _ _)) (lk2.more_le (fun b m => List.mem_append_right _ m) (Nat.le_max_right _ _))
end
/-- repr of such a list or tuple -/
theorem repr_rx {A : Around} {E : Value → Shared → Prop} {s : Shared} {Q : Value → Shared → Prop} {a : Addr} {d : PyData} (r : Rx s.heap (.ref a) d) (nd : ∀ l, d ≠ .dict l) (sh : d.showable = true) (hg : A.guards = some []) (hu : A.units + (d.depth + 1) < cLine)
    (k : ∀ h' u tk, (∀ b o, s.heap.get? b = some o → h'.get? b = some o) → Q (.str d.shown u) { s with heap := h', toks := tk }) (ln : d.shown.length ≤ sizeLine) : wpAny (model P w) A (call (.builtin "repr") [.ref a]) Q E s := by
  cases r with
  | dd _ _ _ _ => exact absurd rfl (nd [])
  | ll e1 e2 e3 q =>
    rename_i o vs n xs
    have ln2 : (listText (PyData.shownAll xs)).length ≤ sizeLine := by simpa only [PyData.shown] using ln
    obtain ⟨l, lb, lk⟩ := q.rk (P := P) (w := w) (by simpa [PyData.showable] using sh) fun t m => Nat.le_trans (listText_mem_le m) ln2
    obtain ⟨as0, r0⟩ := q.rd
    have me : Reads s.heap (.ref a) (.list xs) _ := .list e1 e2 e3 r0
    have off : a ∉ l := not_mem_of_deeper me (by simp only [PyData.depth]; omega) lb
    simp only [PyData.depth] at hu
    simp only [PyData.shown] at k
    refine call_repr_slot (by omega) ⟨o, e1, e2⟩ F.slot_list_repr.toG ?_
    obtain ⟨vl⟩ := vs
    cases vl with
    | nil =>
      have q' : Rxs s.heap [] xs := q
      cases q'
      simp only [PyData.shownAll, listText_nil] at k
      exact call_list_repr_empty ⟨o, e1, e2⟩ e1 e3 ⟨_, _, rfl, k s.heap _ _ fun _ _ e => e⟩
    | cons y ys =>
      exact call_list_reprK (A := A.in1) e1 e2 e3 off (by simpa using lk.length_eq) (fun i z e => lk.item i z (by simpa using e)) hg (fun b _ => Clear.nil b) (by show A.units + 1 + _ < cLine; omega) (fun _ _ e => e) (fun h' u tk q => ⟨_, _, rfl, k h' u tk q⟩) ln2
  | tt e1 e2 e3 q =>
    rename_i o vs n xs
    have ln2 : (tupleText (PyData.shownAll xs)).length ≤ sizeLine := by simpa only [PyData.shown] using ln
    obtain ⟨l, lb, lk⟩ := q.rk (P := P) (w := w) (by simpa [PyData.showable] using sh) fun t m => Nat.le_trans (tupleText_mem_le m) ln2
    obtain ⟨as0, r0⟩ := q.rd
    have me : Reads s.heap (.ref a) (.tuple xs) _ := .tuple e1 e2 e3 r0
    have off : a ∉ l := not_mem_of_deeper me (by simp only [PyData.depth]; omega) lb
    simp only [PyData.depth] at hu
    simp only [PyData.shown] at k
    exact call_repr_slot (by omega) ⟨o, e1, e2⟩ F.slot_tuple_repr (call_tuple_reprK (A := A.in1) e1 e2 e3 off lk hg (fun b _ => Clear.nil b) (by show A.units + 1 + _ < cLine; omega) (fun _ _ e => e) (fun h' u tk q => ⟨_, _, rfl, k h' u tk q⟩) ln2)
end
/-! such a datum at a value -/
mutual
inductive Dq (K : PySem.W.Frag) (H : Hp) : V → PyData → Prop
  | non : Dq K H .non .none
  | bl (b : Bool) : Dq K H (.bl b) (.bool b)
  | int (i : Int) : Dq K H (.int i) (.int i)
  | str (x : Str) : Dq K H (.str x) (.str x)
  | lst {a : Addr} {xs : List V} {ds : List PyData} (h : SqL K H a xs) (q : Dqs K H xs ds) : Dq K H (.ref a) (.list ds)
  | tup {a : Addr} {xs : List V} {ds : List PyData} (h : SqT K H a xs) (q : Dqs K H xs ds) : Dq K H (.ref a) (.tuple ds)
  | dic {a : Addr} {o : Obj} (h : H a = some (.frz o (.dK []))) : Dq K H (.ref a) (.dict [])
inductive Dqs (K : PySem.W.Frag) (H : Hp) : List V → List PyData → Prop
  | nil : Dqs K H [] []
  | cons {v : V} {vs : List V} {d : PyData} {ds : List PyData} (h : Dq K H v d) (q : Dqs K H vs ds) : Dqs K H (v :: vs) (d :: ds)
end
section
variable {X : Cx} {pins : List (Addr × Obj)} {σ : L2.St} {H : Hp} {s : Shared}
mutual
theorem Dq.rx (I : L2.Inv X pins σ H s) : ∀ {d : PyData} {v : V} {u : Value}, Dq X.K H v d → RelV v u → Rx s.heap u d
  | _, _, _, .non, r => by cases r; exact .nn
  | _, _, _, .bl b, r => by cases r; exact .bb b
  | _, _, _, .int i, r => by obtain ⟨t, rfl⟩ := r; exact .ii i t
  | _, _, _, .str x, r => by obtain ⟨t, rfl⟩ := r; exact .ss x t
  | _, _, _, .lst h q, r => by
    cases r
    obtain ⟨its, rv, ⟨o, n, ho, hc, _, hd⟩, _⟩ := I.list h
    exact .ll ho hc hd (q.rx I rv)
  | _, _, _, .tup h q, r => by
    cases r
    obtain ⟨its, rv, ⟨o, ho, hc, n, hd⟩, _⟩ := I.tuple h
    exact .tt ho hc hd (q.rx I rv)
  | _, _, _, .dic h, r => by
    cases r
    obtain ⟨ns, ho, hx, es, ep, vs, hd, hz, _⟩ := I.frzK h
    have : es = #[] := Array.eq_empty_of_size_eq_zero hz
    subst this
    exact .dd ho hx.1 hd ns
theorem Dqs.rx (I : L2.Inv X pins σ H s) : ∀ {ds : List PyData} {vs : List V} {us : List Value}, Dqs X.K H vs ds → Vals vs us → Rxs s.heap us ds
  | _, _, _, .nil, r => by cases r; exact .nil
  | _, _, _, .cons h q, r => by
    cases r with
    | cons r1 r2 => exact .cons (h.rx I r1) (q.rx I r2)
end
end
/-! where no dict but the empty one stands in it -/
mutual
def nodE : PyData → Bool
  | .list l => nodEs l
  | .tuple l => nodEs l
  | .dict [] => true
  | .dict (_ :: _) => false
  | _ => true
def nodEs : List PyData → Bool
  | [] => true
  | d :: l => nodE d && nodEs l
end
section
variable [Wd]
mutual
theorem R.dq {K : PySem.W.Frag} {H : Hp} : ∀ {d : PyData} {v : V}, nodE d = true → R K H d v → Dq K H v d
  | .none, v, _, h => by unfold R at h; subst h; exact .non
  | .bool _, v, _, h => by unfold R at h; subst h; exact .bl _
  | .int _, v, _, h => by unfold R at h; subst h; exact .int _
  | .str _, v, _, h => by unfold R at h; subst h; exact .str _
  | .list ds, v, n, h => by
    obtain ⟨a, vs, e, h1, h2⟩ := R.list_iff.mp h
    subst e
    exact .lst (SqL.of h1) (Rs.dq (by simpa [nodE] using n) h2)
  | .tuple ds, v, n, h => by
    obtain ⟨a, vs, e, h1, h2⟩ := R.tuple_iff.mp h
    subst e
    exact .tup h1 (Rs.dq (by simpa [nodE] using n) h2)
  | .dict [], v, _, h => by
    obtain ⟨a, o, vs, e, h1, h2⟩ := (R.dict_iff rfl).mp h
    have : vs = [] := by unfold Rk at h2; exact h2
    subst this
    subst e
    exact .dic h1
  | .dict (_ :: _), v, n, h => by simp [nodE] at n
theorem Rs.dq {K : PySem.W.Frag} {H : Hp} : ∀ {ds : List PyData} {vs : List V}, nodEs ds = true → Rs K H ds vs → Dqs K H vs ds
  | [], vs, _, h => by rw [h.nil_inv]; exact .nil
  | d :: ds, vs, n, h => by
    obtain ⟨v, r, e, h1, h2⟩ := h.cons_inv
    subst e
    have n2 : (nodE d && nodEs ds) = true := by simpa [nodEs] using n
    rw [Bool.and_eq_true] at n2
    exact .cons (R.dq n2.1 h1) (Rs.dq n2.2 h2)
end
/-- a list or a tuple -/
theorem RB.seq {K : PySem.W.Frag} {A : Ow} {H : Hp} {d : PyData} {v : V} (r : RB K A H d v) (n : ∀ l, d ≠ .dict l) : R K H d v := by
  rcases r with h | ⟨l, a, vs, rfl, rfl, _, e, r⟩ | ⟨l, a, vs, rfl, _⟩
  · exact h.mono hid_le
  · exact R.list_iff.mpr ⟨a, vs, rfl, e, r.mono hid_le⟩
  · exact absurd rfl (n l)
end
end Ev

namespace Ev
variable [Wd]
open PySem PySem.Spec PyProof.Rows L2
open PySem.W.Z (ltB leB eqB ltB_iff leB_iff eqB_iff)

/-! how long a text of a datum can be -/
def natsOk : List Nat → Bool
  | [] => true
  | c :: l => Nat.blt c 1114112 && natsOk l
theorem natsOk_mem : ∀ {l : List Nat}, natsOk l = true → ∀ c ∈ l, c < 1114112
  | [], _, c, h => by cases h
  | x :: l, h, c, hc => by
    simp only [natsOk, Bool.and_eq_true] at h
    rcases List.mem_cons.mp hc with rfl | hc
    · exact Nat.le_of_ble_eq_true h.1
    · exact natsOk_mem h.2 c hc
mutual
def shw : PyData → Bool
  | .none => true
  | .bool _ => true
  | .int i => small i
  | .str s => natsOk s.cps.toList
  | .list l => shws l
  | .tuple l => shws l
  | .dict [] => true
  | .dict (_ :: _) => false
def shws : List PyData → Bool
  | [] => true
  | x :: l => shw x && shws l
end
mutual
def wt : PyData → Nat
  | .none => 4
  | .bool _ => 5
  | .int _ => 1921
  | .str s => 10 * s.cps.toList.length + 2
  | .list l => wts l + 2
  | .tuple l => wts l + 4
  | .dict _ => 2
def wts : List PyData → Nat
  | [] => 0
  | x :: l => wt x + 2 + wts l
end
theorem small_log {i : Int} (h : small i = true) : i.natAbs.log2 < 1920 := by
  have := small_iff h
  have h2 : i.natAbs < 2 ^ 64 := by omega
  have h3 : i.natAbs.log2 < 64 := by
    by_cases z : i.natAbs = 0
    · rw [z]; decide
    · exact (Nat.log2_lt z).mpr h2
  omega
theorem listText_le : ∀ ts : List Str, (listText ts).length ≤ piled ts + 2
  | [] => by show (2 : Nat) ≤ _; simp [piled]
  | t :: r => by
    have h := textFrom_length_pos r 1 (("[" : Str) ++ (if (0 : Nat) > 0 then ", " else "" : String) ++ t) (Nat.succ_pos 0)
    have e : ((("[" : Str) ++ (if (0 : Nat) > 0 then ", " else "" : String) ++ t)).length = 1 + t.length := by
      rw [strLen_append, strLen_append]; rfl
    have h1 : (listText (t :: r)).length = (textFrom 1 (("[" : Str) ++ (if (0 : Nat) > 0 then ", " else "" : String) ++ t) r).length + 1 := by
      show (textFrom 0 "[" (t :: r) ++ "]").length = _
      rw [strLen_append]; rfl
    rw [h1, h, e, piled_cons]; omega
theorem tupleText_le (ts : List Str) : (tupleText ts).length ≤ piled ts + 4 := by
  unfold tupleText
  rw [strLen_append, strLen_append]
  have e1 : ((("(" : String) : Str)).length = 1 := rfl
  have e3 : (((if ts.length == 1 then ",)" else ")" : String) : Str)).length ≤ 2 := by split <;> decide
  rw [e1]
  by_cases h : ts = []
  · subst h
    have : (Str.join ", " ([] : List Str)).length = 0 := rfl
    omega
  · have := join_length_add ts h
    omega
mutual
theorem shw_ok : ∀ (d : PyData), shw d = true → d.showable = true ∧ d.shown.length ≤ wt d ∧ nodE d = true
  | .none, _ => ⟨rfl, by show (4 : Nat) ≤ 4; omega, rfl⟩
  | .bool b, _ => ⟨rfl, by cases b <;> (show _ ≤ (5 : Nat); decide), rfl⟩
  | .int i, h => ⟨decide_eq_true (small_log h), int_text_len_1921 (small_log h), rfl⟩
  | .str s, h => by
    refine ⟨rfl, ?_, rfl⟩
    have := StrLaws.reprText_len s (fun c hc => by have := natsOk_mem h c hc; omega)
    show (reprText s).length ≤ 10 * s.cps.toList.length + 2
    simpa [Str.length] using this
  | .list l, h => by
    have h' : shws l = true := by simpa [shw] using h
    have := shws_ok l h'
    refine ⟨?_, ?_, ?_⟩
    · simpa [PyData.showable] using this.1
    · have z := listText_le (PyData.shownAll l)
      show (listText (PyData.shownAll l)).length ≤ wts l + 2
      omega
    · simpa [nodE] using this.2.2
  | .tuple l, h => by
    have h' : shws l = true := by simpa [shw] using h
    have := shws_ok l h'
    refine ⟨?_, ?_, ?_⟩
    · simpa [PyData.showable] using this.1
    · have z := tupleText_le (PyData.shownAll l)
      show (tupleText (PyData.shownAll l)).length ≤ wts l + 4
      omega
    · simpa [nodE] using this.2.2
  | .dict [], h => ⟨rfl, by show (2 : Nat) ≤ 2; omega, rfl⟩
  | .dict (_ :: _), h => by simp [shw] at h
theorem shws_ok : ∀ (l : List PyData), shws l = true → PyData.showableAll l = true ∧ piled (PyData.shownAll l) ≤ wts l ∧ nodEs l = true
  | [], _ => ⟨rfl, by show piled [] ≤ 0; simp [piled], rfl⟩
  | x :: l, h => by
    simp only [shws, Bool.and_eq_true] at h
    have h1 := shw_ok x h.1
    have h2 := shws_ok l h.2
    refine ⟨?_, ?_, ?_⟩
    · simp [PyData.showableAll, h1.1, h2.1]
    · show piled (x.shown :: PyData.shownAll l) ≤ wt x + 2 + wts l
      rw [piled_cons]; omega
    · simp [nodEs, h1.2.2, h2.2.2]
end
mutual
def dpt : Nat → PyData → Bool
  | n, .list l => (match n with | 0 => false | n + 1 => dpts n l)
  | n, .tuple l => (match n with | 0 => false | n + 1 => dpts n l)
  | n, .dict [] => (match n with | 0 => false | _ + 1 => true)
  | _, .dict (_ :: _) => false
  | _, _ => true
def dpts : Nat → List PyData → Bool
  | _, [] => true
  | n, x :: l => dpt n x && dpts n l
end
mutual
theorem dpt_le : ∀ (n : Nat) (d : PyData), dpt n d = true → d.depth ≤ n
  | n, .none, _ => Nat.zero_le _
  | n, .bool _, _ => Nat.zero_le _
  | n, .int _, _ => Nat.zero_le _
  | n, .str _, _ => Nat.zero_le _
  | 0, .list l, h => by simp [dpt] at h
  | n + 1, .list l, h => by
    have := dpts_le n l (by simpa [dpt] using h)
    simp only [PyData.depth]; omega
  | 0, .tuple l, h => by simp [dpt] at h
  | n + 1, .tuple l, h => by
    have := dpts_le n l (by simpa [dpt] using h)
    simp only [PyData.depth]; omega
  | 0, .dict [], h => by simp [dpt] at h
  | n + 1, .dict [], h => by
    simp only [PyData.depth, PyData.depthKv]; omega
  | n, .dict (_ :: _), h => by simp [dpt] at h
theorem dpts_le : ∀ (n : Nat) (l : List PyData), dpts n l = true → PyData.depthAll l ≤ n
  | n, [], _ => Nat.zero_le _
  | n, x :: l, h => by
    simp only [dpts, Bool.and_eq_true] at h
    have h1 := dpt_le n x h.1
    have h2 := dpts_le n l h.2
    simp only [PyData.depthAll]
    omega
end
def okRep (d : PyData) : Bool := dpt 60 d && shw d && Nat.ble (wt d) 16000000
def repP : PyData → Option PyData
  | .list l => match okRep (.list l) with | true => some (.str (PyData.list l).shown) | false => none
  | .tuple l => match okRep (.tuple l) with | true => some (.str (PyData.tuple l).shown) | false => none
  | _ => none
def isSeq : PyData → Bool
  | .list _ => true
  | .tuple _ => true
  | _ => false
theorem repP_inv {d e : PyData} (h : repP d = some e) : isSeq d = true ∧ okRep d = true ∧ e = .str d.shown := by
  unfold repP at h
  split at h
  · split at h
    · rename_i q; cases h; exact ⟨rfl, q, rfl⟩
    · cases h
  · split at h
    · rename_i q; cases h; exact ⟨rfl, q, rfl⟩
    · cases h
  · cases h

section
variable {X : Cx} {C : CT} {W : WX} {e a b c : Expr} {es rest : List Expr} {m ma mb mc : SG → Res PyData} {ta tb tc : SG → Res Bool} {pos p : Pos}
/-! calls of built-ins with one argument -/
def CallF (K : PySem.W.Frag) (r : List V → Hp → VK → Prop) (f : PyData → Option PyData) : Prop :=
  ∀ (TT : List (Addr × Str)) (A : Ow) (H : Hp) (dx d : PyData) (x : V) (Q : VK), f dx = some d → Trk A H → RB K A H dx x → (∀ v H', Sm TT H H' → R K (hid A H') d v → Q v H') → r [x] H Q
def m1 (f : PyData → Option PyData) (ma : SG → Res PyData) (sg : SG) : Res PyData := (ma sg).bind fun x => Res.of (f x)
theorem one_ok {r : List V → Hp → VK → Prop} {f : PyData → Option PyData} (hf : CallF X.K r f) {σ : L2.St} {H : Hp} {Q : VK} (h : T X.K C W (m1 f ma) σ H Q) : tCB r (tCons (TB X.K C W ma) tNil) σ H Q := by
  obtain ⟨sg, A, rl, o⟩ := h
  refine ⟨sg, A, rl, o.bind.mono fun dx H1 s1 o1 x rx => ?_⟩
  obtain ⟨d, e, k⟩ := o1.of
  exact hf C.tabs A H1 dx d x Q e (rl.mono s1).trk rx fun v H' s' q => k H' s' v q
theorem e_blt {id : String} {x : Str} {r : List V → Hp → VK → Prop} {f : PyData → Option PyData} (hc : CallR X (.builtin id) r) (hf : CallF X.K r f) (hg : Gl X x) (hm : X.mg x = none) (hv : bootBuiltins x = some (.builtin id)) (hn : x ≠ "__name__") (hdb : (x == ("__debug__" : Str)) = false)
    (ha : PE X a (TB X.K C W ma)) (hs : starEach [a] X.env = (false, eval a X.env) :: starEach [] X.env) : PE X (.Call (.Name x p) [a] [] pos) (T X.K C W (m1 f ma)) :=
  pe_imp (pe_callB hc hg hm hv (pa_cons ha pa_nil hs) hn hdb hs rfl) fun σ H Q h => one_ok hf h
theorem e_bty {id : String} {x : Str} {r : List V → Hp → VK → Prop} {f : PyData → Option PyData} (hc : CallR X (.type id) r) (hf : CallF X.K r f) (hg : Gl X x) (hm : X.mg x = none) (hv : bootBuiltins x = some (.type id)) (hn : x ≠ "__name__") (hdb : (x == ("__debug__" : Str)) = false)
    (ha : PE X a (TB X.K C W ma)) (hs : starEach [a] X.env = (false, eval a X.env) :: starEach [] X.env) : PE X (.Call (.Name x p) [a] [] pos) (T X.K C W (m1 f ma)) :=
  pe_imp (pe_callTy hc hg hm hv (pa_cons ha pa_nil hs) hn hdb hs rfl) fun σ H Q h => one_ok hf h
/-- repr -/
def rRepr (K : PySem.W.Frag) : List V → Hp → VK → Prop := fun xs H Q => ∃ x d, xs = [x] ∧ Dq K H x d ∧ isSeq d = true ∧ okRep d = true ∧ Q (.str d.shown) H
theorem call_repr (hg : X.A.guards = some []) (hu : X.A.units + 65 < cLine) : CallR X (.builtin "repr") (rRepr X.K) := by
  intro pins s σ H xs us Q I r h
  obtain ⟨x, d, rfl, hd, hq, ho, q⟩ := h
  obtain ⟨u, rfl, ru⟩ := vals1 r
  have rd := hd.rx I ru
  simp only [okRep, Bool.and_eq_true] at ho
  have h1 := dpt_le 60 d ho.1.1
  have h2 := shw_ok d ho.1.2
  have h3 := Nat.le_of_ble_eq_true ho.2
  have hx : ∃ n, u = .ref n := by
    cases hd with
    | lst _ _ => exact ⟨_, ru⟩
    | tup _ _ => exact ⟨_, ru⟩
    | _ => cases hq
  obtain ⟨n, rfl⟩ := hx
  exact repr_rx rd (fun l z => by subst z; cases hq) h2.1 hg (by omega) (fun h' u tk hk => ⟨.str d.shown, H, I.kept hk, ⟨u, rfl⟩, q⟩) (by rw [sizeLine_eq]; omega)
theorem f_repr : CallF X.K (rRepr X.K) repP := by
  intro TT A H dx d x Q e t rx k
  obtain ⟨h1, h2, rfl⟩ := repP_inv e
  have hn : nodE dx = true := by
    unfold okRep at h2
    rw [Bool.and_eq_true, Bool.and_eq_true] at h2
    exact (shw_ok dx h2.1.2).2.2
  exact ⟨x, dx, rfl, R.dq hn (rx.seq fun l z => by subst z; cases h1), h1, h2, k _ H (Sm.refl H) R.str'⟩
/-- len -/
def lenP : PyData → Option PyData
  | .list l => some (.int (l.length : Nat))
  | .tuple l => some (.int (l.length : Nat))
  | _ => none
theorem f_len : CallF X.K (fun xs H Q => ∃ p ys, xs = [.ref p] ∧ (SqL X.K H p ys ∨ SqT X.K H p ys) ∧ Q (.int ys.length) H) lenP := by
  intro TT A H dx d x Q e t rx k
  unfold lenP at e
  split at e
  · cases e
    obtain ⟨a', vs, e1, h1, r1⟩ := rx.list
    exact ⟨a', vs, by rw [e1], .inl (SqL.of h1), by rw [r1.length]; exact k _ H (Sm.refl H) R.int'⟩
  · cases e
    obtain ⟨a', vs, e1, h1, r1⟩ := rx.tup
    exact ⟨a', vs, by rw [e1], .inr (sqT_mono hid_le h1), by rw [r1.length]; exact k _ H (Sm.refl H) R.int'⟩
  · cases e
/-- any, all -/
def bools : List PyData → Option (List Bool)
  | [] => some []
  | d :: l => match d with | .bool b => (bools l).map (b :: ·) | _ => none
theorem bools_vals {K : PySem.W.Frag} {H : Hp} : ∀ {l : List PyData} {bs : List Bool} {vs : List V}, bools l = some bs → Rs K H l vs → vs = bs.map V.bl
  | [], bs, vs, h, r => by
    have : bs = [] := by simpa [bools] using h.symm
    rw [r.nil_inv, this]; rfl
  | d :: l, bs, vs, h, r => by
    obtain ⟨v, r', e1, h1, h2⟩ := r.cons_inv
    unfold bools at h
    split at h
    · cases q : bools l with
      | none => rw [q] at h; cases h
      | some cs =>
        rw [q] at h
        cases h
        unfold R at h1
        rw [e1, h1, bools_vals q h2]; rfl
    · cases h
def anyP : PyData → Option PyData
  | .list l => (bools l).map fun bs => .bool (bs.any id)
  | _ => none
def allP : PyData → Option PyData
  | .list l => (bools l).map fun bs => .bool (bs.all id)
  | _ => none
theorem f_any : CallF X.K (rAny X.K) anyP := by
  intro TT A H dx d x Q e t rx k
  unfold anyP at e
  split at e
  · rename_i l
    cases q : bools l with
    | none => rw [q] at e; cases e
    | some bs =>
      rw [q] at e
      cases e
      obtain ⟨a', vs, e1, h1, r1⟩ := rx.list
      exact ⟨a', bs, by rw [e1], by rw [← bools_vals q r1]; exact SqL.of h1, k _ H (Sm.refl H) R.bool'⟩
  · cases e
theorem f_all : CallF X.K (rAll X.K) allP := by
  intro TT A H dx d x Q e t rx k
  unfold allP at e
  split at e
  · rename_i l
    cases q : bools l with
    | none => rw [q] at e; cases e
    | some bs =>
      rw [q] at e
      cases e
      obtain ⟨a', vs, e1, h1, r1⟩ := rx.list
      exact ⟨a', bs, by rw [e1], by rw [← bools_vals q r1]; exact SqL.of h1, k _ H (Sm.refl H) R.bool'⟩
  · cases e
/-- tuple(x), list(x) -/
def tupP : PyData → Option PyData
  | .list l => some (.tuple l)
  | .tuple l => some (.tuple l)
  | _ => none
theorem f_tuple : CallF X.K (fun xs H Q => ∃ p ys, xs = [.ref p] ∧ ((SqL X.K H p ys ∧ ∀ l, H l = none → Q (.ref l) (upd H l (.tup ys))) ∨ (SqT X.K H p ys ∧ Q (.ref p) H))) tupP := by
  intro TT A H dx d x Q e t rx k
  unfold tupP at e
  split at e
  · cases e
    obtain ⟨a', vs, e1, h1, r1⟩ := rx.list
    refine ⟨a', vs, by rw [e1], .inl ⟨SqL.of h1, fun l hl => ?_⟩⟩
    have z := new_tup t r1 hl
    exact k _ _ z.1 z.2
  · cases e
    obtain ⟨a', vs, e1, h1, r1⟩ := rx.tup
    exact ⟨a', vs, by rw [e1], .inr ⟨sqT_mono hid_le h1, k _ H (Sm.refl H) (R.tuple_iff.mpr ⟨a', vs, rfl, h1, r1⟩)⟩⟩
  · cases e
def lstP : PyData → Option PyData
  | .list l => some (.list l)
  | .tuple l => some (.list l)
  | _ => none
theorem f_list : CallF X.K (fun xs H Q => ∃ p ys, xs = [.ref p] ∧ (SqL X.K H p ys ∨ SqT X.K H p ys) ∧ ∀ l, H l = none → Q (.ref l) (upd H l (.lst ys))) lstP := by
  intro TT A H dx d x Q e t rx k
  unfold lstP at e
  split at e
  · cases e
    obtain ⟨a', vs, e1, h1, r1⟩ := rx.list
    refine ⟨a', vs, by rw [e1], .inl (SqL.of h1), fun l hl => ?_⟩
    have z := new_list t r1 hl
    exact k _ _ z.1 z.2
  · cases e
    obtain ⟨a', vs, e1, h1, r1⟩ := rx.tup
    refine ⟨a', vs, by rw [e1], .inr (sqT_mono hid_le h1), fun l hl => ?_⟩
    have z := new_list t r1 hl
    exact k _ _ z.1 z.2
  · cases e
/-! list(range(n)), list(range(a, b)) -/
def rgP (a n : Nat) : List PyData := match n with
  | 0 => []
  | n + 1 => .int (a : Nat) :: rgP (a + 1) n
theorem rgP_rs {K : PySem.W.Frag} {H : Hp} : ∀ (n a : Nat), Rs K H (rgP a n) ((List.range' a n).map fun (i : Nat) => V.int (i : Int))
  | 0, a => by exact Rs.nil
  | n + 1, a => by
    rw [List.range'_succ, List.map_cons]
    exact .cons R.int' (rgP_rs n (a + 1))
def rangeP : PyData → Option PyData
  | .int i => match leB 0 i && leB i 100000 with | true => some (.list (rgP 0 i.toNat)) | false => none
  | _ => none
theorem e_lrange {q : Pos} (hc : X.calm = true) (hg : Gl X "list") (hm : X.mg "list" = none) (hg2 : Gl X "range") (hm2 : X.mg "range" = none) (ha : PE X a (TB X.K C W ma)) (hs : starEach [a] X.env = (false, eval a X.env) :: starEach [] X.env) :
    PE X (.Call (.Name "list" p) [.Call (.Name "range" q) [a] [] pos] [] pos) (T X.K C W (m1 rangeP ma)) :=
  pe_imp (pe_listRg hc hg hm (prg_1 hg2 hm2 ha hs) rfl) fun σ H Q h => by
    obtain ⟨sg, A, rl, o⟩ := h
    refine ⟨sg, A, rl, o.bind.mono fun dx H1 s1 o1 x rx => ?_⟩
    obtain ⟨d, e, k⟩ := o1.of
    unfold rangeP at e
    split at e
    · rename_i i
      split at e
      · rename_i h
        cases e
        simp only [Bool.and_eq_true, leB_iff] at h
        refine ⟨i, rx.int, RgOk.of_le (by omega) (by omega) (by omega) (by omega), fun l hl => ?_⟩
        have e2 : rgV 0 i = (List.range' 0 i.toNat).map fun (i : Nat) => V.int (i : Int) := by
          unfold rgV
          rw [List.range_eq_range']
          simp
        rw [e2]
        have z := new_list (rl.mono s1).trk (rgP_rs (K := X.K) (H := hid A H1) i.toNat 0) hl
        exact k _ z.1 _ z.2
      · cases e
    · cases e
end
end Ev

namespace Ev
variable [Wd]
open PySem PySem.Spec PyProof.Rows L2
open PySem.W.Z (ltB leB eqB ltB_iff leB_iff eqB_iff)

/-! x in l -/
def anyEq (x : PyData) : List PyData → Bool
  | [] => false
  | y :: l => match deq y x with | true => true | false => anyEq x l
theorem anyEq_eq (x : PyData) : ∀ l : List PyData, anyEq x l = l.any fun z => PyData.eqv z x
  | [] => rfl
  | y :: l => by
    rw [List.any_cons, anyEq, ← anyEq_eq x l, ← deq_eq]
    cases deq y x <;> rfl
def flat : PyData → Bool
  | .none => true
  | .bool _ => true
  | .int _ => true
  | .str _ => true
  | _ => false
def flats : List PyData → Bool
  | [] => true
  | x :: l => flat x && flats l
theorem flat_nod {d : PyData} (h : flat d = true) : nod d = true := by
  cases d <;> first | (cases h; done) | simp [nod]
theorem flat_V {K : PySem.W.Frag} {H : Hp} {d : PyData} {v : V} (h : flat d = true) (r : R K H d v) : flatV v = true := by
  cases d with
  | none => unfold R at r; subst r; rfl
  | bool _ => unfold R at r; subst r; rfl
  | int _ => unfold R at r; subst r; rfl
  | str _ => unfold R at r; subst r; rfl
  | _ => cases h
theorem eqV_of {K : PySem.W.Frag} {H H' : Hp} {d e : PyData} {v u : V} (hd : flat d = true) (he : flat e = true) (r : R K H d v) (q : R K H' e u) : eqV v u = deq d e := by
  rw [deq_eq]
  cases d with
  | none => unfold R at r; subst r; cases e <;> first | (unfold R at q; subst q; rfl) | cases he
  | bool _ => unfold R at r; subst r; cases e <;> first | (unfold R at q; subst q; rfl) | cases he
  | int _ => unfold R at r; subst r; cases e <;> first | (unfold R at q; subst q; rfl) | cases he
  | str _ => unfold R at r; subst r; cases e <;> first | (unfold R at q; subst q; rfl) | cases he
  | _ => cases hd
theorem flats_V {K : PySem.W.Frag} {H : Hp} : ∀ {l : List PyData} {vs : List V}, flats l = true → Rs K H l vs → vs.all flatV = true
  | [], vs, _, r => by rw [r.nil_inv]; rfl
  | d :: l, vs, h, r => by
    obtain ⟨v, r', e1, h1, h2⟩ := r.cons_inv
    simp only [flats, Bool.and_eq_true] at h
    rw [e1, List.all_cons, flat_V h.1 h1, flats_V h.2 h2]; rfl
theorem inV_of {K : PySem.W.Frag} {H H' : Hp} {d : PyData} {v : V} (hd : flat d = true) (r : R K H d v) : ∀ {l : List PyData} {vs : List V}, flats l = true → Rs K H' l vs → inV v vs = anyEq d l
  | [], vs, _, q => by rw [q.nil_inv]; rfl
  | e :: l, vs, h, q => by
    obtain ⟨u, r', e1, h1, h2⟩ := q.cons_inv
    simp only [flats, Bool.and_eq_true] at h
    have ih := inV_of hd r h.2 h2
    unfold inV at ih ⊢
    rw [e1, List.any_cons, eqV_of h.1 hd h1 r, ih, anyEq]
    cases deq e d <;> rfl
def inB : PyData → PyData → Option Bool
  | x, .list l => match shp 60 x && shp 60 (.list l) with | true => some (anyEq x l) | false => none
  | x, .tuple l => match flat x && flats l with
    | true => some (anyEq x l)
    | false => match shp 60 x && shp 60 (.tuple l) with | true => some (anyEq x l) | false => none
  | _, _ => none
def inP (x l : PyData) : Option PyData := (inB x l).map .bool
def notInP (x l : PyData) : Option PyData := (inB x l).map fun b => .bool (!b)
section
variable {X : Cx} {C : CT} {W : WX} {e a b c : Expr} {es rest : List Expr} {m ma mb mc : SG → Res PyData} {ta tb tc : SG → Res Bool} {pos p : Pos}
def rInTD (K : PySem.W.Frag) (n : Bool) : R2 := fun x y H Q => ∃ d ds, Dp K H x d ∧ Dp K H y (.tuple ds) ∧ SeqAt.shaped d = true ∧ SeqAt.shaped (.tuple ds) = true ∧ Q (.bl (match n with | true => !ds.any fun z => PyData.eqv z d | false => ds.any fun z => PyData.eqv z d)) H
theorem op_inTD (hu : X.A.units + 65 < cLine) : OpR X (compareOp .In) (rInTD X.K false) := by
  intro pins s σ H x y v u Q I rx ry h
  obtain ⟨d, ds, hd, he, sd, se, q⟩ := h
  obtain ⟨as, r1⟩ := Dp.reads I d x v hd rx
  obtain ⟨bs, r2⟩ := Dp.reads I (.tuple ds) y u he ry
  exact SeqAt.in_tuple_reads r2 r1 (SeqAt.canLay_of_shaped se) (SeqAt.canLay_of_shaped sd) (room_in_shaped sd hu) ⟨.bl _, H, I, rfl, q⟩
theorem op_notInTD (hu : X.A.units + 65 < cLine) : OpR X (compareOp .NotIn) (rInTD X.K true) := by
  intro pins s σ H x y v u Q I rx ry h
  obtain ⟨d, ds, hd, he, sd, se, q⟩ := h
  obtain ⟨as, r1⟩ := Dp.reads I d x v hd rx
  obtain ⟨bs, r2⟩ := Dp.reads I (.tuple ds) y u he ry
  exact SeqAt.notIn_tuple_reads r2 r1 (SeqAt.canLay_of_shaped se) (SeqAt.canLay_of_shaped sd) (room_in_shaped sd hu) ⟨.bl _, H, I, rfl, q⟩
def rIn2 (K : PySem.W.Frag) : R2 := fun x y H Q => rInD K x y H Q ∨ rIn K false x y H Q ∨ rInTD K false x y H Q
def rNotIn2 (K : PySem.W.Frag) : R2 := fun x y H Q => rNotInD K x y H Q ∨ rIn K true x y H Q ∨ rInTD K true x y H Q
theorem op_in2 (hu : X.A.units + 65 < cLine) : OpR X (compareOp .In) (rIn2 X.K) := (op_inD hu).or (op_in_seq.or (op_inTD hu))
theorem op_notIn2 (hu : X.A.units + 65 < cLine) : OpR X (compareOp .NotIn) (rNotIn2 X.K) := (op_notInD hu).or (op_notIn_seq.or (op_notInTD hu))
theorem inB_ok {A : Ow} {H : Hp} {dx dy : PyData} {x y : V} {b : Bool} (h : inB dx dy = some b) (rx : RB X.K A H dx x) (ry : RB X.K A H dy y) :
    (∃ ds, dy = .list ds ∧ Dp X.K H x dx ∧ Dp X.K H y (.list ds) ∧ SeqAt.shaped dx = true ∧ SeqAt.shaped (.list ds) = true ∧ b = ds.any fun z => PyData.eqv z dx) ∨
    (∃ p xs, y = .ref p ∧ SqT X.K H p xs ∧ flatV x = true ∧ xs.all flatV = true ∧ b = inV x xs) ∨
    (∃ ds, dy = .tuple ds ∧ Dp X.K H x dx ∧ Dp X.K H y (.tuple ds) ∧ SeqAt.shaped dx = true ∧ SeqAt.shaped (.tuple ds) = true ∧ b = ds.any fun z => PyData.eqv z dx) := by
  unfold inB at h
  split at h
  · split at h
    · rename_i l _ q
      cases h
      rw [Bool.and_eq_true] at q
      exact .inl ⟨l, rfl, R.dp (shp_nod q.1) (rx.full (shp_nod q.1)), R.dp (shp_nod q.2) (ry.full (shp_nod q.2)), shaped_of q.1, shaped_of q.2, anyEq_eq dx l⟩
    · cases h
  · split at h
    · rename_i l _ q
      cases h
      rw [Bool.and_eq_true] at q
      obtain ⟨a', vs, e1, h1, r1⟩ := ry.tup
      exact .inr (.inl ⟨a', vs, e1, sqT_mono hid_le h1, flat_V q.1 (rx.full (flat_nod q.1)), flats_V q.2 r1, (inV_of q.1 (rx.full (flat_nod q.1)) q.2 r1).symm⟩)
    · split at h
      · rename_i l _ _ _ q
        cases h
        rw [Bool.and_eq_true] at q
        exact .inr (.inr ⟨l, rfl, R.dp (shp_nod q.1) (rx.full (shp_nod q.1)), R.dp (shp_nod q.2) (ry.full (shp_nod q.2)), shaped_of q.1, shaped_of q.2, anyEq_eq dx l⟩)
      · cases h
  · cases h
theorem f_in : OpF X.K (rIn2 X.K) inP := by
  intro TT A H dx dy d x y Q e t rx ry k
  unfold inP at e
  cases h : inB dx dy with
  | none => rw [h] at e; cases e
  | some b =>
    rw [h] at e
    cases e
    have q := k _ H (Sm.refl H) R.bool'
    rcases inB_ok h rx ry with ⟨ds, rfl, h1, h2, h3, h4, rfl⟩ | ⟨p, xs, h1, h2, h3, h4, rfl⟩ | ⟨ds, rfl, h1, h2, h3, h4, rfl⟩
    · exact .inl ⟨dx, ds, h1, h2, h3, h4, q⟩
    · exact .inr (.inl ⟨p, xs, h1, .inr h2, h3, h4, q⟩)
    · exact .inr (.inr ⟨dx, ds, h1, h2, h3, h4, q⟩)
theorem f_notIn : OpF X.K (rNotIn2 X.K) notInP := by
  intro TT A H dx dy d x y Q e t rx ry k
  unfold notInP at e
  cases h : inB dx dy with
  | none => rw [h] at e; cases e
  | some b =>
    rw [h] at e
    cases e
    have q := k _ H (Sm.refl H) R.bool'
    rcases inB_ok h rx ry with ⟨ds, rfl, h1, h2, h3, h4, rfl⟩ | ⟨p, xs, h1, h2, h3, h4, rfl⟩ | ⟨ds, rfl, h1, h2, h3, h4, rfl⟩
    · exact .inl ⟨dx, ds, h1, h2, h3, h4, q⟩
    · exact .inr (.inl ⟨p, xs, h1, .inr h2, h3, h4, q⟩)
    · exact .inr (.inr ⟨dx, ds, h1, h2, h3, h4, q⟩)
end

/-! isinstance of built-in types -/
inductive Ty where
  | int | bool | tuple | str | list
def Ty.nm : Ty → String
  | .int => "int"
  | .bool => "bool"
  | .tuple => "tuple"
  | .str => "str"
  | .list => "list"
def tagN : PyData → String
  | .none => "NoneType"
  | .bool _ => "bool"
  | .int _ => "int"
  | .str _ => "str"
  | .list _ => "list"
  | .tuple _ => "tuple"
  | .dict _ => "dict"
def isiP (t : Ty) : PyData → Option PyData
  | .none => some (.bool false)
  | .bool _ => some (.bool (match t with | .int => true | .bool => true | _ => false))
  | .int _ => some (.bool (match t with | .int => true | _ => false))
  | .str _ => some (.bool (match t with | .str => true | _ => false))
  | .list _ => some (.bool (match t with | .list => true | _ => false))
  | .tuple _ => some (.bool (match t with | .tuple => true | _ => false))
  | .dict l => match isTok l with | true => none | false => some (.bool false)
theorem kit_all : (["NoneType", "bool", "int", "str", "list", "tuple", "dict"].flatMap fun a => ["int", "bool", "tuple", "str", "list"].map fun b => kitB a b) =
    [some false, some false, some false, some false, some false, some true, some true, some false, some false, some false, some true, some false, some false, some false, some false,
     some false, some false, some false, some true, some false, some false, some false, some false, some false, some true, some false, some false, some true, some false, some false, some false, some false, some false, some false, some false] := by decide +kernel
theorem isi_kit {t : Ty} {d : PyData} {b : PyData} (h : isiP t d = some b) : ∃ k, b = .bool k ∧ kitB (tagN d) t.nm = some k := by
  have z := kit_all
  simp only [List.flatMap_cons, List.flatMap_nil, List.map_cons, List.map_nil, List.cons_append, List.nil_append, List.cons.injEq, List.append_nil, and_true] at z
  obtain ⟨z0, z1, z2, z3, z4, z5, z6, z7, z8, z9, z10, z11, z12, z13, z14, z15, z16, z17, z18, z19, z20, z21, z22, z23, z24, z25, z26, z27, z28, z29, z30, z31, z32, z33, z34⟩ := z
  cases d with
  | dict l =>
    have h' : (match isTok l with | true => none | false => some (PyData.bool false)) = some b := h
    cases e : isTok l with
    | true => rw [e] at h'; cases h'
    | false =>
      rw [e] at h'
      cases h'
      cases t <;> exact ⟨_, rfl, by assumption⟩
  | _ => cases t <;> first | (cases h; done) | (cases h; exact ⟨_, rfl, by assumption⟩)
theorem isi_nt {t : Ty} {d b : PyData} (h : isiP t d = some b) : ∀ l, d = .dict l → isTok l = false := fun l e => by
  subst e
  have h' : (match isTok l with | true => none | false => some (PyData.bool false)) = some b := h
  cases e : isTok l with
  | true => rw [e] at h'; cases h'
  | false => rfl
theorem tyx_of {K : PySem.W.Frag} {A : Ow} {H : Hp} {d : PyData} {v : V} (nt : ∀ l, d = .dict l → isTok l = false) (r : RB K A H d v) : TyX K H v (.type (tagN d)) := by
  cases d with
  | none => rw [r.none]; exact .base .non
  | bool _ => rw [r.bool]; exact .base (.bl _)
  | int _ => rw [r.int]; exact .base (.int _)
  | str _ => rw [r.str]; exact .base (.str _)
  | list _ =>
    obtain ⟨a', vs, e1, h1, r1⟩ := r.list
    rw [e1]; exact .base (.lst h1)
  | tuple _ =>
    obtain ⟨a', vs, e1, h1, r1⟩ := r.tup
    rw [e1]
    rcases sqT_mono hid_le h1 with (h1 | ⟨o, h1⟩) | ⟨o, its, n, h1, h2, _⟩
    · exact .base (.tup h1)
    · exact .fTuple h1
    · exact .kTuple h1 h2
  | dict l =>
    obtain ⟨a, kws, rfl, e, _⟩ := r.dict (nt l rfl)
    rcases e with e | ⟨o, e⟩
    · exact .base (.dK e)
    · exact .fDict e
section
variable {X : Cx} {C : CT} {W : WX} {e a b c : Expr} {es rest : List Expr} {m ma mb mc : SG → Res PyData} {ta tb tc : SG → Res Bool} {pos p q : Pos}
theorem e_isi {t : Ty} {y : Str} (hg : Gl X "isinstance") (hm : X.mg "isinstance" = none) (hb : PE X (.Name y q) (tC (.ty t.nm))) (ha : PE X a (TB X.K C W ma)) (hs : starEach [a, .Name y q] X.env = (false, eval a X.env) :: starEach [.Name y q] X.env) :
    PE X (.Call (.Name "isinstance" p) [a, .Name y q] [] pos) (T X.K C W (m1 (isiP t) ma)) :=
  pe_imp (pe_callB call_isi hg hm boot_isinstance (pa_cons ha (pa_cons hb pa_nil rfl) hs) (by decide) (by decide) hs rfl) fun σ H Q ⟨sg, A, rl, o⟩ => by
    refine ⟨sg, A, rl, o.bind.mono fun dx H1 s1 o1 x rx => ?_⟩
    obtain ⟨d, e, k⟩ := o1.of
    obtain ⟨kb, rfl, hk⟩ := isi_kit e
    refine ⟨x, .ty t.nm, .type (tagN dx), .type t.nm, kb, rfl, .ty _, tyx_of (isi_nt e) rx, kit_ty hk, k H1 (Sm.refl H1) _ R.bool'⟩

/-! dicts of the module with text keys -/
def dlook : List (Str × PyData) → Str → Option PyData
  | [], _ => none
  | q :: l, x => match strEq q.1 x with | true => some q.2 | false => dlook l x
structure GD (K : PySem.W.Frag) (d : Addr) (tab : List (Str × PyData)) : Prop where
  at_ : ∀ z, match dlook tab z with
    | some dd => ∃ u v, PySem.W.nsIn K d z = some (some u) ∧ RelV v u ∧ ∀ H, R K H dd v
    | none => PySem.W.nsIn K d z = some none
def dinP (tab : List (Str × PyData)) : PyData → Option PyData
  | .str z => some (.bool (dlook tab z).isSome)
  | _ => none
theorem gdin_imp {d : Addr} {tab : List (Str × PyData)} (g : GD X.K d tab) {σ : L2.St} {H : Hp} {Q : VK} (h : T X.K C W (m1 (dinP tab) ma) σ H Q) : tOp (fun x y H Q => ∃ (z : Str) (r : Option Value), x = .str z ∧ y = .ref d ∧ PySem.W.nsIn X.K d z = some r ∧ Q (.bl r.isSome) H) (TB X.K C W ma) (tC (.ref d)) σ H Q := by
  obtain ⟨sg, A, rl, o⟩ := h
  refine ⟨sg, A, rl, o.bind.mono fun dx H1 s1 o1 x rx => ?_⟩
  obtain ⟨d', e, k⟩ := o1.of
  cases dx with
  | str z =>
    cases e
    have h := g.at_ z
    have k' := k H1 (Sm.refl H1) _ R.bool'
    cases q : dlook tab z with
    | some dd =>
      rw [q] at h k'
      obtain ⟨u, v, h1, _⟩ := h
      exact ⟨z, some u, rx.str, rfl, h1, k'⟩
    | none =>
      rw [q] at h k'
      exact ⟨z, none, rx.str, rfl, h, k'⟩
  | _ => cases e
theorem e_gdin {d : Addr} {es : Array DictEntry} {n : Nat} {tab : List (Str × PyData)} (D : KDict X.K X.w d es n) (g : GD X.K d tab) (hb : PE X b (tC (.ref d))) (ha : PE X a (TB X.K C W ma)) (hm : behindInMarks .In b = false) : PE X (.Compare a [.In] [b] pos) (T X.K C W (m1 (dinP tab) ma)) :=
  pe_imp (pe_cmpR (op_in_kd D) ha hb hm) fun σ H Q h => gdin_imp g h
def dixP (tab : List (Str × PyData)) : PyData → Option PyData
  | .str z => dlook tab z
  | _ => none
theorem e_gdix {d : Addr} {es : Array DictEntry} {n : Nat} {tab : List (Str × PyData)} (D : KDict X.K X.w d es n) (g : GD X.K d tab) (hb : PE X b (tC (.ref d))) (ha : PE X a (TB X.K C W ma)) (hs : PlainIx a) : PE X (.Subscript b a pos) (T X.K C W (m1 (dixP tab) ma)) :=
  pe_imp (pe_ix ix_kdict hb ha hs) fun σ H Q ⟨sg, A, rl, o⟩ => by
    refine ⟨sg, A, rl, o.bind.mono fun dx H1 s1 o1 x rx => ?_⟩
    obtain ⟨d', e, k⟩ := o1.of
    cases dx with
    | str z =>
      have e' : dlook tab z = some d' := e
      have h := g.at_ z
      rw [e'] at h
      obtain ⟨u, v, h1, h2, h3⟩ := h
      exact ⟨d, z, v, rfl, rx.str, ⟨es, n, u, D.at_, D.lit, h1, h2⟩, k H1 (Sm.refl H1) _ (h3 _)⟩
    | _ => cases e
end
end Ev

/-! enumerate over a tuple -/
namespace PySem
open Sem (wp)
theorem enum1_meets {v : Value} {o : Obj} {G : Heap → Prop} (B : Begins v o G) : Meets (Builtin.«enumerate.__new__» ⟨[.type "enumerate", v], []⟩) (fun _ R s => G s.heap ∧
    R (.ok (.ret (.ref (s.heap.push o).objs.size))) { s with heap := (s.heap.push o).push { cls := .type "enumerate", data := .fields #[.none, .bool false, .ref s.heap.objs.size, rawInt 0, .none, .none] } }) := .of_wp fun prog w A R s ⟨g0, fin⟩ => by
  obtain ⟨hp, gn, dd, tk, oo⟩ := s
  have sub := sub_enumerate
  have q : ∀ {A' : Around} {E Q : Value → Shared → Prop}, Q (.ref hp.objs.size) ⟨hp.push o, gn, dd, tk, oo⟩ → wpAny (model prog w) A' (pyIter v) Q E ⟨hp, gn, dd, tk, oo⟩ := fun z => B.iter prog w _ _ ⟨hp, gn, dd, tk, oo⟩ _ g0 z
  wp_walk using q
  refine wpAny_stack_any fun _ => wpAny_pure ?_
  split
  · rename_i k _ _ _ _ _
    cases (k == Value.type "enumerate") <;> (wp_walk using q; exact ⟨_, rfl, fin⟩)
  · wp_walk using q; exact ⟨_, rfl, fin⟩
section
variable {prog : Program} {w : World} {A : Around} {E : Value → Shared → Prop} {s : Shared}
theorem enum1_call {v : Value} {o : Obj} {G : Heap → Prop} {Q : Value → Shared → Prop} (B : Begins v o G) (g0 : G s.heap) (fin : ∀ h', IsEnum h' (s.heap.objs.size + 1) s.heap.objs.size 0 .none → h'.get? s.heap.objs.size = some o → (∀ b u, s.heap.get? b = some u → h'.get? b = some u) →
    Q (.ref (s.heap.objs.size + 1)) { s with heap := h' }) : wpAny (model prog w) A (call (.type "enumerate") [v]) Q E s := by
  refine callType_new F.called_enumerate (by decide) (F.typeCall_enumerate_1 _) (F.newCall_enumerate_1 _) (fun ob => F.args_object_init_2 ob _) F.entry_enumerate_new (enum1_meets B) ⟨g0, ?_⟩
  have z : (s.heap.push o).objs.size = s.heap.objs.size + 1 := Heap.size_push ..
  show _ ∧ _; rw [z]
  have he := Heap.get?_push_size (s.heap.push o) (o := { cls := .type "enumerate", data := .fields #[.none, .bool false, .ref s.heap.objs.size, rawInt 0, .none, .none] }) rfl
  rw [z] at he
  exact ⟨⟨_, he, rfl⟩, fin _ he (Heap.get?_push_of_some _ (Heap.get?_push_size _ B.free)) fun b u x => Heap.get?_push_of_some _ (Heap.get?_push_of_some _ x)⟩
end
end PySem
namespace Ev
variable [Wd]
open PySem PySem.Spec PyProof.Rows L2
/-- the tuple at a, its items in new pairs -/
def IteT (K : PySem.W.Frag) (a : Addr) : It where
  go i H := ∃ (xs : List V) (x : V), SqT K H a xs ∧ xs[i]? = some x
  yld i H v H' := ∃ p x, v = .ref p ∧ H p = none ∧ H' = upd H p (.tup [.int (i : Nat), x]) ∧ ∀ xs, SqT K H a xs → xs[i]? = some x
  stop i H := ∃ xs : List V, SqT K H a xs ∧ xs.length = i
theorem turn_enumT {P : Program} {w : World} {K : PySem.W.Frag} {elts : List Expr} {kk : Nat} {tpos : Pos} (a e it : Addr) (ha : a ≠ it) (hea : e ≠ a) :
    Turn P w K (.Tuple elts kk tpos) (IteT K a) [e, it] e (fun i h => (∃ old, IsEnum h e it ((i : Nat) : Int) old) ∧ h.IsTupleIter it a i ∧ e ≠ it) where
  mem := by simp
  obj i h st b hb := by
    obtain ⟨⟨old, he⟩, ⟨o, ho, _, hd⟩, _⟩ := st
    rcases (by simpa using hb : b = e ∨ b = it) with rfl | rfl
    · exact ⟨_, he, fun _ z => by cases z⟩
    · exact ⟨o, ho, fun _ z => by rw [hd] at z; cases z⟩
  keep i h h' st k := by
    obtain ⟨⟨old, he⟩, hi, hne⟩ := st
    exact ⟨⟨old, k e (by simp) _ he⟩, hi.at fun o z => k it (by simp) o z, hne⟩
  item := by
    rintro X rfl rfl rfl hc i pins s σ H E I hf ⟨⟨old, he⟩, hit, hne⟩ ⟨xs, x, hq, hx⟩
    obtain ⟨its, rv, p, hz⟩ := I.tuple hq
    obtain ⟨u, hu, ru⟩ := rv.get hx
    have hel : e < s.heap.objs.size := Heap.lt_size he
    have hil : it < s.heap.objs.size := hit.elim fun _ z => Heap.lt_size z.1
    have hlt : i < its.length := (List.getElem?_eq_some_iff.mp hu).1
    have hh : X.A.in1.handled = none := I.ok.hd hc
    refine wpAny_pyNext_enum_itemC (Draws.tuple hh it a ha its.toArray) he ⟨hit, p⟩ (by simpa using hlt) hne (by simp [hne, hea]) fun u' h' tk hP ho st' hT hsz hk => ?_
    have eu : u' = u := by
      have z : its.toArray[i]? = some u' := hP
      have z' : its[i]? = some u' := by simpa using z
      rw [hu] at z'; cases z'; rfl
    subst eu
    refine ⟨_, rfl, wpAny_letOwnedTupleGo_enum (s := { s with heap := h', toks := tk + 1 }) ho fun h2 he' sb => ?_⟩
    have hT2 := (sb.2 _ (Nat.ne_of_gt hel)).trans hT
    have new : ObjOk X.prog X.w (upd H s.heap.objs.size (.tup [.int (i : Nat), x])) h2 s.heap.objs.size (.tup [.int (i : Nat), x]) := ⟨by show 2 ≤ sizeLine; decide, [.int i tk, u'], .cons ⟨_, rfl⟩ (.cons ru .nil), ⟨_, hT2, rfl, _, rfl⟩⟩
    have I1 : Inv X pins σ (upd H s.heap.objs.size (.tup [.int (i : Nat), x])) { s with heap := h2, toks := tk + 1 } :=
      I.turnedNew (ch := [e, it]) (fun b ob hb z => (sb.2 b fun y => hb (by simp [y])).trans (hk b ob (fun y => hb (by simp [y])) (fun y => hb (by simp [y])) z)) hf (Nat.le_refl _) new
    refine ⟨.ref s.heap.objs.size, _, I1, rfl, ⟨_, x, rfl, I.hok.fresh (Nat.le_refl _), rfl, fun ys hy => by rw [I.tuple_inj hy hq]; exact hx⟩, ⟨⟨u', ?_⟩, st'.1.at fun o z => (sb.2 it (Ne.symm hne)).trans z, hne⟩, fun b hb => ?_⟩
    · rw [show ((i + 1 : Nat) : Int) = (i : Int) + 1 by omega]; exact he'
    · have hb' : b < s.heap.objs.size := by rcases (by simpa using hb : b = e ∨ b = it) with rfl | rfl <;> assumption
      rw [upd_ne (Nat.ne_of_lt hb')]
      exact (hf b hb).1
  done := by
    rintro X rfl rfl rfl hc i pins s σ H E I hf ⟨⟨old, he⟩, hit, hne⟩ ⟨xs, hq, hx⟩
    obtain ⟨its, rv, p, hz⟩ := I.tuple hq
    obtain ⟨f0, f1, f2, f3, f4, f5⟩ := hf it (by simp)
    have hl := rv.length
    have hh : X.A.in1.handled = none := I.ok.hd hc
    have e1 : i = its.toArray.size := by simp; omega
    subst e1
    exact wpAny_pyNext_enum_endD (Draws.tuple hh it a ha its.toArray) he ⟨hit, p⟩ fun h' eb => ⟨rfl, I.turned (t' := s.toks) (fun b o hb z => eb b o hb z) f0 f1 f3 f4 f5⟩
  self A i s Q E st h := by
    obtain ⟨⟨_, he⟩, _⟩ := st
    exact wpAny_pyIter_enum he h
def iEnumT (K : PySem.W.Frag) (ta : TA) : TI := fun σ H R => ta σ H fun vs H1 => ∃ a xs, vs = [.ref a] ∧ SqT K H1 a xs ∧ R (IteT K a) H1
theorem pi_enumT {X : Cx} {e : Expr} {ta : TA} {p pos tpos : Pos} {elts : List Expr} {kk : Nat} (hg : Gl X "enumerate") (hm : X.mg "enumerate" = none) (ha : PA X [e] ta) (hs : starEach [e] X.env = [(false, eval e X.env)]) :
    PI X (.Tuple elts kk tpos) (.Call (.Name "enumerate" p) [e] [] pos) (iEnumT X.K ta) := by
  refine ⟨fun pins s σ H R I h => Call_ (ld_blt I hg hm boot_enumerate (PyProof.Rows.callWith_type1 (thn (ha.run pos pins s σ H _ I h) fun us s1 ⟨vs, H1, I1, r1, a, xs, ex, hq, q⟩ => ?_) hs rfl))⟩
  subst ex
  cases r1 with
  | cons r rr =>
    cases rr
    cases r
    obtain ⟨its, rv, p', hz⟩ := I1.tuple hq
    have hlt : a < s1.heap.objs.size := p'.elim fun _ z => Heap.lt_size z.1
    refine enum1_call (begins_tuple a its.toArray) p' fun h' he hit hk => wpAny_pyIter_enum he ?_
    refine ⟨s1.heap.objs.size + 1, [s1.heap.objs.size + 1, s1.heap.objs.size], _, _, H1, rfl, I1.kept (t' := s1.toks) hk, turn_enumT a (s1.heap.objs.size + 1) s1.heap.objs.size (Nat.ne_of_lt hlt) (Nat.ne_of_gt (Nat.lt_succ_of_lt hlt)), ⟨⟨.none, he⟩, ⟨_, hit, rfl, rfl⟩, Nat.succ_ne_self _⟩, fun b hb => ?_, q⟩
    have hle : s1.heap.objs.size ≤ b := by
      rcases (by simpa using hb : b = s1.heap.objs.size + 1 ∨ b = s1.heap.objs.size) with z | z <;> rw [z]
      · exact Nat.le_add_right _ _
      · exact Nat.le_refl _
    exact I1.fpOk hle (I1.hok.fresh hle)
end Ev

namespace Ev
variable [Wd]
open PySem PySem.Spec PyProof.Rows L2
open PySem.W.Z (ltB leB eqB ltB_iff leB_iff eqB_iff)

/-! what is walked -/
/-- from the heap Hf (of which Hs is shared) on J yields the items of l -/
structure ItOk (K : PySem.W.Frag) (Hf Hs : Hp) (J : It) (l : List PyData) : Prop where
  go : ∀ i H, Ex Hf H → i < l.length → J.go i H
  stop : ∀ H, Ex Hf H → J.stop l.length H
  yld : ∀ (A : Ow) i H x H' d, Ex Hf H → Ex Hs (hid A H) → Trk A H → l[i]? = some d → J.yld i H x H' → (∀ TT, Sm TT H H') ∧ R K (hid A H') d x
/-- full: all lists as they stand; else the shared ones alone -/
def TIt (K : PySem.W.Frag) (C : CT) (W : WX) (full : Bool) (m : SG → Res (List PyData)) : TI := fun σ H R => ∃ sg A, Rel K C A H sg σ ∧ Out K C A (fun cx dx H' => W cx dx σ H') H (m sg) fun l H' => ∀ J, ItOk K (if full then H' else hid A H') (hid A H') J l → R J H'
def seqP : PyData → Option (List PyData)
  | .list l => some l
  | .tuple l => some l
  | _ => none
def mSeq (m : SG → Res PyData) (sg : SG) : Res (List PyData) := (noA (m sg)).bind fun d => Res.of (seqP d)
section
variable {X : Cx} {C : CT} {W : WX} {e a b tg : Expr} {m ma mb : SG → Res PyData} {pos p : Pos} {full : Bool}
theorem pi_imp {wi wi' : TI} (h : PI X tg e wi) (i : ∀ σ H R, wi' σ H R → wi σ H R) : PI X tg e wi' := ⟨fun pins s σ H R I q => h.run pins s σ H R I (i σ H R q)⟩
theorem pi_or {w1 w2 : TI} (h1 : PI X tg e w1) (h2 : PI X tg e w2) : PI X tg e (fun σ H R => w1 σ H R ∨ w2 σ H R) := ⟨fun pins s σ H R I q => q.elim (h1.run pins s σ H R I) (h2.run pins s σ H R I)⟩

theorem rs_at {K : PySem.W.Frag} {Hs : Hp} {ds : List PyData} {vs : List V} (r : Rs K Hs ds vs) {A : Ow} {H : Hp} (s2 : Ex Hs (hid A H)) {i : Nat} {d : PyData} {x : V} (hd : ds[i]? = some d) (hx : vs[i]? = some x) : R K (hid A H) d x := by
  obtain ⟨v, e1, q⟩ := r.get hd
  rw [hx] at e1; cases e1
  exact q.mono s2
theorem itl_ok {K : PySem.W.Frag} {Hf Hs : Hp} {a : Addr} {vs : List V} {ds : List PyData} (h : Hf a = some (.lst vs)) (r : Rs K Hs ds vs) : ItOk K Hf Hs (Itl K a) ds where
  go i H s hi := by
    have hl : i < vs.length := by rw [r.length]; exact hi
    exact ⟨vs, vs[i], SqL.of (s.g _ _ h), by simp [hl]⟩
  stop H s := ⟨vs, SqL.of (s.g _ _ h), Nat.le_of_eq r.length⟩
  yld := by
    rintro A i H x H' d s s2 t hd ⟨rfl, hx⟩
    exact ⟨fun _ => Sm.refl _, rs_at r s2 hd (hx vs (SqL.of (s.g _ _ h)))⟩
theorem itt_ok {K : PySem.W.Frag} {Hf Hs : Hp} {a : Addr} {vs : List V} {ds : List PyData} (h : SqT K Hf a vs) (r : Rs K Hs ds vs) : ItOk K Hf Hs (Itt K a) ds where
  go i H s hi := by
    have hl : i < vs.length := by rw [r.length]; exact hi
    exact ⟨vs, vs[i], sqT_mono s h, by simp [hl]⟩
  stop H s := ⟨vs, sqT_mono s h, Nat.le_of_eq r.length⟩
  yld := by
    rintro A i H x H' d s s2 t hd ⟨rfl, hx⟩
    exact ⟨fun _ => Sm.refl _, rs_at r s2 hd (hx vs (sqT_mono s h))⟩
theorem itr_ok {K : PySem.W.Frag} {Hf Hs : Hp} (n : Nat) : ItOk K Hf Hs (Itr 0 n) (rgP 0 n) where
  go i H s hi := by
    have : (rgP 0 n).length = n := by
      have := (rgP_rs (K := K) (H := Hs) n 0).length
      simpa using this.symm
    rw [this] at hi; exact hi
  stop H s := by
    have : (rgP 0 n).length = n := by
      have := (rgP_rs (K := K) (H := Hs) n 0).length
      simpa using this.symm
    rw [this]; exact Nat.le_refl _
  yld := by
    rintro A i H x H' d s s2 t hd ⟨rfl, rfl⟩
    refine ⟨fun _ => Sm.refl _, ?_⟩
    obtain ⟨v, e1, q⟩ := (rgP_rs (K := K) (H := hid A H') n 0).get hd
    have : v = .int (0 + (i : Nat)) := by
      rw [List.getElem?_map] at e1
      cases h : (List.range' 0 n)[i]? with
      | none => rw [h] at e1; cases e1
      | some j =>
        rw [h] at e1
        obtain ⟨hj, hj'⟩ := List.getElem?_eq_some_iff.mp h
        simp at hj'
        cases e1
        subst hj'
        simp
    rw [← this]; exact q
/-- pairs -/
def zipP : List PyData → List PyData → List PyData
  | [], _ => []
  | x :: l, r => match r with | [] => [] | y :: r => .tuple [x, y] :: zipP l r
theorem zipP_at : ∀ {l r : List PyData} {i : Nat} {d : PyData}, (zipP l r)[i]? = some d → ∃ x y, d = .tuple [x, y] ∧ l[i]? = some x ∧ r[i]? = some y
  | [], r, i, d, h => by simp [zipP] at h
  | x :: l, [], i, d, h => by simp [zipP] at h
  | x :: l, y :: r, 0, d, h => by
    simp [zipP] at h
    exact ⟨x, y, h.symm, rfl, rfl⟩
  | x :: l, y :: r, i + 1, d, h => by
    simp only [zipP, List.getElem?_cons_succ] at h
    obtain ⟨u, v, e, h1, h2⟩ := zipP_at h
    exact ⟨u, v, e, h1, h2⟩
theorem zipP_len : ∀ (l r : List PyData), (zipP l r).length = min l.length r.length
  | [], r => by simp [zipP]
  | x :: l, [] => by simp [zipP]
  | x :: l, y :: r => by simp [zipP, zipP_len l r]
theorem pair_new {K : PySem.W.Frag} {A : Ow} {H : Hp} {p : Addr} {d e : PyData} {x y : V} (t : Trk A H) (rx : R K (hid A H) d x) (ry : R K (hid A H) e y) (hp : H p = none) :
    (∀ TT, Sm TT H (upd H p (.tup [x, y]))) ∧ R K (hid A (upd H p (.tup [x, y]))) (.tuple [d, e]) (.ref p) := ⟨fun _ => Sm.new hp, (new_tup t (.cons rx (.cons ry .nil)) hp).2⟩
theorem itz_ok {K : PySem.W.Frag} {Hf Hs : Hp} {a b : Addr} {vs us : List V} {ds es : List PyData} (h : Hf a = some (.lst vs)) (r : Rs K Hs ds vs) (h' : Hf b = some (.lst us)) (r' : Rs K Hs es us) : ItOk K Hf Hs (Itz K a b) (zipP ds es) where
  go i H s hi := by
    rw [zipP_len] at hi
    have hl : i < vs.length := by rw [r.length]; omega
    have hl' : i < us.length := by rw [r'.length]; omega
    exact ⟨vs, us, vs[i], us[i], SqL.of (s.g _ _ h), SqL.of (s.g _ _ h'), by simp [hl], by simp [hl']⟩
  stop H s := ⟨vs, us, SqL.of (s.g _ _ h), SqL.of (s.g _ _ h'), by rw [zipP_len, r.length, r'.length]; omega⟩
  yld := by
    rintro A i H x H' d s s2 t hd ⟨q, x, y, rfl, hq, rfl, hx, hy⟩
    obtain ⟨u, v, rfl, e1, e2⟩ := zipP_at hd
    exact pair_new t (rs_at r s2 e1 (hx vs (SqL.of (s.g _ _ h)))) (rs_at r' s2 e2 (hy us (SqL.of (s.g _ _ h')))) hq
theorem itzT_ok {K : PySem.W.Frag} {Hf Hs : Hp} {a b : Addr} {vs us : List V} {ds es : List PyData} (h : SqT K Hf a vs) (r : Rs K Hs ds vs) (h' : SqT K Hf b us) (r' : Rs K Hs es us) : ItOk K Hf Hs (RZ.ItzT K a b) (zipP ds es) where
  go i H s hi := by
    rw [zipP_len] at hi
    have hl : i < vs.length := by rw [r.length]; omega
    have hl' : i < us.length := by rw [r'.length]; omega
    exact ⟨vs, us, vs[i], us[i], sqT_mono s h, sqT_mono s h', by simp [hl], by simp [hl']⟩
  stop H s := ⟨vs, us, sqT_mono s h, sqT_mono s h', by rw [zipP_len, r.length, r'.length]; omega⟩
  yld := by
    rintro A i H x H' d s s2 t hd ⟨q, x, y, rfl, hq, rfl, hx, hy⟩
    obtain ⟨u, v, rfl, e1, e2⟩ := zipP_at hd
    exact pair_new t (rs_at r s2 e1 (hx vs (sqT_mono s h))) (rs_at r' s2 e2 (hy us (sqT_mono s h'))) hq
def enumP (i : Nat) : List PyData → List PyData
  | [] => []
  | x :: l => .tuple [.int (i : Nat), x] :: enumP (i + 1) l
theorem enumP_at : ∀ {l : List PyData} {k i : Nat} {d : PyData}, (enumP k l)[i]? = some d → ∃ x, d = .tuple [.int ((k + i : Nat) : Int), x] ∧ l[i]? = some x
  | [], k, i, d, h => by simp [enumP] at h
  | x :: l, k, 0, d, h => by
    simp [enumP] at h
    exact ⟨x, by simp [h], rfl⟩
  | x :: l, k, i + 1, d, h => by
    simp only [enumP, List.getElem?_cons_succ] at h
    obtain ⟨u, e, h1⟩ := enumP_at h
    exact ⟨u, by rw [e, show k + 1 + i = k + (i + 1) by omega], h1⟩
theorem enumP_len : ∀ (k : Nat) (l : List PyData), (enumP k l).length = l.length
  | _, [] => rfl
  | k, x :: l => by simp [enumP, enumP_len (k + 1) l]
theorem ite_ok {K : PySem.W.Frag} {Hf Hs : Hp} {a : Addr} {vs : List V} {ds : List PyData} (h : Hf a = some (.lst vs)) (r : Rs K Hs ds vs) : ItOk K Hf Hs (Ite K a) (enumP 0 ds) where
  go i H s hi := by
    rw [enumP_len] at hi
    have hl : i < vs.length := by rw [r.length]; exact hi
    exact ⟨vs, vs[i], SqL.of (s.g _ _ h), by simp [hl]⟩
  stop H s := ⟨vs, SqL.of (s.g _ _ h), by rw [enumP_len]; exact Nat.le_of_eq r.length⟩
  yld := by
    rintro A i H x H' d s s2 t hd ⟨q, x, rfl, hq, rfl, hx⟩
    obtain ⟨u, rfl, e1⟩ := enumP_at hd
    rw [Nat.zero_add]
    exact pair_new t R.int' (rs_at r s2 e1 (hx vs (SqL.of (s.g _ _ h)))) hq
theorem iteT_ok {K : PySem.W.Frag} {Hf Hs : Hp} {a : Addr} {vs : List V} {ds : List PyData} (h : SqT K Hf a vs) (r : Rs K Hs ds vs) : ItOk K Hf Hs (IteT K a) (enumP 0 ds) where
  go i H s hi := by
    rw [enumP_len] at hi
    have hl : i < vs.length := by rw [r.length]; exact hi
    exact ⟨vs, vs[i], sqT_mono s h, by simp [hl]⟩
  stop H s := ⟨vs, sqT_mono s h, by rw [enumP_len]; exact r.length⟩
  yld := by
    rintro A i H x H' d s s2 t hd ⟨q, x, rfl, hq, rfl, hx⟩
    obtain ⟨u, rfl, e1⟩ := enumP_at hd
    rw [Nat.zero_add]
    exact pair_new t R.int' (rs_at r s2 e1 (hx vs (sqT_mono s h))) hq

/-- a value with lists readable in the heap chosen -/
def TF (K : PySem.W.Frag) (C : CT) (W : WX) (full : Bool) (m : SG → Res PyData) : TE := match full with
  | true => TB K C W m
  | false => T K C W m
def RF (K : PySem.W.Frag) (full : Bool) (A : Ow) (H : Hp) (d : PyData) (v : V) : Prop := match full with
  | true => RB K A H d v
  | false => R K (hid A H) d v
theorem TF.def {K : PySem.W.Frag} {σ : L2.St} {H : Hp} {Q : VK} (h : ∃ sg A, Rel K C A H sg σ ∧ Out K C A (fun cx dx H' => W cx dx σ H') H (m sg) fun d H' => ∀ v, RF K full A H' d v → Q v H') : TF K C W full m σ H Q := by
  cases full <;> exact h
theorem RF.list {K : PySem.W.Frag} {A : Ow} {H : Hp} {l : List PyData} {v : V} (h : RF K full A H (.list l) v) : ∃ a vs, v = .ref a ∧ (if full then H else hid A H) a = some (.lst vs) ∧ Rs K (hid A H) l vs := by
  cases full with
  | true => exact RB.list h
  | false => exact R.list_iff.mp h
theorem RF.tup {K : PySem.W.Frag} {A : Ow} {H : Hp} {l : List PyData} {v : V} (h : RF K full A H (.tuple l) v) : ∃ a vs, v = .ref a ∧ SqT K (if full then H else hid A H) a vs ∧ Rs K (hid A H) l vs := by
  cases full with
  | true =>
    obtain ⟨a, vs, e, h1, h2⟩ := RB.tup h
    exact ⟨a, vs, e, sqT_mono hid_le h1, h2⟩
  | false => exact R.tuple_iff.mp h
theorem RF.rb {K : PySem.W.Frag} {A : Ow} {H : Hp} {d : PyData} {v : V} (h : RF K full A H d v) : RB K A H d v := by
  cases full with
  | true => exact h
  | false => exact .inl h
theorem RF.mono {K : PySem.W.Frag} {A : Ow} {H H' : Hp} {d : PyData} {v : V} (h : RF K full A H d v) (s : Ex H H') : RF K full A H' d v := by
  cases full with
  | true => exact RB.mono h s
  | false => exact R.mono (hid_sm s) h
def lf (full : Bool) (A : Ow) (H : Hp) : Hp := if full then H else hid A H
theorem lf_le {A : Ow} {H : Hp} : Ex (lf full A H) H := by
  cases full
  · exact hid_le
  · exact Ex.refl _
theorem lf_sq {K : PySem.W.Frag} {A : Ow} {H : Hp} {a : Addr} {vs : List V} (h : lf full A H a = some (.lst vs)) : SqL K H a vs := SqL.of (lf_le.g _ _ h)
theorem i_seq (h : PE X e (TF X.K C W full m)) : PI X tg e (TIt X.K C W full (mSeq m)) := by
  refine pi_imp (pi_or (pi_list h) (pi_tup h)) fun σ H Q ⟨sg, A, rl, o⟩ => ?_
  have o' := o.bind
  cases hm : m sg with
  | bad => rw [hm] at o'; exact o'.elim
  | ask n f => rw [hm] at o'; exact o'.elim
  | exn c d =>
    rw [hm] at o'
    exact .inl (TF.def ⟨sg, A, rl, by rw [hm]; exact o'⟩)
  | ok d =>
    rw [hm] at o'
    cases d with
    | list l =>
      refine .inl (TF.def ⟨sg, A, rl, by
        rw [hm]
        intro H1 s1 v rv
        obtain ⟨l', e, k⟩ := (o' H1 s1).of
        cases e
        obtain ⟨a, vs, e1, h1, r1⟩ := rv.list
        exact ⟨a, e1, ⟨vs, lf_sq h1⟩, k H1 (Sm.refl _) _ (itl_ok h1 r1)⟩⟩)
    | tuple l =>
      refine .inr (TF.def ⟨sg, A, rl, by
        rw [hm]
        intro H1 s1 v rv
        obtain ⟨l', e, k⟩ := (o' H1 s1).of
        cases e
        obtain ⟨a, vs, e1, h1, r1⟩ := rv.tup
        exact ⟨a, e1, ⟨vs, sqT_mono lf_le h1⟩, k H1 (Sm.refl _) _ (itt_ok h1 r1)⟩⟩)
    | _ =>
      obtain ⟨l', e, k⟩ := (o' H (Sm.refl _)).of
      cases e
def mRng (m : SG → Res PyData) (sg : SG) : Res (List PyData) := (m sg).bind fun d => match d with | .int i => (match leB 0 i && leB i 100000 with | true => .ok (rgP 0 i.toNat) | false => .bad) | _ => .bad
theorem i_rng (hg : Gl X "range") (hmg : X.mg "range" = none) (h : PE X a (T X.K C W m)) (hs : starEach [a] X.env = (false, eval a X.env) :: starEach [] X.env) : PI X tg (.Call (.Name "range" p) [a] [] pos) (TIt X.K C W full (mRng m)) := by
  refine pi_imp (pi_range1 hg hmg (pa_cons h pa_nil hs) hs) fun σ H Q ⟨sg, A, rl, o⟩ => ?_
  refine ⟨sg, A, rl, o.bind.mono fun d H1 s1 o1 v q => ?_⟩
  split at o1
  · rename_i i
    split at o1
    · rename_i h
      unfold R at q
      simp only [Bool.and_eq_true, leB_iff] at h
      exact ⟨i, by rw [q], by omega, by omega, o1 H1 (Sm.refl _) _ (itr_ok _)⟩
    · exact o1.elim
  · exact o1.elim
def mZip (ma mb : SG → Res PyData) (sg : SG) : Res (List PyData) := (ma sg).bind fun x => (mb sg).bind fun y => match x, y with
  | .list l, .list r => .ok (zipP l r)
  | .tuple l, .tuple r => .ok (zipP l r)
  | _, _ => .bad
theorem i_zip {elts : List Expr} {kk : Nat} {tpos : Pos} (hg : Gl X "zip") (hmg : X.mg "zip" = none) (ha : PE X a (TF X.K C W full ma)) (hb : PE X b (TF X.K C W full mb)) (hs : starEach [a, b] X.env = (false, eval a X.env) :: starEach [b] X.env) (hs2 : starEach [b] X.env = (false, eval b X.env) :: starEach [] X.env) :
    PI X (.Tuple elts kk tpos) (.Call (.Name "zip" p) [a, b] [] pos) (TIt X.K C W full (mZip ma mb)) := by
  refine pi_imp (RZ.pi_zipA hg hmg (pa_cons ha (pa_cons hb pa_nil hs2) hs) hs (by rw [hs2]; rfl)) fun σ H Q ⟨sg, A, rl, o⟩ => ?_
  refine TF.def ⟨sg, A, rl, o.bind.mono fun d H1 s1 o1 v q => TF.def ⟨sg, A, rl.mono s1, o1.bind.mono fun d2 H2 s2 o2 v2 q2 => ?_⟩⟩
  replace q := q.mono s2.e
  split at o2
  · obtain ⟨x, vs, e1, h1, r1⟩ := q.list
    obtain ⟨y, us, e2, h2, r2⟩ := q2.list
    exact ⟨x, y, vs, us, by rw [e1, e2], .inl ⟨lf_sq h1, lf_sq h2, o2 H2 (Sm.refl _) _ (itz_ok h1 r1 h2 r2)⟩⟩
  · obtain ⟨x, vs, e1, h1, r1⟩ := q.tup
    obtain ⟨y, us, e2, h2, r2⟩ := q2.tup
    exact ⟨x, y, vs, us, by rw [e1, e2], .inr ⟨sqT_mono lf_le h1, sqT_mono lf_le h2, o2 H2 (Sm.refl _) _ (itzT_ok h1 r1 h2 r2)⟩⟩
  · exact o2.elim
def mEnum (m : SG → Res PyData) (sg : SG) : Res (List PyData) := (noA (m sg)).bind fun d => Res.of ((seqP d).map (enumP 0))
theorem i_enum {elts : List Expr} {kk : Nat} {tpos : Pos} (hg : Gl X "enumerate") (hmg : X.mg "enumerate" = none) (h : PE X a (TF X.K C W full m)) (hs : starEach [a] X.env = (false, eval a X.env) :: starEach [] X.env) :
    PI X (.Tuple elts kk tpos) (.Call (.Name "enumerate" p) [a] [] pos) (TIt X.K C W full (mEnum m)) := by
  refine pi_imp (pi_or (pi_enum hg hmg (pa_cons h pa_nil hs) hs) (pi_enumT hg hmg (pa_cons h pa_nil hs) hs)) fun σ H Q ⟨sg, A, rl, o⟩ => ?_
  have o' := o.bind
  cases hm : m sg with
  | bad => rw [hm] at o'; exact o'.elim
  | ask n f => rw [hm] at o'; exact o'.elim
  | exn c d =>
    rw [hm] at o'
    exact .inl (TF.def ⟨sg, A, rl, by rw [hm]; exact o'⟩)
  | ok d =>
    rw [hm] at o'
    cases d with
    | list l =>
      refine .inl (TF.def ⟨sg, A, rl, by
        rw [hm]
        intro H1 s1 v rv
        obtain ⟨l', e, k⟩ := (o' H1 s1).of
        cases e
        obtain ⟨a, vs, e1, h1, r1⟩ := rv.list
        exact ⟨a, vs, by rw [e1], lf_sq h1, k H1 (Sm.refl _) _ (ite_ok h1 r1)⟩⟩)
    | tuple l =>
      refine .inr (TF.def ⟨sg, A, rl, by
        rw [hm]
        intro H1 s1 v rv
        obtain ⟨l', e, k⟩ := (o' H1 s1).of
        cases e
        obtain ⟨a, vs, e1, h1, r1⟩ := rv.tup
        exact ⟨a, vs, by rw [e1], sqT_mono lf_le h1, k H1 (Sm.refl _) _ (iteT_ok h1 r1)⟩⟩)
    | _ =>
      obtain ⟨l', e, k⟩ := (o' H (Sm.refl _)).of
      cases e
end
end Ev

namespace Ev
variable [Wd]
open PySem PySem.Spec PyProof.Rows L2
open PySem.W.Z (ltB leB eqB ltB_iff leB_iff eqB_iff)

/-! targets -/
inductive Tg where
  | one (i : Nat)
  | many (l : List Nat)
def put : SG → Nat → Sl → SG
  | [], _, _ => []
  | x :: l, i, d => match i with | 0 => some d :: l | i + 1 => x :: put l i d
theorem put_eq : ∀ (l : SG) (i : Nat) (d : Sl), put l i d = l.set i (some d)
  | [], i, d => by simp [put]
  | x :: l, 0, d => by simp [put]
  | x :: l, i + 1, d => by simp [put, put_eq l i d]
def putAll : List Nat → List PyData → SG → Option SG
  | [], ds, sg => match ds with | [] => some sg | _ => none
  | i :: is, ds, sg => match ds with | d :: ds => putAll is ds (put sg i (.v d)) | [] => none
def setT : Tg → PyData → SG → Option SG
  | .one i, d, sg => some (put sg i (.v d))
  | .many l, d, sg => match d with | .tuple ds => putAll l ds sg | _ => none
def gMany : List Nat → TGs
  | [] => gNil
  | i :: l => gCons (gName i) (gMany l)
def gT (K : PySem.W.Frag) : Tg → TG
  | .one i => gName i
  | .many l => gTup K l.length (gMany l)
def Tg.ix : Tg → List Nat
  | .one i => [i]
  | .many l => l

theorem Rel.upd {K : PySem.W.Frag} {A A' : Ow} {H H' : Hp} {sg : SG} {σ : L2.St} (r : Rel K C A H sg σ) (i : Nat) {s : Sl} {v : V} (h : SlR K C A' H' i s v) (o : ∀ j b u, j ≠ i → j < σ.length → A b = some j → H b = some u → mu u → A' b = some j ∧ H' b = some u)
    (m : Ex (hid A H) (hid A' H')) (t : Trk A' H') (tb : LamX.Tabs C.tabs H') : Rel K C A' H' (put sg i s) (σ.set i (some v)) := by
  rw [put_eq]
  refine ⟨by simp [r.len], fun j x e => ?_, t, tb⟩
  by_cases hj : i = j
  · subst hj
    rw [List.getElem?_set] at e
    by_cases hl : i < sg.length
    · simp [hl] at e
      subst e
      exact ⟨v, by rw [List.getElem?_set]; simp [← r.len, hl], h⟩
    · simp [hl] at e
  · rw [List.getElem?_set_ne hj] at e
    obtain ⟨u, h1, h2⟩ := r.slot j x e
    exact ⟨u, by rw [List.getElem?_set_ne hj]; exact h1, h2.keep (fun b w => o j b w (Ne.symm hj) (List.getElem?_eq_some_iff.mp h1).1) m⟩
theorem set_back {σ : L2.St} {i : Nat} {v : V} (h : σ[i]? = some (some v)) : σ.set i (some v) = σ := by
  obtain ⟨hl, e⟩ := List.getElem?_eq_some_iff.mp h
  rw [← e]
  exact List.set_getElem_self hl
theorem rel_set {K : PySem.W.Frag} {A : Ow} {H : Hp} {sg : SG} {σ : L2.St} (r : Rel K C A H sg σ) (i : Nat) {d : PyData} {v : V} (q : R K (hid A H) d v) : Rel K C A H (put sg i (.v d)) (σ.set i (some v)) :=
  r.upd i (s := .v d) q (fun _ _ _ _ _ e1 e2 _ => ⟨e1, e2⟩) (Ex.refl _) r.trk r.tab
theorem gMany_ok {K : PySem.W.Frag} {A : Ow} {H : Hp} {Q : L2.St → Hp → Prop} : ∀ {l : List Nat} {ds : List PyData} {vs : List V} {sg sg' : SG} {σ : L2.St}, putAll l ds sg = some sg' → Rs K (hid A H) ds vs → Rel K C A H sg σ → (∀ σ', (∀ j, j ∉ l → σ'[j]? = σ[j]?) → Rel K C A H sg' σ' → Q σ' H) → gMany l vs σ H Q
  | [], [], vs, sg, sg', σ, h, r, rl, k => by
    simp [putAll] at h
    subst h
    rw [r.nil_inv]
    exact ⟨rfl, k σ (fun _ _ => rfl) rl⟩
  | [], d :: ds, vs, sg, sg', σ, h, r, rl, k => by simp [putAll] at h
  | i :: l, [], vs, sg, sg', σ, h, r, rl, k => by simp [putAll] at h
  | i :: l, d :: ds, vs, sg, sg', σ, h, r, rl, k => by
    obtain ⟨v, r', e1, h1, h2⟩ := r.cons_inv
    refine ⟨v, r', e1, ?_⟩
    show gMany l r' (σ.set i (some v)) H Q
    refine gMany_ok (by simpa [putAll] using h) h2 (rel_set rl i h1) fun σ' hs rl' => k σ' (fun j hj => ?_) rl'
    rw [hs j fun z => hj (List.mem_cons_of_mem _ z), List.getElem?_set_ne fun z => hj (by simp [z])]
theorem putAll_len : ∀ {l : List Nat} {ds : List PyData} {sg sg' : SG}, putAll l ds sg = some sg' → ds.length = l.length
  | [], [], _, _, _ => rfl
  | [], _ :: _, _, _, h => by simp [putAll] at h
  | _ :: _, [], _, _, h => by simp [putAll] at h
  | i :: l, d :: ds, sg, sg', h => by
    have := putAll_len (l := l) (ds := ds) (by simpa [putAll] using h)
    simp [this]
theorem setT_many {l : List Nat} {d : PyData} {sg sg' : SG} (h : setT (.many l) d sg = some sg') : ∃ ds, d = .tuple ds ∧ putAll l ds sg = some sg' := by
  unfold setT at h
  split at h
  · rename_i e; cases e
  · rename_i e
    cases e
    split at h
    · exact ⟨_, rfl, h⟩
    · cases h
theorem gT_ok {K : PySem.W.Frag} {A : Ow} {H : Hp} {Q : L2.St → Hp → Prop} {t : Tg} {d : PyData} {v : V} {sg sg' : SG} {σ : L2.St} (h : setT t d sg = some sg') (r : R K (hid A H) d v) (rl : Rel K C A H sg σ) (k : ∀ σ', (∀ j, j ∉ t.ix → σ'[j]? = σ[j]?) → Rel K C A H sg' σ' → Q σ' H) : gT K t v σ H Q := by
  cases t with
  | one i =>
    cases h
    refine k _ (fun j hj => ?_) (rel_set rl i r)
    rw [List.getElem?_set_ne fun z => hj (by simp [Tg.ix, z])]
  | many l =>
    obtain ⟨ds, rfl, h'⟩ := setT_many h
    obtain ⟨a, vs, e, h1, h2⟩ := R.tuple_iff.mp r
    exact ⟨a, vs, e, sqT_mono hid_le h1, by rw [h2.length, putAll_len h'], gMany_ok h' h2 rl k⟩

/-! the block of a comprehension -/
def wipeS (sg : SG) : List Nat → SG
  | [] => sg
  | v :: vs => unput (wipeS sg vs) v
where unput : SG → Nat → SG
  | [], _ => []
  | x :: l, i => match i with | 0 => none :: l | i + 1 => x :: unput l i
theorem unput_eq : ∀ (l : SG) (i : Nat), wipeS.unput l i = l.set i none
  | [], i => by simp [wipeS.unput]
  | x :: l, 0 => by simp [wipeS.unput]
  | x :: l, i + 1 => by simp [wipeS.unput, unput_eq l i]
theorem wipeS_len (sg : SG) : ∀ vs, (wipeS sg vs).length = sg.length
  | [] => rfl
  | v :: vs => by rw [wipeS, unput_eq, List.length_set, wipeS_len sg vs]
theorem wipeS_some {sg : SG} {i : Nat} {x : Sl} : ∀ {vs : List Nat}, (wipeS sg vs)[i]? = some (some x) → sg[i]? = some (some x) ∧ i ∉ vs
  | [], h => ⟨h, by simp⟩
  | v :: vs, h => by
    rw [wipeS, unput_eq] at h
    by_cases hv : v = i
    · subst hv
      rw [List.getElem?_set] at h
      by_cases hl : v < (wipeS sg vs).length <;> simp [hl] at h
    · rw [List.getElem?_set_ne hv] at h
      obtain ⟨h1, h2⟩ := wipeS_some h
      exact ⟨h1, by simp only [List.mem_cons, not_or]; exact ⟨fun e => hv e.symm, h2⟩⟩
theorem rel_wipe {K : PySem.W.Frag} {A : Ow} {H : Hp} {sg : SG} {σ : L2.St} (r : Rel K C A H sg σ) (vs : List Nat) : Rel K C A H (wipeS sg vs) (wipe σ vs) := by
  refine ⟨by rw [wipeS_len, wipe_length, r.len], fun i x h => ?_, r.trk, r.tab⟩
  obtain ⟨h1, h2⟩ := wipeS_some h
  rw [wipe_out h2]
  exact r.slot i x h1
theorem wipe_same {σ σ' : L2.St} {vs : List Nat} (hl : σ'.length = σ.length) (h : ∀ j, j ∉ vs → σ'[j]? = (wipe σ vs)[j]?) : wipe σ' vs = wipe σ vs := by
  apply List.ext_getElem?
  intro j
  by_cases hj : j ∈ vs
  · have key : ∀ (τ : L2.St) (us : List Nat), j ∈ us → (wipe τ us)[j]? = if j < τ.length then some none else none := by
      intro τ us
      induction us with
      | nil => intro h; cases h
      | cons u us ih =>
        intro hm
        unfold wipe
        by_cases hu : u = j
        · subst hu
          rw [List.getElem?_set]
          simp [wipe_length]
        · rw [List.getElem?_set_ne hu]
          exact ih (by rcases List.mem_cons.mp hm with z | z; exact absurd z.symm hu; exact z)
    rw [key _ _ hj, key _ _ hj, hl]
  · rw [wipe_out hj, h j hj]
/-- D is nobody's but the comprehension's -/
def own1 (A : Ow) (D : Addr) (n : Nat) : Ow := fun b => if b = D then some n else A b
theorem hid_own1 {A : Ow} {H : Hp} {D : Addr} {n : Nat} {b : Addr} (h : b ≠ D) : hid (own1 A D n) H b = hid A H b := by
  unfold hid own1; rw [if_neg h]
theorem hid_own1_sms {A : Ow} {H H' : Hp} {D : Addr} {n : Nat} (h : H D = none) (s : Exs H H') : Exs (hid A H) (hid (own1 A D n) H') := ⟨fun a o e k => by
  have ha : a ≠ D := fun z => by
    unfold hid at e
    split at e
    · cases e
    · rw [z, h] at e; cases e
  rw [hid_own1 ha]
  exact (hid_sms s).at_ a o e k⟩
theorem hid_own1_sm {A : Ow} {H H' : Hp} {D : Addr} {n : Nat} (h : H D = none) (s : Ex H H') : Ex (hid A H) (hid (own1 A D n) H') := by
  have key : ∀ a o, hid A H a = some o → a ≠ D := fun a o e z => by
    unfold hid at e
    split at e
    · cases e
    · rw [z, h] at e; cases e
  refine ⟨fun a o e k q => ?_, fun T e => ?_⟩
  · rw [hid_own1 (key a o e)]
    exact (hid_sm s).at_ a o e k q
  · obtain ⟨T', e'⟩ := (hid_sm s).dr T e
    exact ⟨T', by rw [hid_own1 (key _ _ e)]; exact e'⟩
theorem hid_own1_new {A : Ow} {H : Hp} {D : Addr} {n : Nat} {o : HO} (h : H D = none) : Ex (hid A H) (hid (own1 A D n) (upd H D o)) := hid_own1_sm h (Ex.new h)
theorem hid_own1_les {A : Ow} {H : Hp} {D : Addr} {n : Nat} : Exs (hid (own1 A D n) H) (hid A H) := ⟨fun a o e _ => by
  by_cases h : a = D
  · subst h
    unfold hid own1 at e
    simp at e
  · rw [hid_own1 h] at e; exact e⟩
theorem hid_own1_le {A : Ow} {H : Hp} {D : Addr} {n : Nat} : Ex (hid (own1 A D n) H) (hid A H) := hid_own1_les.w
/-- D is written, which H knew nothing of -/
theorem Sm.wr {TT : List (Addr × Str)} {H H' : Hp} {D : Addr} {o o' : HO} (s : Sm TT H H') (hD : H D = none) (h : H' D = some o) (m : mu o) : Sm TT H (upd H' D o') := ⟨⟨fun a u e n => by
  rw [upd_ne (ne_of_none e hD)]; exact s.ex.at_ a u e n⟩, fun t p hp => TabS.upd h m (s.tab t p hp), fun a e => by
  by_cases ha : a = D
  · rw [ha]; exact hD
  · rw [upd_ne ha] at e; exact s.live a e⟩
theorem Sw.wr {TT : List (Addr × Str)} {H H' : Hp} {D : Addr} {o o' : HO} (s : Sw TT H H') (hD : H D = none) (h : H' D = some o) (m : mu o) : Sw TT H (upd H' D o') := ⟨⟨fun a u e n k => by
  rw [upd_ne (ne_of_none e hD)]; exact s.ex.at_ a u e n k, fun T e => by
  obtain ⟨T', e'⟩ := s.ex.dr T e
  exact ⟨T', by rw [upd_ne (ne_of_none e hD)]; exact e'⟩⟩, fun t p hp => TabS.upd h m (s.tab t p hp), fun a e => by
  by_cases ha : a = D
  · rw [ha]; exact hD
  · rw [upd_ne ha] at e; exact s.live a e⟩
theorem hid_own1_upd {A : Ow} {H : Hp} {D : Addr} {n : Nat} {o : HO} : hid (own1 A D n) (upd H D o) = hid (own1 A D n) H := by
  funext b
  by_cases h : b = D
  · subst h; unfold hid own1; simp
  · unfold hid
    rw [upd_ne h]
theorem trk_own1 {A : Ow} {H : Hp} {D : Addr} {n : Nat} {o : HO} (t : Trk A H) (h : H D = none) (m : mu o := by exact trivial) : Trk (own1 A D n) (upd H D o) := fun a e => by
  by_cases ha : a = D
  · exact ⟨o, by rw [ha, upd_same], m⟩
  · unfold own1 at e
    rw [if_neg ha] at e
    obtain ⟨u, q, k⟩ := t a e
    exact ⟨u, by rw [upd_ne ha]; exact q, k⟩
theorem rel_own1 {K : PySem.W.Frag} {A : Ow} {H H' : Hp} {sg : SG} {σ : L2.St} {D : Addr} {n : Nat} (r : Rel K C A H sg σ) (h : H D = none) (s : Sw C.tabs H H') (t : Trk (own1 A D n) H') : Rel K C (own1 A D n) H' sg σ := by
  refine r.keep (fun j b u _ e1 e2 mm => ?_) (hid_own1_sm h s) t (s.tab r.tab)
  have hb : b ≠ D := fun z => by rw [z, h] at e2; cases e2
  exact ⟨by unfold own1; rw [if_neg hb]; exact e1, s.ex.at_ b u e2 mm.nt (.inr mm.nd)⟩

/-- what no exception leaves -/
def noX {α : Type} : Res α → Res α
  | .ok a => .ok a
  | .exn _ _ => .bad
  | .bad => .bad
  | .ask _ _ => .bad
/-- the items of a comprehension -/
def lcGo (t : Tg) (test : SG → Res Bool) (elt : SG → Res PyData) (sg : SG) : List PyData → Res (List PyData)
  | [] => .ok []
  | d :: r => match setT t d sg with
    | some sg' => (noX (test sg')).bind fun b => match b with
      | true => (noX (elt sg')).bind fun y => (lcGo t test elt sg r).bind fun ys => .ok (y :: ys)
      | false => lcGo t test elt sg r
    | none => .bad
def mLc (t : Tg) (mi : SG → Res (List PyData)) (mt : SG → Res Bool) (me : SG → Res PyData) (vs : List Nat) (sg : SG) : Res PyData := (mi sg).bind fun l => match few l.length with
  | true => (lcGo t mt me (wipeS sg vs) l).bind fun ys => .ok (.list ys)
  | false => .bad
theorem noX_ok {α β : Type} {m : Res α} {f : α → Res β} {b : β} (h : (noX m).bind f = .ok b) : ∃ a, m = .ok a ∧ f a = .ok b := by
  cases m with
  | ok a => exact ⟨a, rfl, h⟩
  | exn c d => cases h
  | bad => cases h
  | ask n f => cases h
theorem bind_ok {α β : Type} {m : Res α} {f : α → Res β} {b : β} (h : m.bind f = .ok b) : ∃ a, m = .ok a ∧ f a = .ok b := by
  cases m with
  | ok a => exact ⟨a, rfl, h⟩
  | exn c d => cases h
  | bad => cases h
  | ask n f => cases h
theorem lcGo_noexn {t : Tg} {test : SG → Res Bool} {elt : SG → Res PyData} {sg : SG} : ∀ {l : List PyData} {c : Nat} {d : PyData}, lcGo t test elt sg l ≠ .exn c d
  | [], c, d, h => by cases h
  | x :: r, c, d, h => by
    unfold lcGo at h
    split at h
    · cases hb : test _ with
      | ok b =>
        rw [hb] at h
        cases b with
        | true =>
          cases he : elt _ with
          | ok y =>
            have h' : ((lcGo t test elt sg r).bind fun ys => Res.ok (y :: ys)) = .exn c d := by rw [he] at h; exact h
            cases hr : lcGo t test elt sg r with
            | ok ys => rw [hr] at h'; cases h'
            | exn c' d' => exact lcGo_noexn hr
            | bad => rw [hr] at h'; cases h'
            | ask n f => rw [hr] at h'; cases h'
          | exn _ _ => rw [he] at h; cases h
          | bad => rw [he] at h; cases h
          | ask n f => rw [he] at h; cases h
        | false => exact lcGo_noexn h
      | exn _ _ => rw [hb] at h; cases h
      | bad => rw [hb] at h; cases h
      | ask n f => rw [hb] at h; cases h
    · cases h
theorem lcGo_noask {t : Tg} {test : SG → Res Bool} {elt : SG → Res PyData} {sg : SG} : ∀ {l : List PyData} {c : Int} {d : Int → Res (List PyData)}, lcGo t test elt sg l ≠ .ask c d
  | [], c, d, h => by cases h
  | x :: r, c, d, h => by
    unfold lcGo at h
    split at h
    · cases hb : test _ with
      | ok b =>
        rw [hb] at h
        cases b with
        | true =>
          cases he : elt _ with
          | ok y =>
            have h' : ((lcGo t test elt sg r).bind fun ys => Res.ok (y :: ys)) = .ask c d := by rw [he] at h; exact h
            cases hr : lcGo t test elt sg r with
            | ok ys => rw [hr] at h'; cases h'
            | exn c' d' => rw [hr] at h'; cases h'
            | bad => rw [hr] at h'; cases h'
            | ask n f => exact lcGo_noask hr
          | exn _ _ => rw [he] at h; cases h
          | bad => rw [he] at h; cases h
          | ask n f => rw [he] at h; cases h
        | false => exact lcGo_noask h
      | exn _ _ => rw [hb] at h; cases h
      | bad => rw [hb] at h; cases h
      | ask n f => rw [hb] at h; cases h
    · cases h
theorem lcGo_len {t : Tg} {test : SG → Res Bool} {elt : SG → Res PyData} {sg : SG} : ∀ {l ys : List PyData}, lcGo t test elt sg l = .ok ys → ys.length ≤ l.length
  | [], ys, h => by cases h; exact Nat.le_refl _
  | x :: r, ys, h => by
    unfold lcGo at h
    split at h
    · obtain ⟨b, _, h⟩ := noX_ok h
      cases b with
      | true =>
        obtain ⟨y, _, h⟩ := noX_ok h
        obtain ⟨zs, h1, h⟩ := bind_ok h
        cases h
        have := lcGo_len h1
        simp; omega
      | false =>
        have := lcGo_len (h : lcGo t test elt sg r = .ok ys)
        simp; omega
    · cases h

section
variable {X : Cx} {C : CT} {W : WX} {e a b tg iter elt : Expr} {ifs : List Expr} {mt : SG → Res Bool} {mi : SG → Res (List PyData)} {me : SG → Res PyData} {pos p : Pos}
/-- no exception is wanted -/
def WX.no : WX := fun _ _ _ _ => False
theorem tp_ok {K : PySem.W.Frag} {A : Ow} {H : Hp} {sg : SG} {σ : L2.St} {W' : WX} {m : SG → Res Bool} {b : Bool} {Q : Bool → Hp → Prop} (rl : Rel K C A H sg σ) (h : m sg = .ok b) (k : ∀ H', Sm C.tabs H H' → Q b H') : TP K C W' m σ H Q := ⟨sg, A, rl, by rw [h]; exact k⟩
theorem t_ok {K : PySem.W.Frag} {A : Ow} {H : Hp} {sg : SG} {σ : L2.St} {W' : WX} {m : SG → Res PyData} {d : PyData} {Q : VK} (rl : Rel K C A H sg σ) (h : m sg = .ok d) (k : ∀ H', Sm C.tabs H H' → ∀ v, R K (hid A H') d v → Q v H') : T K C W' m σ H Q := ⟨sg, A, rl, by rw [h]; exact k⟩
theorem lc_ok {K : PySem.W.Frag} {W' : WX} {t : Tg} {vs : List Nat} (hsub : ∀ i ∈ t.ix, i ∈ vs) {σ : L2.St} {H1 : Hp} {sg : SG} {A : Ow} (rl : Rel K C A H1 sg σ) {l ys : List PyData} (hf : few l.length = true) (hys : lcGo t mt me (wipeS sg vs) l = .ok ys) {J : It} (hJ : ItOk K H1 (hid A H1) J l) {Q : VK}
    (k : ∀ H', Sm C.tabs H1 H' → ∀ v, R K (hid A H') (.list ys) v → Q v H') (D : Addr) (hD : H1 D = none) :
    ∃ W : Nat → Nat → Hp → Prop, (∃ m, W 0 m (upd H1 D (.lst []))) ∧ ∀ i m H, W i m H →
      (J.stop i H ∧ Q (.ref D) H) ∨ (J.go i H ∧ ∃ Nx : Hp → Prop, (∀ H', Nx H' → ∃ m', m' < m ∧ W (i + 1) m' H') ∧ ∀ x H', J.yld i H x H' → gT K t x (wipe σ vs) H' fun σ2 H2 => wipe σ2 vs = wipe σ vs ∧ TP K C W' mt σ2 H2 fun b H3 =>
        if b = true then T K C W' me σ2 H3 fun y H4 => ∃ acc, H4 D = some (.lst acc) ∧ acc.length < sizeLine ∧ Nx (upd H4 D (.lst (acc ++ [y]))) else Nx H3) := by
  have hAD : (A D).isSome = false := rl.trk.new hD
  have hlen : ys.length ≤ l.length := lcGo_len hys
  have hfl := few_le hf
  let Pv : Nat → Hp → Prop := fun i H => Sm C.tabs H1 H ∧ Trk (own1 A D σ.length) H ∧ ∃ (vs' : List V) (done rest : List PyData), H D = some (.lst vs') ∧ Rs K (hid (own1 A D σ.length) H) done vs' ∧ lcGo t mt me (wipeS sg vs) (l.drop i) = .ok rest ∧ done ++ rest = ys ∧ done.length ≤ i
  refine ⟨fun i m H => m = l.length - i ∧ i ≤ l.length ∧ Pv i H, ⟨l.length, rfl, Nat.zero_le _, Sm.new hD, trk_own1 rl.trk hD, [], [], ys, upd_same .., Rs.nil, hys, rfl, Nat.le_refl _⟩, ?_⟩
  rintro i m H ⟨rfl, hi, s1, tr, vs', done, rest, hDv, hr, hrest, hsum, hdl⟩
  by_cases hlt : i < l.length
  · refine .inr ⟨hJ.go i H s1 hlt, Pv (i + 1), fun H' p' => ⟨l.length - (i + 1), by omega, rfl, hlt, p'⟩, fun x H' y => ?_⟩
    have hli : l[i]? = some l[i] := by simp [hlt]
    obtain ⟨s2', rx⟩ := hJ.yld (own1 A D σ.length) i H x H' l[i] s1 (hid_own1_sm hD s1) tr hli y
    have s2 := s2' C.tabs
    have hdrop : l.drop i = l[i] :: l.drop (i + 1) := List.drop_eq_getElem_cons hlt
    rw [hdrop] at hrest
    unfold lcGo at hrest
    have rl2 : Rel K C (own1 A D σ.length) H' (wipeS sg vs) (wipe σ vs) := rel_own1 (rel_wipe rl vs) hD (s1.trans s2).w (tr.mono s2.e)
    split at hrest
    · rename_i sg' hset
      obtain ⟨b, hb, hrest⟩ := noX_ok hrest
      refine gT_ok hset rx rl2 fun σ' hσ rl' => ⟨wipe_same (by rw [← rl'.len, ← rl.len]; cases t with
        | one j => cases hset; rw [put_eq]; simp [wipeS_len]
        | many js =>
          obtain ⟨ds, _, h'⟩ := setT_many hset
          have key : ∀ (js : List Nat) (ds : List PyData) (s s' : SG), putAll js ds s = some s' → s'.length = s.length := by
            intro js
            induction js with
            | nil => intro ds s s' h; cases ds <;> simp [putAll] at h; rw [h]
            | cons j js ih =>
              intro ds s s' h
              cases ds with
              | nil => simp [putAll] at h
              | cons d ds => rw [ih ds _ s' (by simpa [putAll] using h), put_eq]; simp
          rw [key _ _ _ _ h', wipeS_len]
          ) fun j hj => hσ j fun z => hj (hsub j z), ?_⟩
      refine tp_ok rl' hb fun H3 s3 => ?_
      have tr3 := (tr.mono s2.e).mono s3.e
      have sH : Sm C.tabs H H3 := s2.trans s3
      cases b with
      | true =>
        rw [if_pos rfl]
        obtain ⟨y', he, hrest⟩ := noX_ok hrest
        obtain ⟨zs, hz, e2⟩ := bind_ok hrest
        cases e2
        refine t_ok (rl'.mono s3) he fun H4 s4 v rv => ⟨vs', s4.g _ _ (sH.g _ _ hDv), ?_, ?_⟩
        · rw [hr.length]; omega
        · have sH4 := sH.trans s4
          refine ⟨(s1.trans sH4).wr hD (sH4.g _ _ hDv) trivial, fun a h => ?_, vs' ++ [v], done ++ [y'], zs, upd_same .., ?_, hz, by rw [← hsum]; simp, by simp; omega⟩
          · by_cases ha : a = D
            · exact ⟨.lst (vs' ++ [v]), by rw [ha]; exact upd_same .., trivial⟩
            · obtain ⟨o, q, k⟩ := (tr3.mono s4.e) a h
              exact ⟨o, by rw [upd_ne ha]; exact q, k⟩
          · rw [hid_own1_upd]
            exact (hr.mono (hid_sm sH4)).append (.cons rv .nil)
      | false =>
        rw [if_neg (by decide)]
        exact ⟨s1.trans sH, tr3, vs', done, rest, sH.g _ _ hDv, hr.mono (hid_sm sH), hrest, hsum, by omega⟩
    · cases hrest
  · have e : i = l.length := by omega
    subst e
    refine .inl ⟨hJ.stop H s1, k H s1 _ ?_⟩
    rw [List.drop_length] at hrest
    cases hrest
    rw [List.append_nil] at hsum
    subst hsum
    exact R.list_iff.mpr ⟨D, vs', rfl, by unfold hid; rw [if_neg (by rw [hAD]; decide)]; exact hDv, hr.mono hid_own1_le⟩
theorem lc_read {W' : WX} {t : Tg} {vs : List Nat} (hsub : ∀ i ∈ t.ix, i ∈ vs) {σ : L2.St} {H : Hp} {Q : VK} (h : T X.K C W (mLc t mi mt me vs) σ H Q) : tLc (TIt X.K C W true mi) (gT X.K t) (TP X.K C W' mt) (T X.K C W' me) vs σ H Q := by
  obtain ⟨sg, A, rl, o⟩ := h
  refine ⟨sg, A, rl, o.bind.mono fun l H1 s1 o1 J hJ D hD => ?_⟩
  have hJ' : ItOk X.K H1 (hid A H1) J l := hJ
  split at o1
  · rename_i hf
    cases hys : lcGo t mt me (wipeS sg vs) l with
    | ok ys =>
      rw [hys] at o1
      exact lc_ok hsub (rl.mono s1) hf hys hJ' o1 D hD
    | exn c d => exact absurd hys lcGo_noexn
    | ask n f => exact absurd hys lcGo_noask
    | bad => rw [hys] at o1; exact o1.elim
  · exact o1.elim
theorem e_lc {W' : WX} {t : Tg} {scope : Scope} {own : List (Str × Nat)} (hc : X.calm = true) (hN : X.N.Nodup) (hi : PI X tg iter (TIt X.K C W true mi)) (ok : BlkOk X.N X.env.scope scope own)
    (hg : ∀ (s : Shared) (H : Hp) (Z : Addr) (cl : List (Str × Addr)) (fp : List Addr), PG (X.blk s H scope (compEnvC scope cl Z X.env) fp) tg (gT X.K t))
    (ht : ∀ (s : Shared) (H : Hp) (Z : Addr) (cl : List (Str × Addr)) (fp : List Addr), PTs (X.blk s H scope (compEnvC scope cl Z X.env) fp) ifs (TP X.K C W' mt))
    (he : ∀ (s : Shared) (H : Hp) (Z : Addr) (cl : List (Str × Addr)) (fp : List Addr), PE (X.blk s H scope (compEnvC scope cl Z X.env) fp) elt (T X.K C W' me))
    (hs : ∀ x, foldedSetIterable iter X.env x = pure x) (hsub : ∀ i ∈ t.ix, i ∈ own.map (·.2)) :
    PE X (.ListComp elt [⟨tg, iter, ifs, 0⟩] scope pos) (T X.K C W (mLc t mi mt me (own.map (·.2)))) :=
  pe_imp (pe_lc hc hN hi ok hg ht he hs) fun σ H Q h => lc_read hsub h
end
end Ev

namespace Ev
variable [Wd]
open PySem PySem.Spec PyProof.Rows L2
open PySem.W.Z (ltB leB eqB ltB_iff leB_iff eqB_iff)

/-! len({k: True for .. in ..}), the keys ints or texts -/
/-- how many keys there are, behind those of seen -/
def uqGo (t : Tg) (mk : SG → Res PyData) (sg : SG) (seen : List PyData) : List PyData → Res Nat
  | [] => .ok seen.length
  | d :: r => match setT t d sg with
    | some sg' => (noX (mk sg')).bind fun k => match keyOf k with
      | some _ => match anyEq k seen with
        | true => uqGo t mk sg seen r
        | false => uqGo t mk sg (seen ++ [k]) r
      | none => .bad
    | none => .bad
def mUq (t : Tg) (mi : SG → Res (List PyData)) (mk : SG → Res PyData) (vs : List Nat) (sg : SG) : Res PyData := (mi sg).bind fun l => match few l.length with
  | true => (uqGo t mk (wipeS sg vs) [] l).bind fun n => .ok (.int (n : Nat))
  | false => .bad
theorem uqGo_noexn {t : Tg} {mk : SG → Res PyData} {sg : SG} : ∀ {l seen : List PyData} {c : Nat} {d : PyData}, uqGo t mk sg seen l ≠ .exn c d
  | [], seen, c, d, h => by cases h
  | x :: r, seen, c, d, h => by
    unfold uqGo at h
    split at h
    · cases hb : mk _ with
      | ok k =>
        rw [hb] at h
        have h' : (match keyOf k with
          | some _ => match anyEq k seen with
            | true => uqGo t mk sg seen r
            | false => uqGo t mk sg (seen ++ [k]) r
          | none => Res.bad) = .exn c d := h
        split at h'
        · split at h'
          · exact uqGo_noexn h'
          · exact uqGo_noexn h'
        · cases h'
      | exn _ _ => rw [hb] at h; cases h
      | bad => rw [hb] at h; cases h
      | ask n f => rw [hb] at h; cases h
    · cases h
theorem uqGo_noask {t : Tg} {mk : SG → Res PyData} {sg : SG} : ∀ {l seen : List PyData} {c : Int} {d : Int → Res Nat}, uqGo t mk sg seen l ≠ .ask c d
  | [], seen, c, d, h => by cases h
  | x :: r, seen, c, d, h => by
    unfold uqGo at h
    split at h
    · cases hb : mk _ with
      | ok k =>
        rw [hb] at h
        have h' : (match keyOf k with
          | some _ => match anyEq k seen with
            | true => uqGo t mk sg seen r
            | false => uqGo t mk sg (seen ++ [k]) r
          | none => Res.bad) = .ask c d := h
        split at h'
        · split at h'
          · exact uqGo_noask h'
          · exact uqGo_noask h'
        · cases h'
      | exn _ _ => rw [hb] at h; cases h
      | bad => rw [hb] at h; cases h
      | ask n f => rw [hb] at h; cases h
    · cases h
theorem uqGo_len {t : Tg} {mk : SG → Res PyData} {sg : SG} : ∀ {l seen : List PyData} {n : Nat}, uqGo t mk sg seen l = .ok n → seen.length ≤ n ∧ n ≤ seen.length + l.length
  | [], seen, n, h => by cases h; simp
  | x :: r, seen, n, h => by
    unfold uqGo at h
    split at h
    · obtain ⟨k, _, h⟩ := noX_ok h
      split at h
      · split at h
        · have := uqGo_len h; simp; omega
        · have := uqGo_len h; simp at this ⊢; omega
      · cases h
    · cases h
theorem keyOf_eq {d e : PyData} {k j : Key} (hd : keyOf d = some k) (he : keyOf e = some j) : deq d e = decide (k = j) := by
  cases d <;> simp [keyOf] at hd <;> cases e <;> simp [keyOf] at he <;> subst hd <;> subst he <;> simp [deq, eqB_eq, strEq_eq] <;> rfl
def KeysOk (seen : List PyData) (kvs : List (Key × V)) : Prop := seen.map keyOf = kvs.map fun p => some p.1
theorem keys_any {d : PyData} {k : Key} (hd : keyOf d = some k) : ∀ {seen : List PyData} {kvs : List (Key × V)}, KeysOk seen kvs → (kvs.any fun kv => decide (kv.1 = k)) = anyEq d seen
  | [], [], _ => rfl
  | [], _ :: _, h => by simp [KeysOk] at h
  | _ :: _, [], h => by simp [KeysOk] at h
  | e :: seen, p :: kvs, h => by
    have h' : keyOf e = some p.1 ∧ KeysOk seen kvs := by simpa [KeysOk] using h
    rw [List.any_cons, anyEq, ← keyOf_eq h'.1 hd, keys_any hd h'.2]
    cases deq e d <;> rfl
theorem keys_put {d : PyData} {k : Key} {v : V} (hd : keyOf d = some k) {seen : List PyData} {kvs : List (Key × V)} (h : KeysOk seen kvs) : KeysOk (match anyEq d seen with | true => seen | false => seen ++ [d]) (putK kvs k v) := by
  unfold putK
  rw [keys_any hd h]
  cases anyEq d seen with
  | true =>
    rw [if_pos rfl]
    show seen.map keyOf = _
    rw [List.map_map, h]
    apply List.map_congr_left
    intro p _
    show some p.1 = some (if p.1 = k then (p.1, v) else p).1
    split <;> rfl
  | false =>
    rw [if_neg (by decide)]
    show (seen ++ [d]).map keyOf = _
    rw [List.map_append, List.map_append, h]
    simp [hd]
theorem key_val {K : PySem.W.Frag} {H : Hp} {d : PyData} {k : Key} {v : V} (hd : keyOf d = some k) (r : R K H d v) : v = kV k := by
  cases d <;> simp [keyOf] at hd <;> subst hd <;> (unfold R at r; exact r)

section
variable {X : Cx} {C : CT} {W : WX} {e a b tg iter elt kx vx : Expr} {mi : SG → Res (List PyData)} {mk : SG → Res PyData} {pos p pos' : Pos}
theorem putAll_keep {js : List Nat} : ∀ {ds : List PyData} {s s' : SG}, putAll js ds s = some s' → s'.length = s.length := by
  induction js with
  | nil => intro ds s s' h; cases ds <;> simp [putAll] at h; rw [h]
  | cons j js ih =>
    intro ds s s' h
    cases ds with
    | nil => simp [putAll] at h
    | cons d ds => rw [ih (ds := ds) (s' := s') (by simpa [putAll] using h), put_eq]; simp
theorem setT_keep {t : Tg} {d : PyData} {s s' : SG} (h : setT t d s = some s') : s'.length = s.length := by
  cases t with
  | one j => cases h; rw [put_eq]; simp
  | many js => obtain ⟨ds, _, h'⟩ := setT_many h; exact putAll_keep h'
theorem uq_ok {K : PySem.W.Frag} {W' : WX} {t : Tg} {vs : List Nat} (hsub : ∀ i ∈ t.ix, i ∈ vs) {σ : L2.St} {H1 : Hp} {sg : SG} {A : Ow} (rl : Rel K C A H1 sg σ) {l : List PyData} {n : Nat} (hf : few l.length = true) (hys : uqGo t mk (wipeS sg vs) [] l = .ok n) {J : It} (hJ : ItOk K H1 (hid A H1) J l) {Q : VK}
    (k : ∀ H' D kvs, Sm C.tabs H1 H' → H' D = some (.dK kvs) → kvs.length = n → Q (.ref D) H') (D : Addr) (hD : H1 D = none) :
    ∃ W : Nat → Nat → Hp → Prop, (∃ m, W 0 m (upd H1 D (.dK []))) ∧ ∀ i m H, W i m H →
      (J.stop i H ∧ Q (.ref D) H) ∨ (J.go i H ∧ ∃ Nx : Hp → Prop, (∀ H', Nx H' → ∃ m', m' < m ∧ W (i + 1) m' H') ∧ ∀ x H', J.yld i H x H' → gT K t x (wipe σ vs) H' fun σ2 H2 => wipe σ2 vs = wipe σ vs ∧ tYes σ2 H2 fun b H3 =>
        if b = true then T K C W' mk σ2 H3 fun y H4 => tC (.bl true) σ2 H4 fun z H5 => ∃ kvs k, y = kV k ∧ H5 D = some (.dK kvs) ∧ kvs.length < sizeLine ∧ Nx (upd H5 D (.dK (putK kvs k z))) else Nx H3) := by
  have hlen := (uqGo_len hys).2
  have hfl := few_le hf
  let Pv : Nat → Hp → Prop := fun i H => Sm C.tabs H1 H ∧ Trk (own1 A D σ.length) H ∧ ∃ (kvs : List (Key × V)) (seen : List PyData), H D = some (.dK kvs) ∧ KeysOk seen kvs ∧ uqGo t mk (wipeS sg vs) seen (l.drop i) = .ok n ∧ kvs.length ≤ i
  refine ⟨fun i m H => m = l.length - i ∧ i ≤ l.length ∧ Pv i H, ⟨l.length, rfl, Nat.zero_le _, Sm.new hD, trk_own1 rl.trk hD, [], [], upd_same .., rfl, hys, Nat.le_refl _⟩, ?_⟩
  rintro i m H ⟨rfl, hi, s1, tr, kvs, seen, hDv, hr, hrest, hdl⟩
  by_cases hlt : i < l.length
  · refine .inr ⟨hJ.go i H s1 hlt, Pv (i + 1), fun H' p' => ⟨l.length - (i + 1), by omega, rfl, hlt, p'⟩, fun x H' y => ?_⟩
    have hli : l[i]? = some l[i] := by simp [hlt]
    obtain ⟨s2', rx⟩ := hJ.yld (own1 A D σ.length) i H x H' l[i] s1 (hid_own1_sm hD s1) tr hli y
    have s2 := s2' C.tabs
    have hdrop : l.drop i = l[i] :: l.drop (i + 1) := List.drop_eq_getElem_cons hlt
    rw [hdrop] at hrest
    unfold uqGo at hrest
    have rl2 : Rel K C (own1 A D σ.length) H' (wipeS sg vs) (wipe σ vs) := rel_own1 (rel_wipe rl vs) hD (s1.trans s2) (tr.mono s2.e)
    split at hrest
    · rename_i sg' hset
      obtain ⟨kd, hb, hrest⟩ := noX_ok hrest
      refine gT_ok hset rx rl2 fun σ' hσ rl' => ⟨wipe_same (by rw [← rl'.len, ← rl.len, setT_keep hset, wipeS_len]) fun j hj => hσ j fun z => hj (hsub j z), ?_⟩
      simp only [tYes, if_true]
      refine t_ok rl' hb fun H4 s4 v rv => ?_
      have tr4 := (tr.mono s2.e).mono s4.e
      have sH : Sm C.tabs H H4 := s2.trans s4
      split at hrest
      · rename_i kk hkk
        refine ⟨kvs, kk, key_val hkk rv, sH.g _ _ hDv, by omega, (s1.trans sH).wr hD (sH.g _ _ hDv) trivial, fun a h => ?_, putK kvs kk (.bl true), _, upd_same .., keys_put hkk hr, ?_, ?_⟩
        · by_cases ha : a = D
          · exact ⟨.dK (putK kvs kk (.bl true)), by rw [ha]; exact upd_same .., trivial⟩
          · obtain ⟨o, q, k⟩ := tr4 a h
            exact ⟨o, by rw [upd_ne ha]; exact q, k⟩
        · revert hrest
          cases anyEq kd seen <;> exact fun z => z
        · have := length_putK kvs kk (.bl true); omega
      · cases hrest
    · cases hrest
  · have e : i = l.length := by omega
    subst e
    rw [List.drop_length] at hrest
    cases hrest
    refine .inl ⟨hJ.stop H s1, k H D kvs s1 hDv ?_⟩
    have := congrArg List.length hr
    simpa using this.symm
theorem e_uniq {W' : WX} {t : Tg} {scope : Scope} {own : List (Str × Nat)} (hl : Gl X "len") (hm : X.mg "len" = none) (hc : X.calm = true) (hN : X.N.Nodup) (hi : PI X tg iter (TIt X.K C W true mi)) (ok : BlkOk X.N X.env.scope scope own)
    (hg : ∀ (s : Shared) (H : Hp) (Z : Addr) (cl : List (Str × Addr)) (fp : List Addr), PG (X.blk s H scope (compEnvC scope cl Z X.env) fp) tg (gT X.K t))
    (hk : ∀ (s : Shared) (H : Hp) (Z : Addr) (cl : List (Str × Addr)) (fp : List Addr), PE (X.blk s H scope (compEnvC scope cl Z X.env) fp) kx (T X.K C W' mk))
    (hv : ∀ (s : Shared) (H : Hp) (Z : Addr) (cl : List (Str × Addr)) (fp : List Addr), PE (X.blk s H scope (compEnvC scope cl Z X.env) fp) vx (tC (.bl true)))
    (hs : ∀ x, foldedSetIterable iter X.env x = pure x) (hsub : ∀ i ∈ t.ix, i ∈ own.map (·.2)) :
    PE X (.Call (.Name "len" p) [.DictComp kx vx [⟨tg, iter, [], 0⟩] scope pos'] [] pos) (T X.K C W (mUq t mi mk (own.map (·.2)))) :=
  pe_imp (pe_callB call_lenD hl hm (by decide +kernel) (pa_cons (pe_dc hc hN hi ok hg (fun _ _ _ _ _ => pts_nil) hk hv hs) pa_nil rfl) (by decide) (by decide) rfl rfl) fun σ H Q ⟨sg, A, rl, o⟩ => by
    refine ⟨sg, A, rl, o.bind.mono fun l H1 s1 o1 J hJ D hD => ?_⟩
    have hJ' : ItOk X.K H1 (hid A H1) J l := hJ
    split at o1
    · rename_i hf
      cases hys : uqGo t mk (wipeS sg (own.map (·.2))) [] l with
      | ok n =>
        rw [hys] at o1
        refine uq_ok (C := C) (W' := W') (Q := fun x H1 => ∃ a kvs, [x] = [V.ref a] ∧ H1 a = some (.dK kvs) ∧ Q (V.int kvs.length) H1) hsub (rl.mono s1) hf hys hJ' (fun H' D' kvs sm hD2 hn => ⟨D', kvs, rfl, hD2, ?_⟩) D hD
        rw [hn]
        exact o1 H' sm _ R.int'
      | exn c d => exact absurd hys uqGo_noexn
      | ask n f => exact absurd hys uqGo_noask
      | bad => rw [hys] at o1; exact o1.elim
    · exact o1.elim
end
end Ev

namespace Ev
variable [Wd]
open PySem PySem.Spec PyProof.Rows L2
open PySem.W.Z (ltB leB eqB ltB_iff leB_iff eqB_iff)

/-! keys that are tuples of ints, texts, None and of such tuples -/
mutual
def nkOf : Nat → PyData → Option NestedKey
  | _, .none => some .none
  | _, .int i => some (.num i)
  | _, .str s => some (.text s)
  | n, .tuple l => match n with
    | 0 => none
    | m + 1 => match nkAll m l with
      | some ks => some (.tup ks)
      | none => none
  | _, _ => none
def nkAll : Nat → List PyData → Option (List NestedKey)
  | _, [] => some []
  | n, d :: l => match nkOf n d with
    | some k => match nkAll n l with
      | some ks => some (k :: ks)
      | none => none
    | none => none
end
theorem nkAll_cons {n : Nat} {d : PyData} {l : List PyData} {ks : List NestedKey} (h : nkAll n (d :: l) = some ks) : ∃ k r, ks = k :: r ∧ nkOf n d = some k ∧ nkAll n l = some r := by
  unfold nkAll at h
  split at h
  · rename_i k e
    split at h
    · rename_i r e2
      cases h
      exact ⟨k, r, rfl, e, e2⟩
    · cases h
  · cases h
theorem nkOf_tup {n : Nat} {l : List PyData} {k : NestedKey} (h : nkOf n (.tuple l) = some k) : ∃ m ks, n = m + 1 ∧ k = .tup ks ∧ nkAll m l = some ks := by
  unfold nkOf at h
  split at h
  · cases h
  · rename_i m
    split at h
    · rename_i ks e
      cases h
      exact ⟨m, ks, rfl, rfl, e⟩
    · cases h
mutual
theorem nk_depth : ∀ {n : Nat} {d : PyData} {k : NestedKey}, nkOf n d = some k → k.depth ≤ n
  | n, .none, k, h => by cases h; simp [NestedKey.depth]
  | n, .int _, k, h => by cases h; simp [NestedKey.depth]
  | n, .str _, k, h => by cases h; simp [NestedKey.depth]
  | n, .tuple l, k, h => by
    obtain ⟨m, ks, rfl, rfl, e⟩ := nkOf_tup h
    have := nk_depths e
    simp only [NestedKey.depth]
    omega
  | n, .bool _, k, h => by simp [nkOf] at h
  | n, .list _, k, h => by simp [nkOf] at h
  | n, .dict _, k, h => by simp [nkOf] at h
theorem nk_depths : ∀ {n : Nat} {l : List PyData} {ks : List NestedKey}, nkAll n l = some ks → NestedKey.depthAll ks ≤ n
  | n, [], ks, h => by cases h; simp [NestedKey.depthAll]
  | n, d :: l, ks, h => by
    obtain ⟨k, r, rfl, e1, e2⟩ := nkAll_cons h
    have h1 := nk_depth e1
    have h2 := nk_depths e2
    simp only [NestedKey.depthAll]
    omega
end
mutual
theorem nk_is {X : Cx} {pins : List (Addr × Obj)} {σ : L2.St} {H G : Hp} {s : Shared} (I : Inv X pins σ H s) (g : Ex G H) : ∀ {n : Nat} {d : PyData} {k : NestedKey} {v : V} {u : Value}, nkOf n d = some k → R X.K G d v → RelV v u → NestedIs s.heap k u
  | n, .none, k, v, u, h, r, q => by
    cases h; unfold R at r; subst r
    have q : u = Value.none := q
    subst q; exact .none
  | n, .int i, k, v, u, h, r, q => by
    cases h; unfold R at r; subst r
    obtain ⟨t, rfl⟩ := q
    exact .int i t
  | n, .str i, k, v, u, h, r, q => by
    cases h; unfold R at r; subst r
    obtain ⟨t, rfl⟩ := q
    exact .text i t
  | n, .tuple l, k, v, u, h, r, q => by
    obtain ⟨m, ks, rfl, rfl, e⟩ := nkOf_tup h
    obtain ⟨a, vs, rfl, h1, h2⟩ := R.tuple_iff.mp r
    have q : u = Value.ref a := q
    subst q
    obtain ⟨its, rv, ⟨o, ho, hc, n, hd⟩, _⟩ := I.tuple (sqT_mono g h1)
    exact .tup ho hc hd (by simpa using nk_are I g e h2 rv)
  | n, .bool _, k, v, u, h, r, q => by simp [nkOf] at h
  | n, .list _, k, v, u, h, r, q => by simp [nkOf] at h
  | n, .dict _, k, v, u, h, r, q => by simp [nkOf] at h
theorem nk_are {X : Cx} {pins : List (Addr × Obj)} {σ : L2.St} {H G : Hp} {s : Shared} (I : Inv X pins σ H s) (g : Ex G H) : ∀ {n : Nat} {l : List PyData} {ks : List NestedKey} {vs : List V} {us : List Value}, nkAll n l = some ks → Rs X.K G l vs → Vals vs us → NestedAll s.heap ks us
  | n, [], ks, vs, us, h, r, q => by
    cases h
    have := r.nil_inv; subst this
    cases q
    exact .nil
  | n, d :: l, ks, vs, us, h, r, q => by
    obtain ⟨k, t, rfl, e1, e2⟩ := nkAll_cons h
    obtain ⟨v, w, rfl, r1, r2⟩ := r.cons_inv
    cases q with
    | cons q1 q2 => exact .cons (nk_is I g e1 r1 q1) (nk_are I g e2 r2 q2)
end
mutual
theorem nkey_eq : ∀ {n m : Nat} {d e : PyData} {k j : NestedKey}, nkOf n d = some k → nkOf m e = some j → deq d e = NestedKey.beq k j
  | n, m, .none, e, k, j, h, h' => by cases h; cases e <;> first | (cases h'; rfl) | (simp [nkOf] at h'; done) | (obtain ⟨_, _, _, rfl, _⟩ := nkOf_tup h'; rfl)
  | n, m, .int i, e, k, j, h, h' => by
    cases h
    cases e with
    | int i' => cases h'; simp [deq, NestedKey.beq, eqB_eq]; rfl
    | tuple l' => obtain ⟨_, _, _, rfl, _⟩ := nkOf_tup h'; rfl
    | none => cases h'; rfl
    | str _ => cases h'; rfl
    | bool _ => simp [nkOf] at h'
    | list _ => simp [nkOf] at h'
    | dict _ => simp [nkOf] at h'
  | n, m, .str i, e, k, j, h, h' => by
    cases h
    cases e with
    | str i' =>
      cases h'
      simp only [deq, NestedKey.beq, strEq_eq]
      by_cases q : i = i'
      · subst q; simp
      · rw [decide_eq_false q]; exact beq_eq_false_iff_ne.mpr q
    | tuple l' => obtain ⟨_, _, _, rfl, _⟩ := nkOf_tup h'; rfl
    | none => cases h'; rfl
    | int _ => cases h'; rfl
    | bool _ => simp [nkOf] at h'
    | list _ => simp [nkOf] at h'
    | dict _ => simp [nkOf] at h'
  | n, m, .tuple l, e, k, j, h, h' => by
    obtain ⟨a, ks, rfl, rfl, e1⟩ := nkOf_tup h
    cases e with
    | tuple l' =>
      obtain ⟨b, js, rfl, rfl, e2⟩ := nkOf_tup h'
      show deqs l l' = NestedKey.beqAll ks js
      exact nkey_eqs e1 e2
    | none => cases h'; rfl
    | int _ => cases h'; rfl
    | str _ => cases h'; rfl
    | bool _ => simp [nkOf] at h'
    | list _ => simp [nkOf] at h'
    | dict _ => simp [nkOf] at h'
  | n, m, .bool _, e, k, j, h, h' => by simp [nkOf] at h
  | n, m, .list _, e, k, j, h, h' => by simp [nkOf] at h
  | n, m, .dict _, e, k, j, h, h' => by simp [nkOf] at h
theorem nkey_eqs : ∀ {n m : Nat} {d e : List PyData} {k j : List NestedKey}, nkAll n d = some k → nkAll m e = some j → deqs d e = NestedKey.beqAll k j
  | n, m, [], e, k, j, h, h' => by
    cases h
    cases e with
    | nil => cases h'; rfl
    | cons x l => obtain ⟨_, _, rfl, _, _⟩ := nkAll_cons h'; rfl
  | n, m, x :: l, e, k, j, h, h' => by
    obtain ⟨k1, r1, rfl, e1, e2⟩ := nkAll_cons h
    cases e with
    | nil => cases h'; rfl
    | cons y l' =>
      obtain ⟨k2, r2, rfl, e3, e4⟩ := nkAll_cons h'
      show (match deq x y with | true => deqs l l' | false => false) = (NestedKey.beq k1 k2 && NestedKey.beqAll r1 r2)
      rw [nkey_eq e1 e3, nkey_eqs e2 e4]
      cases NestedKey.beq k1 k2 <;> rfl
end
/-! a dict whose keys are such tuples -/
abbrev TE3 := NestedKey × Addr × Value
def DT (P : Program) (w : World) (D : Addr) (xs : List TE3) : HO := DE D (xs.map (entryOfKey (nestedKind P w))).toArray
instance {P : Program} {w : World} {D : Addr} {xs : List TE3} : Nt (DT P w D xs) := ⟨trivial⟩
theorem DT.mu {P : Program} {w : World} {D : Addr} {xs : List TE3} : Ev.mu (DT P w D xs) := DE.mu
/-- the keys seen -/
structure KK (K : PySem.W.Frag) (H : Hp) (seen : List PyData) (xs : List TE3) : Prop where
  rs : Rs K H seen (xs.map fun x => V.ref x.2.1)
  ks : seen.map (nkOf 8) = xs.map fun x => some x.1
  nd : (xs.map (·.1)).Nodup
theorem KK.mono {K : PySem.W.Frag} {H H' : Hp} {seen : List PyData} {xs : List TE3} (k : KK K H seen xs) (m : Ex H H') : KK K H' seen xs := ⟨k.rs.mono m, k.ks, k.nd⟩
theorem KK.are {X : Cx} {pins : List (Addr × Obj)} {σ : L2.St} {H G : Hp} {s : Shared} (I : Inv X pins σ H s) (g : Ex G H) : ∀ {seen : List PyData} {xs : List TE3}, Rs X.K G seen (xs.map fun x => V.ref x.2.1) → seen.map (nkOf 8) = xs.map (fun x => some x.1) → ∀ x ∈ xs, (nestedKind X.prog X.w).is s.heap x.1 x.2.1
  | _, [], _, _, x, h => by cases h
  | [], y :: xs, r, k, x, h => by simp at k
  | d :: seen, y :: xs, r, k, x, h => by
    obtain ⟨v, w, e, r1, r2⟩ := r.cons_inv
    have k' : nkOf 8 d = some y.1 ∧ seen.map (nkOf 8) = xs.map fun x => some x.1 := by simpa using k
    have e' : V.ref y.2.1 = v ∧ (xs.map fun x => V.ref x.2.1) = w := by simpa using e
    rcases List.mem_cons.mp h with rfl | h
    · exact ⟨nk_is (v := V.ref x.2.1) I g k'.1 (by rw [e'.1]; exact r1) rfl, nk_depth k'.1⟩
    · exact KK.are I g (by rw [e'.2]; exact r2) k'.2 x h
theorem seen_any {K : PySem.W.Frag} {H : Hp} {d : PyData} {k : NestedKey} (hd : nkOf 8 d = some k) : ∀ {seen : List PyData} {xs : List TE3}, seen.map (nkOf 8) = xs.map (fun x => some x.1) → (xs.any fun x => decide (x.1 = k)) = anyEq d seen
  | [], [], _ => rfl
  | [], _ :: _, h => by simp at h
  | _ :: _, [], h => by simp at h
  | e :: seen, p :: xs, h => by
    have h' : nkOf 8 e = some p.1 ∧ seen.map (nkOf 8) = xs.map fun x => some x.1 := by simpa using h
    rw [List.any_cons, anyEq, nkey_eq h'.1 hd, NestedKey.decide_eq, seen_any (K := K) (H := H) hd h'.2]
    cases NestedKey.beq p.1 k <;> rfl

theorem atKey_any (xs : List TE3) (k : NestedKey) : (atKey xs k).isSome = xs.any fun x => decide (x.1 = k) := by
  induction xs with
  | nil => rfl
  | cons x xs ih =>
    unfold atKey at ih ⊢
    rw [List.find?_cons, List.any_cons]
    by_cases h : x.1 = k
    · simp [h]
    · simpa [h] using ih
theorem stored_keys (xs : List TE3) (k : NestedKey) (a : Addr) (v : Value) : (storedH xs k a v).map (·.1) = match (xs.any fun x => decide (x.1 = k)) with | true => xs.map (·.1) | false => xs.map (·.1) ++ [k] := by
  unfold storedH
  rw [atKey_any]
  cases xs.any fun x => decide (x.1 = k) with
  | true =>
    rw [if_pos rfl, List.map_map]
    apply List.map_congr_left
    intro x _
    show (putAt k v x).1 = x.1
    unfold putAt
    split <;> rfl
  | false => simp
theorem stored_addr (xs : List TE3) (k : NestedKey) (a : Addr) (v : Value) : (storedH xs k a v).map (·.2.1) = match (xs.any fun x => decide (x.1 = k)) with | true => xs.map (·.2.1) | false => xs.map (·.2.1) ++ [a] := by
  unfold storedH
  rw [atKey_any]
  cases xs.any fun x => decide (x.1 = k) with
  | true =>
    rw [if_pos rfl, List.map_map]
    apply List.map_congr_left
    intro x _
    show (putAt k v x).2.1 = x.2.1
    unfold putAt
    split <;> rfl
  | false => simp
theorem KK.put {K : PySem.W.Frag} {H : Hp} {seen : List PyData} {xs : List TE3} {d : PyData} {k : NestedKey} {b : Addr} {r : Value} (q : KK K H seen xs) (hd : nkOf 8 d = some k) (hr : R K H d (.ref b)) :
    KK K H (match anyEq d seen with | true => seen | false => seen ++ [d]) (storedH xs k b r) := by
  have ha := seen_any (K := K) (H := H) hd q.ks
  have s1 := stored_keys xs k b r
  have s2 := stored_addr xs k b r
  have e1 : (storedH xs k b r).map (fun x => V.ref x.2.1) = ((storedH xs k b r).map (·.2.1)).map V.ref := by rw [List.map_map]; rfl
  have e2 : (storedH xs k b r).map (fun x => some x.1) = ((storedH xs k b r).map (·.1)).map some := by rw [List.map_map]; rfl
  have f1 : xs.map (fun x => V.ref x.2.1) = (xs.map (·.2.1)).map V.ref := by rw [List.map_map]; rfl
  have f2 : xs.map (fun x => some x.1) = (xs.map (·.1)).map some := by rw [List.map_map]; rfl
  rw [ha] at s1 s2
  have q1 := q.rs
  have q2 := q.ks
  have q3 := q.nd
  rw [f1] at q1
  rw [f2] at q2
  cases h : anyEq d seen with
  | true =>
    rw [h] at s1 s2
    exact ⟨by rw [e1, s2]; exact q1, by rw [e2, s1]; exact q2, by rw [s1]; exact q3⟩
  | false =>
    rw [h] at s1 s2 ha
    refine ⟨by rw [e1, s2, List.map_append]; exact q1.append (.cons hr .nil), by rw [e2, s1, List.map_append, List.map_append, ← q2]; simp [hd], ?_⟩
    rw [s1, List.nodup_append]
    refine ⟨q3, by simp, fun x hx y hy e => ?_⟩
    have hy : y = k := by simpa using hy
    subst e
    subst hy
    obtain ⟨z, hz, rfl⟩ := List.mem_map.mp hx
    rw [List.any_eq_false] at ha
    exact ha z hz (by simp)
theorem stored_len (xs : List TE3) (k : NestedKey) (a : Addr) (v : Value) : (storedH xs k a v).length ≤ xs.length + 1 := by
  unfold storedH
  split <;> simp
/-- the store -/
theorem dset_T {X : Cx} {pins : List (Addr × Obj)} {σ : L2.St} {H : Hp} {s : Shared} {E : Value → Shared → Prop} {D : Addr} {xs : List TE3} {k : NestedKey} {b : Addr} {r : Value} {Q : Unit → Shared → Prop} (hu : X.A.units + 8 < cLine) (I : Inv X pins σ H s) (hD : H D = some (DT X.prog X.w D xs))
    (hk : (nestedKind X.prog X.w).is s.heap k b) (his : ∀ x ∈ xs, (nestedKind X.prog X.w).is s.heap x.1 x.2.1) (hn : (xs.map (·.1)).Nodup) (hz : xs.length ≤ sizeLine) (q : ∀ s', Inv X pins σ (upd H D (DT X.prog X.w D (storedH xs k b r))) s' → Q () s') :
    wpAny (model X.prog X.w) X.A (dictSet D (.ref b) r) Q E s := by
  obtain ⟨⟨o, ep, ho, hc, hd⟩, _, _⟩ := (show ObjOk X.prog X.w H s.heap D (DT X.prog X.w D xs) from I.hok D _ hD)
  refine wpAny_dictSet_heap (knd := nestedKind X.prog X.w) hu hk ⟨o, _, ep, ho, hc, hd, by simp, his, hn⟩ (fun h' dd' hs => q _ ?_) hz
  obtain ⟨o', es', ep', ho', hc', hd', he', _⟩ := dd'
  have e : es' = ((storedH xs k b r).map (entryOfKey (nestedKind X.prog X.w))).toArray := by rw [← he']
  subst e
  exact d_write (I.tok _) (by rw [hD]; exact True.intro) hs ⟨o', ho'⟩ (DE.ok ho' hc' hd')
theorem DT.new {P : Program} {w : World} {H : Hp} (h : Heap) : ObjOk P w H (h.push { cls := .type "dict", data := .dict #[] }) h.objs.size (DT P w h.objs.size []) :=
  DE.ok (o := { cls := .type "dict", data := .dict #[] }) (ep := 0) (Heap.get?_push_size _ rfl) ⟨rfl, rfl, rfl⟩ rfl
end Ev

namespace Ev
variable [Wd]
open PySem PySem.Spec PyProof.Rows L2
open PySem.W.Z (ltB leB eqB ltB_iff leB_iff eqB_iff)

/-! a dict comprehension whose new dict is told in a way of one's own: o0 the empty one, pt a store into it -/
structure DKd (X : Cx) (o0 : Addr → HO) (pt : Addr → V → V → Hp → (Hp → Prop) → Prop) : Prop where
  new : ∀ (H : Hp) (h : Heap), sysModules < h.objs.size → ObjOk X.prog X.w H (h.push { cls := .type "dict", data := .dict #[] }) h.objs.size (o0 h.objs.size)
  put : ∀ (Y : Cx) (pins : List (Addr × Obj)) (σ : L2.St) (H : Hp) (s : Shared) (E : Value → Shared → Prop) (D : Addr) (y z : V) (u r : Value) (N : Hp → Prop) (Q : Unit → Shared → Prop), Y.prog = X.prog → Y.w = X.w → Y.K = X.K → Y.A = X.A → Inv Y pins σ H s → RelV y u → RelV z r → pt D y z H N →
    (∀ H' s', N H' → Inv Y pins σ H' s' → Q () s') → wpAny (model Y.prog Y.w) Y.A (dictSet D u r) Q E s
def tDcx (o0 : Addr → HO) (pt : Addr → V → V → Hp → (Hp → Prop) → Prop) (wi : TI) (g : TG) (tt : TT) (tk tv : TE) (vs : List Nat) : TE := fun σ H Q => wi σ H fun J H1 => ∀ D, H1 D = none → (D == sysModules) = false → ∃ W : Nat → Nat → Hp → Prop, (∃ m, W 0 m (upd H1 D (o0 D))) ∧ ∀ i m H, W i m H →
  (J.stop i H ∧ Q (.ref D) H) ∨ (J.go i H ∧ ∃ Nx : Hp → Prop, (∀ H', Nx H' → ∃ m', m' < m ∧ W (i + 1) m' H') ∧ ∀ x H', J.yld i H x H' → g x (wipe σ vs) H' fun σ2 H2 => wipe σ2 vs = wipe σ vs ∧ tt σ2 H2 fun b H3 =>
    if b = true then tk σ2 H3 fun y H4 => tv σ2 H4 fun z H5 => pt D y z H5 Nx else Nx H3)
section
variable {X : Cx} {o0 : Addr → HO} {pt : Addr → V → V → Hp → (Hp → Prop) → Prop} {kx vx tg iter : Expr} {ifs : List Expr} {scope : Scope} {own : List (Str × Nat)} {pos : Pos} {wi : TI} {g : TG} {tt : TT} {tk tv : TE}
theorem pe_dcx (kd : DKd X o0 pt) (hc : X.calm = true) (hN : X.N.Nodup) (hi : PI X tg iter wi) (ok : BlkOk X.N X.env.scope scope own)
    (hg : ∀ (s : Shared) (H : Hp) (Z : Addr) (cl : List (Str × Addr)) (fp : List Addr), PG (X.blk s H scope (compEnvC scope cl Z X.env) fp) tg g)
    (ht : ∀ (s : Shared) (H : Hp) (Z : Addr) (cl : List (Str × Addr)) (fp : List Addr), PTs (X.blk s H scope (compEnvC scope cl Z X.env) fp) ifs tt)
    (hk : ∀ (s : Shared) (H : Hp) (Z : Addr) (cl : List (Str × Addr)) (fp : List Addr), PE (X.blk s H scope (compEnvC scope cl Z X.env) fp) kx tk)
    (hv : ∀ (s : Shared) (H : Hp) (Z : Addr) (cl : List (Str × Addr)) (fp : List Addr), PE (X.blk s H scope (compEnvC scope cl Z X.env) fp) vx tv) (hs : ∀ x, foldedSetIterable iter X.env x = pure x) :
    PE X (.DictComp kx vx [⟨tg, iter, ifs, 0⟩] scope pos) (tDcx o0 pt wi g tt tk tv (own.map (·.2))) := by
  refine ⟨fun pins s σ H Q I h => ?_⟩
  rw [arm_eval_DictComp]
  have free : ∀ y ∈ scope.names, y.2 = .free → ∃ c, X.env.cells.lookup y.1 = some c := fun y hy e => (ok.free y hy e).elim (fun k => I.ok.has _ (.inl k)) fun k => I.ok.has _ (.inr k)
  refine wpAny_comprehension_free rfl hs (closure_ok free) ok.kind (fun y hy e => by rw [ok.uniq y hy, e]) (thn (hi.run pins s σ H _ I h) fun xv sa hx => thn hx fun itv sb hb => ?_)
  obtain ⟨it, fp, tn, J, Hb, e, Ib, T, stb, fb, q⟩ := hb
  subst e
  refine wpAny_newObj_type (newEnv_comp ?_)
  generalize hD : sb.heap.objs.size = D
  obtain ⟨W, ⟨m0, w0⟩, turn⟩ := q D (Ib.hok.fresh (Nat.le_of_eq hD)) (beq_eq_false_iff_ne.mpr (by rw [← hD]; exact Ne.symm (Nat.ne_of_lt Ib.big)))
  -- the new dict
  obtain ⟨sc, hsc⟩ : ∃ sc : Shared, sc = { sb with heap := sb.heap.push { cls := .type "dict", data := .dict #[] } } := ⟨_, rfl⟩
  have hh : sc.heap = sb.heap.push { cls := .type "dict", data := .dict #[] } := by rw [hsc]
  have kc : ∀ b o, sb.heap.get? b = some o → sc.heap.get? b = some o := fun b o e => by rw [hh]; exact Heap.get?_push_of_some _ e
  obtain ⟨Hc, hHc⟩ : ∃ Hc : Hp, Hc = upd Hb D (o0 D) := ⟨_, rfl⟩
  have Ic : Inv X pins σ Hc sc := by
    rw [hsc, hHc]
    refine Ib.laid (t' := sb.toks) (fun b o e => Heap.get?_push_of_some _ e) (Nat.le_of_eq hD) ?_
    rw [← hD]
    exact kd.new _ _ Ib.big
  have fc : ∀ b ∈ fp, FpOk X pins Hc b ∧ b < sc.heap.objs.size := fun b hb => by
    obtain ⟨o, e, _⟩ := T.obj _ _ stb b hb
    have lt := Heap.lt_size e
    refine ⟨⟨?_, (fb b hb).2⟩, by rw [hh, Heap.size_push]; exact Nat.lt_succ_of_lt lt⟩
    rw [hHc, upd_ne (by rw [← hD]; exact Nat.ne_of_lt lt)]
    exact (fb b hb).1
  have stc : tn 0 sc.heap := T.keep _ _ _ stb fun b _ o e => kc b o e
  have Id := block_start Ic ok hN fc
  obtain ⟨cl, hcl⟩ : ∃ cl, cl = cellsFrom (sc.heap.objs.size + 1) scope.names (cloFrom X.env.cells scope.names []) := ⟨_, rfl⟩
  have pg := hg sc Hc sc.heap.objs.size cl fp
  have pt' := ht sc Hc sc.heap.objs.size cl fp
  have pk := hk sc Hc sc.heap.objs.size cl fp
  have pv' := hv sc Hc sc.heap.objs.size cl fp
  have nfp : ∀ b ∈ fp, Hc b = none := fun b hb => (fc b hb).1.1
  rw [← hHc] at w0
  obtain ⟨ce, hce⟩ : ∃ ce, ce = compEnvC scope cl sc.heap.objs.size X.env := ⟨_, rfl⟩
  have cL : ce.locals = sc.heap.objs.size := by rw [hce]; rfl
  rw [← hcl, ← hce] at Id
  rw [← hce] at pg pt' pk pv'
  obtain ⟨sd, hsd⟩ : ∃ sd : Shared, sd = { sc with heap := pushCells (sc.heap.push { cls := .type "dict", data := .dict #[] }) scope.names } := ⟨_, rfl⟩
  rw [← hsd] at Id
  have std : tn 0 sd.heap := T.keep _ _ _ stc fun b _ o e => by rw [hsd]; exact pushCells_keeps _ _ _ _ (Heap.get?_push_of_some _ e)
  let Y := X.blk sc Hc scope ce fp
  have stat : ∀ {σ' : L2.St} {H' : Hp} {s' : Shared}, Inv Y [] σ' H' s' → (∀ b ∈ fp, H' b = none) → ∀ b ∈ fp, FpOk Y [] H' b := fun {σ' H' s'} I' hn b hb =>
    ⟨hn b hb, (I'.ok.exf b hb).1, I'.ok.exfs b hb, .inl hb, fun x c e => (I'.ok.exf b hb).2 x c e, fun p hp => absurd (show p ∈ ([] : List (Addr × Obj)) ++ [] from hp) (by simp)⟩
  have loop : codeAny (model X.prog X.w) X.A (.compLoop (.DictComp kx vx [⟨tg, iter, ifs, 0⟩] scope pos) 0 (.ref it) (.ref D) ce) (compPost (model X.prog X.w) X.A X.xe none (fun r s' => ∃ v H', Inv X pins σ H' s' ∧ RelV v r ∧ Q v H') (.ref D) sc.heap.objs.size) sd := by
    refine compLoop_anyD (fun n s' => ∃ i H', Inv Y [] (wipe σ (own.map (·.2))) H' s' ∧ tn i s'.heap ∧ (∀ b ∈ fp, H' b = none) ∧ W i n H') ?_ m0 ⟨0, Hc, Id, std, nfp, w0⟩
    rintro n s5 ⟨i, H5, I5, st5, n5, w5⟩
    rcases turn i n H5 w5 with ⟨stop, qq⟩ | ⟨go, Nx, hNx, step⟩
    · refine thnF (T.done Y rfl rfl rfl hc i [] s5 _ H5 (fun _ _ => False) I5 (stat I5 n5) st5 stop) fun r s6 ⟨hr, I6⟩ => ?_
      subst hr
      have I7 : Inv X pins σ H5 s6 := Ic.call' (ch := fp) I6.os I6.base I6.hok I6.bare fun b hb => ⟨(fc b hb).1.2.2.2.1, (fc b hb).1.2.1, (fc b hb).1.2.2.2.2.1, (fc b hb).1.2.2.2.2.2⟩
      have nC : H5 sc.heap.objs.size = none := cL ▸ (show H5 ce.locals = none from I6.free)
      obtain ⟨m, hn, _⟩ := I6.loc
      have hn : s6.heap.Ns sc.heap.objs.size m := cL ▸ (show s6.heap.Ns ce.locals m from hn)
      obtain ⟨f0, f1, f2, f3, f4, f5⟩ := Ic.fpOk (H' := H5) (Nat.le_refl _) nC
      exact ⟨m, hn, fun h'' sb => ⟨.ref D, H5, I7.turned (t' := s6.toks) (fun b o hb e => (sb.2 b hb).trans e) f0 f1 f3 f4 f5, rfl, qq⟩⟩
    · refine thnF (T.item Y rfl rfl rfl hc i [] s5 _ H5 (fun _ _ => False) I5 (stat I5 n5) st5 go) fun r s6 ⟨u, hr, h6⟩ => ?_
      subst hr
      refine thnF h6 fun _ s7 ⟨x, H7, I7, r7, y7, st7, n7⟩ => ?_
      refine thnF (pg.run _ s7 _ H7 x u _ (I7.pinned (stat I7 n7) (T.obj _ _ st7)) r7 (step x H7 y7)) fun _ s8 ⟨σ8, H8, I8, hw8, q8⟩ => ?_
      refine thnF (pt'.run _ s8 σ8 H8 _ I8 q8) fun b s9 ⟨H9, I9, q9⟩ => ?_
      have fin : ∀ {s' : Shared} {H' : Hp}, Inv Y ([] ++ pinsAt fp s7.heap) σ8 H' s' → Nx H' → ∃ m, m < n ∧ ∃ i H', Inv Y [] (wipe σ (own.map (·.2))) H' s' ∧ tn i s'.heap ∧ (∀ b ∈ fp, H' b = none) ∧ W i m H' := fun {s' H'} I' nx => by
        obtain ⟨m', hm, w'⟩ := hNx H' nx
        have pin' : ∀ b ∈ fp, ∀ o, s7.heap.get? b = some o → s'.heap.get? b = some o ∧ H' b = none := fun b hb o e =>
          let z := I'.pin (b, o) (List.mem_append_right _ (List.mem_append_right _ (mem_pinsAt hb e)))
          ⟨z.1, z.2.1⟩
        refine ⟨m', hm, i + 1, H', (I'.unpinned (pins := [])).weak (by rw [← hw8, wipe_length]) (fun j v e => ?_), T.keep _ _ _ st7 fun b hb o e => (pin' b hb o e).1, fun b hb => ?_, w'⟩
        · rw [← hw8] at e
          exact (wipe_some e).1
        · obtain ⟨o, e, _⟩ := T.obj _ _ st7 b hb
          exact (pin' b hb o e).2
      cases b with
      | false =>
        simp only [Bool.false_eq_true, if_false] at q9 ⊢
        exact fin I9 q9
      | true =>
        simp only [if_true] at q9 ⊢
        exact thnF (pk.run _ s9 σ8 H9 _ I9 q9) fun ku s10 ⟨yk, H10, I10, r10, q10⟩ => thnF (pv'.run _ s10 σ8 H10 _ I10 q10) fun vu s11 ⟨yv, H11, I11, r11, nx⟩ =>
          kd.put Y _ σ8 H11 s11 _ D yk yv ku vu Nx _ rfl rfl rfl rfl I11 r10 r11 nx fun H12 s12 nx' I12 => fin I12 nx'
  rw [hce, hcl] at loop
  rw [hsd] at loop std
  have z := codeAny_compStart_dict loop (T.self X.A 0 _ _ _ std loop)
  rw [hsc] at z
  rw [hD.symm] at z ⊢
  exact z
end
end Ev

namespace Ev
variable [Wd]
open PySem PySem.Spec PyProof.Rows L2
open PySem.W.Z (ltB leB eqB ltB_iff leB_iff eqB_iff)
/-! len({k: True for .. in ..}), the keys tuples -/
def tkOf : PyData → Option NestedKey
  | .tuple l => nkOf 8 (.tuple l)
  | _ => none
theorem tkOf_nk {d : PyData} {k : NestedKey} (h : tkOf d = some k) : nkOf 8 d = some k ∧ ∃ l, d = .tuple l := by
  cases d <;> first | (cases h; done) | exact ⟨h, _, rfl⟩
/-- a store into a dict that nobody else has -/
def ptT (X : Cx) (D : Addr) (y z : V) (H : Hp) (N : Hp → Prop) : Prop := ∃ (xs : List TE3) (k : NestedKey) (kd : PyData) (b : Addr) (G : Hp) (seen : List PyData), y = .ref b ∧ nkOf 8 kd = some k ∧ Ex G H ∧ R X.K G kd y ∧ H D = some (DT X.prog X.w D xs) ∧ KK X.K G seen xs ∧ xs.length ≤ sizeLine ∧
  ∀ r, RelV z r → N (upd H D (DT X.prog X.w D (storedH xs k b r)))
theorem dkd_T {X : Cx} (hu : X.A.units + 8 < cLine) : DKd X (fun D => DT X.prog X.w D []) (ptT X) where
  new := fun H h _ => DT.new h
  put := by
    intro Y pins σ H s E D y z u r N Q e1 e2 e3 e4 I ry rz ⟨xs, k, kd, b, G, seen, ey, hk, g, rk, hD, kk, hz, n⟩ q
    subst ey
    obtain rfl : u = Value.ref b := ry
    rw [← e3] at rk kk
    rw [← e1, ← e2] at hD n
    exact dset_T (by rw [e4]; exact hu) I hD ⟨nk_is (v := V.ref b) I g hk rk rfl, nk_depth hk⟩ (KK.are I g kk.rs kk.ks) kk.nd hz fun s' I' => q _ s' (n r rz) I'
def uqGoT (t : Tg) (mk : SG → Res PyData) (sg : SG) (seen : List PyData) : List PyData → Res Nat
  | [] => .ok seen.length
  | d :: r => match setT t d sg with
    | some sg' => (noX (mk sg')).bind fun k => match tkOf k with
      | some _ => match anyEq k seen with
        | true => uqGoT t mk sg seen r
        | false => uqGoT t mk sg (seen ++ [k]) r
      | none => .bad
    | none => .bad
/-- either way -/
def uq2 (t : Tg) (mk : SG → Res PyData) (sg0 : SG) (l : List PyData) : Res PyData := match few l.length with
  | true => match uqGo t mk sg0 [] l with
    | .ok n => .ok (.int (n : Nat))
    | _ => (uqGoT t mk sg0 [] l).bind fun n => .ok (.int (n : Nat))
  | false => .bad
def mUq2 (t : Tg) (mi : SG → Res (List PyData)) (mk : SG → Res PyData) (vs : List Nat) (sg : SG) : Res PyData := (noA (mi sg)).bind fun l => uq2 t mk (wipeS sg vs) l
theorem uqGoT_noexn {t : Tg} {mk : SG → Res PyData} {sg : SG} : ∀ {l seen : List PyData} {c : Nat} {d : PyData}, uqGoT t mk sg seen l ≠ .exn c d
  | [], seen, c, d, h => by cases h
  | x :: r, seen, c, d, h => by
    unfold uqGoT at h
    split at h
    · cases hb : mk _ with
      | ok k =>
        rw [hb] at h
        have h' : (match tkOf k with
          | some _ => match anyEq k seen with
            | true => uqGoT t mk sg seen r
            | false => uqGoT t mk sg (seen ++ [k]) r
          | none => Res.bad) = .exn c d := h
        split at h'
        · split at h'
          · exact uqGoT_noexn h'
          · exact uqGoT_noexn h'
        · cases h'
      | exn _ _ => rw [hb] at h; cases h
      | bad => rw [hb] at h; cases h
      | ask n f => rw [hb] at h; cases h
    · cases h
theorem uqGoT_noask {t : Tg} {mk : SG → Res PyData} {sg : SG} : ∀ {l seen : List PyData} {c : Int} {d : Int → Res Nat}, uqGoT t mk sg seen l ≠ .ask c d
  | [], seen, c, d, h => by cases h
  | x :: r, seen, c, d, h => by
    unfold uqGoT at h
    split at h
    · cases hb : mk _ with
      | ok k =>
        rw [hb] at h
        have h' : (match tkOf k with
          | some _ => match anyEq k seen with
            | true => uqGoT t mk sg seen r
            | false => uqGoT t mk sg (seen ++ [k]) r
          | none => Res.bad) = .ask c d := h
        split at h'
        · split at h'
          · exact uqGoT_noask h'
          · exact uqGoT_noask h'
        · cases h'
      | exn _ _ => rw [hb] at h; cases h
      | bad => rw [hb] at h; cases h
      | ask n f => rw [hb] at h; cases h
    · cases h
theorem uqGoT_len {t : Tg} {mk : SG → Res PyData} {sg : SG} : ∀ {l seen : List PyData} {n : Nat}, uqGoT t mk sg seen l = .ok n → seen.length ≤ n ∧ n ≤ seen.length + l.length
  | [], seen, n, h => by cases h; simp
  | x :: r, seen, n, h => by
    unfold uqGoT at h
    split at h
    · obtain ⟨k, _, h⟩ := noX_ok h
      split at h
      · split at h
        · have := uqGoT_len h; simp; omega
        · have := uqGoT_len h; simp at this ⊢; omega
      · cases h
    · cases h
theorem call_lenT {X : Cx} : CallR X (.builtin "len") (fun vs H Q => ∃ (a : Addr) (xs : List TE3) (G : Hp) (seen : List PyData), vs = [V.ref a] ∧ (a == sysModules) = false ∧ H a = some (DT X.prog X.w a xs) ∧ Ex G H ∧ KK X.K G seen xs ∧ xs.length ≤ sizeLine ∧ Q (.int xs.length) H) := by
  intro pins s σ H vs us Q I r h
  obtain ⟨a, xs, G, seen, rfl, hd, ha, g, kk, hz, q⟩ := h
  obtain ⟨u, rfl, ru⟩ := vals1 r
  cases ru
  obtain ⟨⟨o, ep, ho, hc, hdd⟩, _, _⟩ := (show ObjOk X.prog X.w H s.heap a (DT X.prog X.w a xs) from I.hok a _ ha)
  have hm : s.heap.DictKeyed (nestedKind X.prog X.w) a (pairsH xs) := ⟨xs, ⟨o, _, ep, ho, hc, hdd, by simp, KK.are I g kk.rs kk.ks, kk.nd⟩, rfl⟩
  have hl : (pairsH xs).length = xs.length := pairsH_length xs
  refine call_len_slot (n := (pairsH xs).length) hm.typeIs F.slot_dict_len (fun Q' hq => len_keyed hd hm hq) (by omega) (by rw [hl]; rw [sizeLine_eq] at hz; omega) ?_
  rw [hl]
  exact ⟨.int xs.length, H, I.tok _, ⟨_, rfl⟩, q⟩
section
variable {X : Cx} {C : CT} {W : WX} {e a b tg iter elt kx vx : Expr} {mi : SG → Res (List PyData)} {mk : SG → Res PyData} {pos p pos' : Pos}
theorem uqT_ok {W' : WX} {t : Tg} {vs : List Nat} (hsub : ∀ i ∈ t.ix, i ∈ vs) {σ : L2.St} {H1 : Hp} {sg : SG} {A : Ow} (rl : Rel X.K C A H1 sg σ) {l : List PyData} {n : Nat} (hf : few l.length = true) (hys : uqGoT t mk (wipeS sg vs) [] l = .ok n) {J : It} (hJ : ItOk X.K H1 (hid A H1) J l) {Q : VK} (D : Addr)
    (k : ∀ H' xs G seen, Sm C.tabs H1 H' → H' D = some (DT X.prog X.w D xs) → Ex G H' → KK X.K G seen xs → xs.length = n → Q (.ref D) H') (hD : H1 D = none) :
    ∃ W : Nat → Nat → Hp → Prop, (∃ m, W 0 m (upd H1 D (DT X.prog X.w D []))) ∧ ∀ i m H, W i m H →
      (J.stop i H ∧ Q (.ref D) H) ∨ (J.go i H ∧ ∃ Nx : Hp → Prop, (∀ H', Nx H' → ∃ m', m' < m ∧ W (i + 1) m' H') ∧ ∀ x H', J.yld i H x H' → gT X.K t x (wipe σ vs) H' fun σ2 H2 => wipe σ2 vs = wipe σ vs ∧ tYes σ2 H2 fun b H3 =>
        if b = true then T X.K C W' mk σ2 H3 fun y H4 => tC (.bl true) σ2 H4 fun z H5 => ptT X D y z H5 Nx else Nx H3) := by
  have hlen := (uqGoT_len hys).2
  have hfl := few_le hf
  let Pv : Nat → Hp → Prop := fun i H => Sm C.tabs H1 H ∧ Trk (own1 A D σ.length) H ∧ ∃ (xs : List TE3) (seen : List PyData), H D = some (DT X.prog X.w D xs) ∧ KK X.K (hid (own1 A D σ.length) H) seen xs ∧ uqGoT t mk (wipeS sg vs) seen (l.drop i) = .ok n ∧ xs.length ≤ i
  refine ⟨fun i m H => m = l.length - i ∧ i ≤ l.length ∧ Pv i H, ⟨l.length, rfl, Nat.zero_le _, Sm.new hD, trk_own1 rl.trk hD DT.mu, [], [], upd_same .., ⟨Rs.nil, rfl, List.nodup_nil⟩, hys, Nat.le_refl _⟩, ?_⟩
  rintro i m H ⟨rfl, hi, s1, tr, xs, seen, hDv, kk, hrest, hdl⟩
  by_cases hlt : i < l.length
  · refine .inr ⟨hJ.go i H s1 hlt, Pv (i + 1), fun H' p' => ⟨l.length - (i + 1), by omega, rfl, hlt, p'⟩, fun x H' y => ?_⟩
    have hli : l[i]? = some l[i] := by simp [hlt]
    obtain ⟨s2', rx⟩ := hJ.yld (own1 A D σ.length) i H x H' l[i] s1 (hid_own1_sm hD s1) tr hli y
    have s2 := s2' C.tabs
    have hdrop : l.drop i = l[i] :: l.drop (i + 1) := List.drop_eq_getElem_cons hlt
    rw [hdrop] at hrest
    unfold uqGoT at hrest
    have rl2 : Rel X.K C (own1 A D σ.length) H' (wipeS sg vs) (wipe σ vs) := rel_own1 (rel_wipe rl vs) hD (s1.trans s2) (tr.mono s2.e)
    split at hrest
    · rename_i sg' hset
      obtain ⟨kd, hb, hrest⟩ := noX_ok hrest
      refine gT_ok hset rx rl2 fun σ' hσ rl' => ⟨wipe_same (by rw [← rl'.len, ← rl.len, setT_keep hset, wipeS_len]) fun j hj => hσ j fun z => hj (hsub j z), ?_⟩
      simp only [tYes, if_true]
      refine t_ok rl' hb fun H4 s4 v rv => ?_
      have tr4 := (tr.mono s2.e).mono s4.e
      have sH : Sm C.tabs H H4 := s2.trans s4
      split at hrest
      · rename_i kk' hkk
        obtain ⟨hnk, ld, hld⟩ := tkOf_nk hkk
        have hv : ∃ b, v = .ref b := by
          rw [hld] at rv
          obtain ⟨b, _, e, _⟩ := R.tuple_iff.mp rv
          exact ⟨b, e⟩
        obtain ⟨b, rfl⟩ := hv
        have kk4 := kk.mono (hid_sm sH.e)
        refine ⟨xs, kk', kd, b, hid (own1 A D σ.length) H4, seen, rfl, hnk, hid_le, rv, sH.g _ _ hDv, kk4, Nat.le_trans hdl (by omega), fun r _ => ⟨(s1.trans sH).wr hD (sH.g _ _ hDv) DT.mu, fun a h => ?_, storedH xs kk' b r, (match anyEq kd seen with | true => seen | false => seen ++ [kd]), upd_same .., ?_, ?_, ?_⟩⟩
        · by_cases ha : a = D
          · exact ⟨_, by rw [ha]; exact upd_same .., DT.mu⟩
          · obtain ⟨o, q, k⟩ := tr4 a h
            exact ⟨o, by rw [upd_ne ha]; exact q, k⟩
        · rw [hid_own1_upd]
          exact kk4.put hnk rv
        · revert hrest
          cases anyEq kd seen <;> exact fun z => z
        · have := stored_len xs kk' b r; omega
      · cases hrest
    · cases hrest
  · have e : i = l.length := by omega
    subst e
    rw [List.drop_length] at hrest
    cases hrest
    refine .inl ⟨hJ.stop H s1, k H xs _ seen s1 hDv hid_le kk ?_⟩
    have := congrArg List.length kk.ks
    simpa using this.symm
theorem e_uniq2 {W' : WX} {t : Tg} {scope : Scope} {own : List (Str × Nat)} (hu : X.A.units + 8 < cLine) (hl : Gl X "len") (hm : X.mg "len" = none) (hc : X.calm = true) (hN : X.N.Nodup) (hi : PI X tg iter (TIt X.K C W true mi)) (ok : BlkOk X.N X.env.scope scope own)
    (hg : ∀ (s : Shared) (H : Hp) (Z : Addr) (cl : List (Str × Addr)) (fp : List Addr), PG (X.blk s H scope (compEnvC scope cl Z X.env) fp) tg (gT X.K t))
    (hk : ∀ (s : Shared) (H : Hp) (Z : Addr) (cl : List (Str × Addr)) (fp : List Addr), PE (X.blk s H scope (compEnvC scope cl Z X.env) fp) kx (T X.K C W' mk))
    (hv : ∀ (s : Shared) (H : Hp) (Z : Addr) (cl : List (Str × Addr)) (fp : List Addr), PE (X.blk s H scope (compEnvC scope cl Z X.env) fp) vx (tC (.bl true)))
    (hs : ∀ x, foldedSetIterable iter X.env x = pure x) (hsub : ∀ i ∈ t.ix, i ∈ own.map (·.2)) :
    PE X (.Call (.Name "len" p) [.DictComp kx vx [⟨tg, iter, [], 0⟩] scope pos'] [] pos) (T X.K C W (mUq2 t mi mk (own.map (·.2)))) := by
  have one := e_uniq (p := p) (pos := pos) (pos' := pos') (W' := W') hl hm hc hN hi ok hg hk hv hs hsub
  have two := pe_callB (p := p) (pos := pos) call_lenT hl hm (by decide +kernel) (pa_cons (pe_dcx (pos := pos') (dkd_T hu) hc hN hi ok hg (fun _ _ _ _ _ => pts_nil) hk hv hs) pa_nil rfl) (by decide) (by decide) rfl rfl
  refine ⟨fun pins s σ H Q I h => ?_⟩
  obtain ⟨sg, A, rl, o⟩ := h
  unfold mUq2 at o
  cases hmi : mi sg with
  | exn c d =>
    rw [hmi] at o
    refine one.run pins s σ H Q I ⟨sg, A, rl, ?_⟩
    unfold mUq
    rw [hmi]
    exact o
  | bad => rw [hmi] at o; exact o.elim
  | ask n f => rw [hmi] at o; exact o.elim
  | ok l =>
    rw [hmi] at o
    have o' : Out X.K C A (fun cx dx H' => W cx dx σ H') H (uq2 t mk (wipeS sg (own.map (·.2))) l) (fun d H' => ∀ v, R X.K (hid A H') d v → Q v H') := o
    unfold uq2 at o'
    cases hf : few l.length with
    | false => rw [hf] at o'; exact o'.elim
    | true =>
      rw [hf] at o'
      have tup : Out X.K C A (fun cx dx H' => W cx dx σ H') H ((uqGoT t mk (wipeS sg (own.map (·.2))) [] l).bind fun n => Res.ok (PyData.int (n : Nat))) (fun d H' => ∀ v, R X.K (hid A H') d v → Q v H') → wpAny (model X.prog X.w) X.A (eval (.Call (.Name "len" p) [.DictComp kx vx [⟨tg, iter, [], 0⟩] scope pos'] [] pos) X.env) _ _ s := fun o2 => by
        refine two.run pins s σ H Q I ⟨sg, A, rl, ?_⟩
        rw [hmi]
        intro H1 s1 J hJ D hD hDs
        have hJ' : ItOk X.K H1 (hid A H1) J l := hJ
        cases hys : uqGoT t mk (wipeS sg (own.map (·.2))) [] l with
        | ok n =>
          rw [hys] at o2
          refine uqT_ok (C := C) (W' := W') (Q := fun x H1 => ∃ (a : Addr) (xs : List TE3) (G : Hp) (seen : List PyData), [x] = [V.ref a] ∧ (a == sysModules) = false ∧ H1 a = some (DT X.prog X.w a xs) ∧ Ex G H1 ∧ KK X.K G seen xs ∧ xs.length ≤ sizeLine ∧ Q (V.int xs.length) H1) hsub (rl.mono s1) hf hys hJ' D (fun H' xs G seen sm hD2 g kk hn => ⟨D, xs, G, seen, rfl, hDs, hD2, g, kk, ?_, ?_⟩) hD
          · have := (uqGoT_len hys).2
            have := few_le hf
            simp at *
            omega
          · rw [hn]
            exact o2 H' (s1.trans sm) _ R.int'
        | exn c d => exact absurd hys uqGoT_noexn
        | ask n f => exact absurd hys uqGoT_noask
        | bad => rw [hys] at o2; exact o2.elim
      cases hu1 : uqGo t mk (wipeS sg (own.map (·.2))) [] l with
      | ok n =>
        rw [hu1] at o'
        refine one.run pins s σ H Q I ⟨sg, A, rl, ?_⟩
        unfold mUq
        rw [hmi]
        simp only [Res.bind, hf, hu1]
        exact o'
      | exn c d => rw [hu1] at o'; exact tup o'
      | ask n f => rw [hu1] at o'; exact tup o'
      | bad => rw [hu1] at o'; exact tup o'
end
end Ev

namespace Ev
variable [Wd]
open PySem PySem.Spec PyProof.Rows L2
open PySem.W.Z (ltB leB eqB ltB_iff leB_iff eqB_iff)
/-! dicts of our own, keys ints or texts -/
def dLook (k : PyData) : List (PyData × PyData) → Option PyData
  | [] => none
  | p :: r => match deq p.1 k with | true => some p.2 | false => dLook k r
def dHas (k : PyData) : List (PyData × PyData) → Bool
  | [] => false
  | p :: r => match deq p.1 k with | true => true | false => dHas k r
def dRepl (k d : PyData) : List (PyData × PyData) → List (PyData × PyData)
  | [] => []
  | p :: r => (match deq p.1 k with | true => (p.1, d) | false => p) :: dRepl k d r
def dPut (l : List (PyData × PyData)) (k d : PyData) : List (PyData × PyData) := match dHas k l with
  | true => dRepl k d l
  | false => l ++ [(k, d)]
section
variable {K : PySem.W.Frag} {H : Hp}
theorem Rk.nil_inv {vs : List (Key × V)} (h : Rk K H [] vs) : vs = [] := by unfold Rk at h; exact h
theorem Rk.cons_inv {p : PyData × PyData} {l : List (PyData × PyData)} {vs : List (Key × V)} (h : Rk K H (p :: l) vs) : ∃ q v r, vs = (q, v) :: r ∧ keyOf p.1 = some q ∧ R K H p.2 v ∧ Rk K H l r := by
  unfold Rk at h
  obtain ⟨⟨q, v⟩, r, e, h1, h2⟩ := h
  obtain ⟨a, b⟩ := p
  unfold Rp at h1
  exact ⟨q, v, r, e, h1.1, h1.2, h2⟩
theorem Rk.nil : Rk K H [] [] := by unfold Rk; rfl
theorem Rk.cons {p : PyData × PyData} {l : List (PyData × PyData)} {q : Key} {v : V} {r : List (Key × V)} (h1 : keyOf p.1 = some q) (h2 : R K H p.2 v) (h3 : Rk K H l r) : Rk K H (p :: l) ((q, v) :: r) := by
  unfold Rk
  refine ⟨(q, v), r, rfl, ?_, h3⟩
  obtain ⟨a, b⟩ := p
  unfold Rp
  exact ⟨h1, h2⟩
theorem Rk.append : ∀ {l l' : List (PyData × PyData)} {r r' : List (Key × V)}, Rk K H l r → Rk K H l' r' → Rk K H (l ++ l') (r ++ r')
  | [], l', r, r', h, h' => by rw [h.nil_inv]; exact h'
  | p :: l, l', r, r', h, h' => by
    obtain ⟨q, v, t, rfl, h1, h2, h3⟩ := h.cons_inv
    exact .cons h1 h2 (h3.append h')
theorem Rk.length : ∀ {l : List (PyData × PyData)} {r : List (Key × V)}, Rk K H l r → r.length = l.length
  | [], r, h => by rw [h.nil_inv]; rfl
  | p :: l, r, h => by
    obtain ⟨q, v, t, rfl, h1, h2, h3⟩ := h.cons_inv
    simp [h3.length]
theorem key_at {a k : PyData} {q p : Key} (ha : keyOf a = some q) (hk : keyOf k = some p) : deq a k = decide (q = p) := keyOf_eq ha hk
theorem look_ok {k : PyData} {q : Key} (hk : keyOf k = some q) : ∀ {l : List (PyData × PyData)} {r : List (Key × V)}, Rk K H l r → match dLook k l with | some d => ∃ v, valV r q = some v ∧ R K H d v | none => valV r q = none
  | [], r, h => by rw [h.nil_inv]; exact rfl
  | p :: l, r, h => by
    obtain ⟨q', v, t, rfl, h1, h2, h3⟩ := h.cons_inv
    unfold dLook
    rw [key_at h1 hk]
    by_cases e : q' = q
    · rw [decide_eq_true e]
      exact ⟨v, valV_pos e, h2⟩
    · rw [decide_eq_false e]
      have ih := look_ok hk h3
      have z : valV ((q', v) :: t) q = valV t q := by simp [valV, List.find?_cons, e]
      rw [z]
      exact ih
theorem has_ok {k : PyData} {q : Key} (hk : keyOf k = some q) : ∀ {l : List (PyData × PyData)} {r : List (Key × V)}, Rk K H l r → dHas k l = (r.any fun kv => decide (kv.1 = q))
  | [], r, h => by rw [h.nil_inv]; rfl
  | p :: l, r, h => by
    obtain ⟨q', v, t, rfl, h1, h2, h3⟩ := h.cons_inv
    unfold dHas
    rw [key_at h1 hk, List.any_cons, has_ok hk h3]
    by_cases e : q' = q
    · rw [decide_eq_true e]; rfl
    · rw [decide_eq_false e]; rfl
theorem has_look (k : PyData) : ∀ l, dHas k l = (dLook k l).isSome
  | [] => rfl
  | p :: l => by
    unfold dHas dLook
    cases deq p.1 k with
    | true => rfl
    | false => exact has_look k l
theorem repl_ok {k d : PyData} {q : Key} {v : V} (hk : keyOf k = some q) (hd : R K H d v) : ∀ {l : List (PyData × PyData)} {r : List (Key × V)}, Rk K H l r → Rk K H (dRepl k d l) (r.map fun kv => if kv.1 = q then (kv.1, v) else kv)
  | [], r, h => by rw [h.nil_inv]; exact .nil
  | p :: l, r, h => by
    obtain ⟨q', v', t, rfl, h1, h2, h3⟩ := h.cons_inv
    have ih := repl_ok hk hd h3
    unfold dRepl
    rw [key_at h1 hk, List.map_cons]
    by_cases e : q' = q
    · rw [decide_eq_true e, if_pos e]
      exact .cons h1 hd ih
    · rw [decide_eq_false e, if_neg e]
      exact .cons h1 h2 ih
theorem put_okD {k d : PyData} {q : Key} {v : V} (hk : keyOf k = some q) (hd : R K H d v) {l : List (PyData × PyData)} {r : List (Key × V)} (h : Rk K H l r) : Rk K H (dPut l k d) (putK r q v) := by
  unfold dPut putK
  rw [has_ok hk h]
  cases hh : r.any fun kv => decide (kv.1 = q) with
  | true => rw [if_pos rfl]; exact repl_ok hk hd h
  | false => rw [if_neg (by decide)]; exact h.append (.cons hk hd .nil)
end
def keyAt (l : List (PyData × PyData)) (b : PyData) : Option Key := match isTok l with | true => none | false => keyOf b
theorem keyAt_some {l : List (PyData × PyData)} {b : PyData} {q : Key} (h : keyAt l b = some q) : isTok l = false ∧ keyOf b = some q := by
  unfold keyAt at h
  cases e : isTok l with
  | true => rw [e] at h; cases h
  | false => rw [e] at h; exact ⟨rfl, h⟩
theorem key_nod {d : PyData} {q : Key} (h : keyOf d = some q) : nod d = true := by
  cases d <;> first | (cases h; done) | simp [nod]
theorem dget_rd {H : Hp} {a : Addr} {kvs : List (Key × V)} {k : Key} (e : Rd H a (.dK kvs)) : DGet H a (kV k) (valV kvs k) := .inl ⟨kvs, k, e, rfl, rfl⟩
/-! d[k] -/
def rIxK : R2 := fun x y H Q => ∃ a kws q v, x = .ref a ∧ y = kV q ∧ Rd H a (.dK kws) ∧ valV kws q = some v ∧ Q v H
def ixP2 (a b : PyData) : Option PyData := match a with
  | .dict l => (match keyAt l b with | some _ => dLook b l | none => none)
  | a => ixP a b
def inD (b a : PyData) : Option PyData := match a with
  | .dict l => (match keyAt l b with | some _ => some (.bool (dHas b l)) | none => none)
  | a => inP b a
section
variable {X : Cx}
theorem ix_dk : IxR X rIxK := by
  intro value slice pins s σ H x y v u Q I rx ry h hs
  obtain ⟨a, kws, q, z, rfl, rfl, e, l, qq⟩ := h
  cases rx
  obtain ⟨_, _, vs, rel, dd⟩ := dk_rd I.hok e
  obtain ⟨w', hw, rw'⟩ := RelO.some_of (v := z) (o := valueAt vs q) (by rw [← l]; exact rel.val q)
  exact subscriptTail_builtinR (x := w') dd.typeIs PySem.F.slot_dict_getitem.lookup (wpAny_getItem_of (kV_is ry) dd.mapOf hw ⟨rfl, z, H, I.tok _, rw', qq⟩) hs
theorem f_ix2 : OpF X.K (fun x y H Q => rIx X.K x y H Q ∨ rIxK x y H Q) ixP2 := by
  intro TT A H dx dy d x y Q e t rx ry k
  cases dx with
  | dict l =>
    have e' : (match keyAt l dy with | some _ => dLook dy l | none => none) = some d := e
    cases hk : keyAt l dy with
    | none => rw [hk] at e'; cases e'
    | some q =>
      rw [hk] at e'
      obtain ⟨nt, hk⟩ := keyAt_some hk
      obtain ⟨a, vs, e1, h1, r1⟩ := rx.dict nt
      have e' : dLook dy l = some d := e'
      have z := look_ok hk r1
      rw [e'] at z
      obtain ⟨v, z1, z2⟩ := z
      exact .inr ⟨a, vs, q, v, e1, key_val hk (ry.full (key_nod hk)), h1, z1, k v H (Sm.refl H) z2⟩
  | none => exact .inl (f_ix TT A H .none dy d x y Q e t rx ry k)
  | bool b => exact .inl (f_ix TT A H (.bool b) dy d x y Q e t rx ry k)
  | int b => exact .inl (f_ix TT A H (.int b) dy d x y Q e t rx ry k)
  | str b => exact .inl (f_ix TT A H (.str b) dy d x y Q e t rx ry k)
  | list b => exact .inl (f_ix TT A H (.list b) dy d x y Q e t rx ry k)
  | tuple b => exact .inl (f_ix TT A H (.tuple b) dy d x y Q e t rx ry k)
end
/-! k in d -/
def rInK : R2 := fun x y H Q => ∃ a kws q, y = .ref a ∧ x = kV q ∧ Rd H a (.dK kws) ∧ Q (.bl (kws.any fun kv => decide (kv.1 = q))) H
theorem valV_any (r : List (Key × V)) (q : Key) : (valV r q).isSome = r.any fun kv => decide (kv.1 = q) := by
  unfold valV
  rw [Option.isSome_map]
  induction r with
  | nil => rfl
  | cons p r ih =>
    rw [List.find?_cons, List.any_cons]
    by_cases e : p.1 = q
    · simp [e]
    · simpa [e] using ih
section
variable {X : Cx} {C : CT} {W : WX} {a b c o i : Expr} {ma mb mc : SG → Res PyData} {pos p ap cp apos cpos : Pos}
theorem op_inK (hu : X.A.units + 1 < cLine) : OpR X (compareOp .In) rInK := by
  intro pins s σ H x y v u Q I rx ry h
  obtain ⟨a, kws, q, rfl, rfl, e, k⟩ := h
  obtain rfl : u = Value.ref a := ry
  exact d_in hu I (dget_rd e) rx fun s' I' => ⟨.bl _, H, I', rfl, by rw [valV_any]; exact k⟩
theorem op_ninK (hu : X.A.units + 1 < cLine) : OpR X (compareOp .NotIn) (fun x y H Q => ∃ a kws q, y = .ref a ∧ x = kV q ∧ Rd H a (.dK kws) ∧ Q (.bl (!(kws.any fun kv => decide (kv.1 = q)))) H) := by
  intro pins s σ H x y v u Q I rx ry h
  obtain ⟨a, kws, q, rfl, rfl, e, k⟩ := h
  obtain rfl : u = Value.ref a := ry
  exact d_notIn hu I (dget_rd e) rx fun s' I' => ⟨.bl _, H, I', rfl, by rw [valV_any]; exact k⟩
def notInD (b a : PyData) : Option PyData := match a with
  | .dict l => (match keyAt l b with | some _ => some (.bool (!(dHas b l))) | none => none)
  | a => notInP b a
theorem f_inD {r : R2} (f : OpF X.K r inP) : OpF X.K (fun x y H Q => r x y H Q ∨ rInK x y H Q) inD := by
  intro TT A H dx dy d x y Q e t rx ry k
  cases dy with
  | dict l =>
    have e' : (match keyAt l dx with | some _ => some (PyData.bool (dHas dx l)) | none => none) = some d := e
    cases hk : keyAt l dx with
    | none => rw [hk] at e'; cases e'
    | some q =>
      rw [hk] at e'
      obtain ⟨nt, hk⟩ := keyAt_some hk
      obtain ⟨a, vs, e1, h1, r1⟩ := ry.dict nt
      cases e'
      refine .inr ⟨a, vs, q, e1, key_val hk (rx.full (key_nod hk)), h1, ?_⟩
      rw [← has_ok hk r1]
      exact k _ H (Sm.refl H) R.bool'
  | _ => exact .inl (f TT A H dx _ d x y Q e t rx ry k)
theorem f_ninD {r : R2} (f : OpF X.K r notInP) : OpF X.K (fun x y H Q => r x y H Q ∨ ∃ a kws q, y = .ref a ∧ x = kV q ∧ Rd H a (.dK kws) ∧ Q (.bl (!(kws.any fun kv => decide (kv.1 = q)))) H) notInD := by
  intro TT A H dx dy d x y Q e t rx ry k
  cases dy with
  | dict l =>
    have e' : (match keyAt l dx with | some _ => some (PyData.bool (!(dHas dx l))) | none => none) = some d := e
    cases hk : keyAt l dx with
    | none => rw [hk] at e'; cases e'
    | some q =>
      rw [hk] at e'
      obtain ⟨nt, hk⟩ := keyAt_some hk
      obtain ⟨a, vs, e1, h1, r1⟩ := ry.dict nt
      cases e'
      refine .inr ⟨a, vs, q, e1, key_val hk (rx.full (key_nod hk)), h1, ?_⟩
      rw [← has_ok hk r1]
      exact k _ H (Sm.refl H) R.bool'
  | _ => exact .inl (f TT A H dx _ d x y Q e t rx ry k)
end
/-! len(d) -/
def lenD (d : PyData) : Option PyData := match d with
  | .dict l => (match isTok l with | true => none | false => some (.int (l.length : Nat)))
  | d => lenP d
theorem cr_lenD {X : Cx} : CallR X (.builtin "len") (fun xs H Q => (∃ p ys, xs = [V.ref p] ∧ (SqL X.K H p ys ∨ SqT X.K H p ys) ∧ Q (.int ys.length) H) ∨ ∃ (a : Addr) (kvs : List (Key × V)), xs = [V.ref a] ∧ Rd H a (.dK kvs) ∧ Q (.int kvs.length) H) := by
  intro pins s σ H vs us Q I r h
  rcases h with h | h
  · exact call_len_seq pins s σ H vs us Q I r h
  · obtain ⟨a, kvs, rfl, ha, q⟩ := h
    obtain ⟨u, rfl, ru⟩ := vals1 r
    cases ru
    exact d_len I ha fun t s' I' => ⟨.int kvs.length, H, I', ⟨t, rfl⟩, q⟩
theorem f_lenD {X : Cx} : CallF X.K (fun xs H Q => (∃ p ys, xs = [V.ref p] ∧ (SqL X.K H p ys ∨ SqT X.K H p ys) ∧ Q (.int ys.length) H) ∨ ∃ (a : Addr) (kvs : List (Key × V)), xs = [V.ref a] ∧ Rd H a (.dK kvs) ∧ Q (.int kvs.length) H) lenD := by
  intro TT A H dx d x Q e t rx k
  cases dx with
  | dict l =>
    have e' : (match isTok l with | true => none | false => some (PyData.int (l.length : Nat))) = some d := e
    cases nt : isTok l with
    | true => rw [nt] at e'; cases e'
    | false =>
    rw [nt] at e'
    obtain ⟨a', vs, e1, h1, r1⟩ := rx.dict nt
    cases e'
    exact .inr ⟨a', vs, by rw [e1], h1, by rw [r1.length]; exact k _ H (Sm.refl H) R.int'⟩
  | none => exact .inl (f_len TT A H .none d x Q e t rx k)
  | bool b => exact .inl (f_len TT A H (.bool b) d x Q e t rx k)
  | int b => exact .inl (f_len TT A H (.int b) d x Q e t rx k)
  | str b => exact .inl (f_len TT A H (.str b) d x Q e t rx k)
  | list b => exact .inl (f_len TT A H (.list b) d x Q e t rx k)
  | tuple b => exact .inl (f_len TT A H (.tuple b) d x Q e t rx k)
theorem e_ix2 {X : Cx} {C : CT} {W : WX} {a b : Expr} {ma mb : SG → Res PyData} {pos : Pos} (ha : PE X a (TB X.K C W ma)) (hb : PE X b (TB X.K C W mb)) (hs : PlainIx b) : PE X (.Subscript a b pos) (T X.K C W (m2 ixP2 ma mb)) :=
  pe_imp (pe_ix (ix_seq.or ix_dk) ha hb hs) fun σ H Q h => two_ok f_ix2 h
end Ev

namespace Ev
variable [Wd]
open PySem PySem.Spec PyProof.Rows L2
open PySem.W.Z (ltB leB eqB ltB_iff leB_iff eqB_iff)

/-! new lists -/
/-- a list that was just made and that nobody else holds -/
def TN (K : PySem.W.Frag) (C : CT) (W : WX) (m : SG → Res (List PyData)) : TE := fun σ H Q => ∃ sg A, Rel K C A H sg σ ∧ Out K C A (fun cx dx H' => W cx dx σ H') H (m sg) fun l H' => ∀ p vs, H' p = none → Rs K (hid A H') l vs → Q (.ref p) (upd H' p (.lst vs))
def mFew (m : SG → Res (List PyData)) (sg : SG) : Res (List PyData) := (m sg).bind fun l => match few l.length with | true => .ok l | false => .bad
section
variable {X : Cx} {C : CT} {W : WX} {e a b tg iter elt : Expr} {es ifs : List Expr} {mt : SG → Res Bool} {mi ml mr : SG → Res (List PyData)} {m ma mb me : SG → Res PyData} {pos p : Pos}
theorem n_lst (h : PA X es (TL X.K C W mr)) : PE X (.List es pos) (TN X.K C W (mFew mr)) :=
  pe_imp (pe_lst h) fun σ H Q ⟨sg, A, rl, o⟩ => by
    refine ⟨sg, A, rl, o.bind.mono fun l H1 s1 o1 vs q => ?_⟩
    split at o1
    · rename_i hf
      exact ⟨by rw [q.length]; exact few_le hf, fun p hp => o1 H1 (Sm.refl _) p vs hp q⟩
    · exact o1.elim
def addL : PyData → PyData → Option (List PyData)
  | .list a, .list b => match few (a.length + b.length) with | true => some (a ++ b) | false => none
  | _, _ => none
def mAddL (ma mb : SG → Res PyData) (sg : SG) : Res (List PyData) := (ma sg).bind fun x => (mb sg).bind fun y => Res.of (addL x y)
theorem n_add (ha : PE X a (TB X.K C W ma)) (hb : PE X b (TB X.K C W mb)) : PE X (.BinOp a .Add b pos) (TN X.K C W (mAddL ma mb)) :=
  pe_imp (pe_op op_cat ha hb) fun σ H Q ⟨sg, A, rl, o⟩ => by
    refine ⟨sg, A, rl, o.bind.mono fun dx H1 s1 o1 x rx => ⟨sg, A, rl.mono s1, o1.bind.mono fun dy H2 s2 o2 y ry => ?_⟩⟩
    obtain ⟨d, e, k⟩ := o2.of
    unfold addL at e
    split at e
    · split at e
      · rename_i h
        cases e
        obtain ⟨p, vs, e1, h1, r1⟩ := (rx.mono s2.e).list
        obtain ⟨q, us, e2, h2, r2⟩ := ry.list
        exact ⟨p, q, vs, us, e1, e2, h1, h2, by rw [r1.length, r2.length]; exact few_le h, fun n hn => k H2 (Sm.refl _) n _ hn (r1.append r2)⟩
      · cases e
    · cases e
theorem e_of_new (h : PE X e (TN X.K C W mr)) : PE X e (T X.K C W fun sg => (mr sg).bind fun l => .ok (.list l)) :=
  pe_imp h fun σ H Q ⟨sg, A, rl, o⟩ => ⟨sg, A, rl, o.bind.mono fun l H1 s1 o1 p vs hp q => by
    have z := new_list (rl.mono s1).trk q hp
    exact o1 _ z.1 _ z.2⟩
def lstL : PyData → Option (List PyData)
  | .list l => some l
  | .tuple l => some l
  | _ => none
def m1L (f : PyData → Option (List PyData)) (ma : SG → Res PyData) (sg : SG) : Res (List PyData) := (ma sg).bind fun x => Res.of (f x)
def rgL : PyData → Option (List PyData)
  | .int i => match leB 0 i && leB i 100000 with | true => some (rgP 0 i.toNat) | false => none
  | _ => none

/-- a comprehension's list as a new one -/
def mLcN (t : Tg) (mi : SG → Res (List PyData)) (mt : SG → Res Bool) (me : SG → Res PyData) (vs : List Nat) (sg : SG) : Res (List PyData) := (mi sg).bind fun l => match few l.length with
  | true => lcGo t mt me (wipeS sg vs) l
  | false => .bad
theorem lc_okN {K : PySem.W.Frag} {W' : WX} {t : Tg} {vs : List Nat} (hsub : ∀ i ∈ t.ix, i ∈ vs) {σ : L2.St} {H1 : Hp} {sg : SG} {A : Ow} (rl : Rel K C A H1 sg σ) {l ys : List PyData} (hf : few l.length = true) (hys : lcGo t mt me (wipeS sg vs) l = .ok ys) {J : It} (hJ : ItOk K H1 (hid A H1) J l) {Q : VK}
    (k : ∀ H', Sm C.tabs H1 H' → ∀ p us, H' p = none → Rs K (hid A H') ys us → Q (.ref p) (upd H' p (.lst us))) (D : Addr) (hD : H1 D = none) :
    ∃ W : Nat → Nat → Hp → Prop, (∃ m, W 0 m (upd H1 D (.lst []))) ∧ ∀ i m H, W i m H →
      (J.stop i H ∧ Q (.ref D) H) ∨ (J.go i H ∧ ∃ Nx : Hp → Prop, (∀ H', Nx H' → ∃ m', m' < m ∧ W (i + 1) m' H') ∧ ∀ x H', J.yld i H x H' → gT K t x (wipe σ vs) H' fun σ2 H2 => wipe σ2 vs = wipe σ vs ∧ TP K C W' mt σ2 H2 fun b H3 =>
        if b = true then T K C W' me σ2 H3 fun y H4 => ∃ acc, H4 D = some (.lst acc) ∧ acc.length < sizeLine ∧ Nx (upd H4 D (.lst (acc ++ [y]))) else Nx H3) := by
  have hlen : ys.length ≤ l.length := lcGo_len hys
  have hfl := few_le hf
  let Pv : Nat → Hp → Prop := fun i H => Sm C.tabs H1 H ∧ Trk (own1 A D σ.length) H ∧ ∃ (vs' : List V) (done rest : List PyData), H D = some (.lst vs') ∧ Rs K (hid (own1 A D σ.length) H) done vs' ∧ lcGo t mt me (wipeS sg vs) (l.drop i) = .ok rest ∧ done ++ rest = ys ∧ done.length ≤ i
  refine ⟨fun i m H => m = l.length - i ∧ i ≤ l.length ∧ Pv i H, ⟨l.length, rfl, Nat.zero_le _, Sm.new hD, trk_own1 rl.trk hD, [], [], ys, upd_same .., Rs.nil, hys, rfl, Nat.le_refl _⟩, ?_⟩
  rintro i m H ⟨rfl, hi, s1, tr, vs', done, rest, hDv, hr, hrest, hsum, hdl⟩
  by_cases hlt : i < l.length
  · refine .inr ⟨hJ.go i H s1 hlt, Pv (i + 1), fun H' p' => ⟨l.length - (i + 1), by omega, rfl, hlt, p'⟩, fun x H' y => ?_⟩
    have hli : l[i]? = some l[i] := by simp [hlt]
    obtain ⟨s2', rx⟩ := hJ.yld (own1 A D σ.length) i H x H' l[i] s1 (hid_own1_sm hD s1) tr hli y
    have s2 := s2' C.tabs
    have hdrop : l.drop i = l[i] :: l.drop (i + 1) := List.drop_eq_getElem_cons hlt
    rw [hdrop] at hrest
    unfold lcGo at hrest
    have rl2 : Rel K C (own1 A D σ.length) H' (wipeS sg vs) (wipe σ vs) := rel_own1 (rel_wipe rl vs) hD (s1.trans s2) (tr.mono s2.e)
    split at hrest
    · rename_i sg' hset
      obtain ⟨b, hb, hrest⟩ := noX_ok hrest
      refine gT_ok hset rx rl2 fun σ' hσ rl' => ⟨wipe_same (by rw [← rl'.len, ← rl.len, setT_keep hset, wipeS_len]) fun j hj => hσ j fun z => hj (hsub j z), ?_⟩
      refine tp_ok rl' hb fun H3 s3 => ?_
      have tr3 := (tr.mono s2.e).mono s3.e
      have sH : Sm C.tabs H H3 := s2.trans s3
      cases b with
      | true =>
        rw [if_pos rfl]
        obtain ⟨y', he, hrest⟩ := noX_ok hrest
        obtain ⟨zs, hz, e2⟩ := bind_ok hrest
        cases e2
        refine t_ok (rl'.mono s3) he fun H4 s4 v rv => ⟨vs', s4.g _ _ (sH.g _ _ hDv), ?_, ?_⟩
        · rw [hr.length]; omega
        · have sH4 := sH.trans s4
          refine ⟨(s1.trans sH4).wr hD (sH4.g _ _ hDv) trivial, fun a h => ?_, vs' ++ [v], done ++ [y'], zs, upd_same .., ?_, hz, by rw [← hsum]; simp, by simp; omega⟩
          · by_cases ha : a = D
            · exact ⟨.lst (vs' ++ [v]), by rw [ha]; exact upd_same .., trivial⟩
            · obtain ⟨o, q, k⟩ := (tr3.mono s4.e) a h
              exact ⟨o, by rw [upd_ne ha]; exact q, k⟩
          · rw [hid_own1_upd]
            exact (hr.mono (hid_sm sH4)).append (.cons rv .nil)
      | false =>
        rw [if_neg (by decide)]
        exact ⟨s1.trans sH, tr3, vs', done, rest, sH.g _ _ hDv, hr.mono (hid_sm sH), hrest, hsum, by omega⟩
    · cases hrest
  · have e : i = l.length := by omega
    subst e
    rw [List.drop_length] at hrest
    cases hrest
    rw [List.append_nil] at hsum
    subst hsum
    let H' : Hp := fun b => if b = D then none else H b
    have hH : H = upd H' D (.lst vs') := by
      funext b
      by_cases hb : b = D
      · rw [hb, upd_same, hDv]
      · rw [upd_ne hb]; show _ = if b = D then none else H b; rw [if_neg hb]
    have sm : Sm C.tabs H1 H' := ⟨⟨fun a o e n => by
      have ha : a ≠ D := fun z => by rw [z, hD] at e; cases e
      show (if a = D then none else H a) = some o
      rw [if_neg ha]; exact s1.ex.at_ a o e n⟩, fun tt p hp => by
      obtain ⟨ps, h1, h2, h3⟩ := s1.tab tt p hp
      have hP : p.1 ≠ D := fun z => by rw [z, hDv] at h1; cases h1
      refine ⟨ps, by show (if p.1 = D then none else H p.1) = _; rw [if_neg hP]; exact h1, h2, fun pos cv hc => ?_⟩
      obtain ⟨c, e1, e2⟩ := h3 pos cv hc
      have hc : c ≠ D := fun z => by
        rw [z, hDv] at e2
        have e3 := Option.some.inj e2
        cases e3
      exact ⟨c, e1, by show (if c = D then none else H c) = _; rw [if_neg hc]; exact e2⟩, fun a e => by
      by_cases ha : a = D
      · rw [ha]; exact hD
      · have e : (if a = D then none else H a) = none := e
        rw [if_neg ha] at e; exact s1.live a e⟩
    have hD' : H' D = none := if_pos rfl
    have hh : hid (own1 A D σ.length) H = hid A H' := by
      have hAD : (A D).isSome = false := rl.trk.new hD
      funext b
      by_cases hb : b = D
      · subst hb
        unfold hid own1
        simp [hAD, hD']
      · rw [hid_own1 hb]
        unfold hid
        show _ = if (A b).isSome = true then none else (if b = D then none else H b)
        rw [if_neg hb]
    refine .inl ⟨hJ.stop H s1, ?_⟩
    rw [hh] at hr
    rw [hH]
    exact k H' sm D vs' hD' hr
theorem n_lc {W' : WX} {t : Tg} {scope : Scope} {own : List (Str × Nat)} (hc : X.calm = true) (hN : X.N.Nodup) (hi : PI X tg iter (TIt X.K C W true mi)) (ok : BlkOk X.N X.env.scope scope own)
    (hg : ∀ (s : Shared) (H : Hp) (Z : Addr) (cl : List (Str × Addr)) (fp : List Addr), PG (X.blk s H scope (compEnvC scope cl Z X.env) fp) tg (gT X.K t))
    (ht : ∀ (s : Shared) (H : Hp) (Z : Addr) (cl : List (Str × Addr)) (fp : List Addr), PTs (X.blk s H scope (compEnvC scope cl Z X.env) fp) ifs (TP X.K C W' mt))
    (he : ∀ (s : Shared) (H : Hp) (Z : Addr) (cl : List (Str × Addr)) (fp : List Addr), PE (X.blk s H scope (compEnvC scope cl Z X.env) fp) elt (T X.K C W' me))
    (hs : ∀ x, foldedSetIterable iter X.env x = pure x) (hsub : ∀ i ∈ t.ix, i ∈ own.map (·.2)) :
    PE X (.ListComp elt [⟨tg, iter, ifs, 0⟩] scope pos) (TN X.K C W (mLcN t mi mt me (own.map (·.2)))) :=
  pe_imp (pe_lc hc hN hi ok hg ht he hs) fun σ H Q ⟨sg, A, rl, o⟩ => by
    refine ⟨sg, A, rl, o.bind.mono fun l H1 s1 o1 J hJ D hD => ?_⟩
    have hJ' : ItOk X.K H1 (hid A H1) J l := hJ
    split at o1
    · rename_i hf
      cases hys : lcGo t mt me (wipeS sg (own.map (·.2))) l with
      | ok ys =>
        rw [hys] at o1
        exact lc_okN hsub (rl.mono s1) hf hys hJ' o1 D hD
      | exn c d => exact absurd hys lcGo_noexn
      | ask n f => exact absurd hys lcGo_noask
      | bad => rw [hys] at o1; exact o1.elim
    · exact o1.elim
/-- name = [..] on one line: the list is new -/
theorem lcN_read {W' : WX} {t : Tg} {vs : List Nat} (hsub : ∀ i ∈ t.ix, i ∈ vs) {σ : L2.St} {H : Hp} {Q : VK} (h : TN X.K C W (mLcN t mi mt me vs) σ H Q) : tLc (TIt X.K C W true mi) (gT X.K t) (TP X.K C W' mt) (T X.K C W' me) vs σ H Q := by
  obtain ⟨sg, A, rl, o⟩ := h
  refine ⟨sg, A, rl, o.bind.mono fun l H1 s1 o1 J hJ D hD => ?_⟩
  have hJ' : ItOk X.K H1 (hid A H1) J l := hJ
  split at o1
  · rename_i hf
    cases hys : lcGo t mt me (wipeS sg vs) l with
    | ok ys =>
      rw [hys] at o1
      exact lc_okN hsub (rl.mono s1) hf hys hJ' o1 D hD
    | exn c d => exact absurd hys lcGo_noexn
    | ask n f => exact absurd hys lcGo_noask
    | bad => rw [hys] at o1; exact o1.elim
  · exact o1.elim

/-! statements -/
inductive Fl where
  | nx (sg : SG)
  | rt (d : PyData)
/-- a body's owner table: what was there at its start is nobody's here; A0: what others own -/
structure Bod (TT : List (Addr × Str)) (A0 : Ow) (Hi : Hp) (n : Nat) (A : Ow) (H : Hp) : Prop where
  t0 : Trk A0 Hi
  sm : Sw TT Hi H
  ext : ∀ a, (A0 a).isSome = true → A a = some n
  new : ∀ a i, A a = some i → i < n → Hi a = none
theorem Bod.mono {TT : List (Addr × Str)} {A0 : Ow} {Hi : Hp} {n : Nat} {A : Ow} {H H' : Hp} (b : Bod TT A0 Hi n A H) (s : Sw TT H H') : Bod TT A0 Hi n A H' := ⟨b.t0, b.sm.trans s, b.ext, b.new⟩
/-- no draw lies between -/
def Tq (H H' : Hp) : Prop := ∀ T, H Wd.d = some (drO T) → H' Wd.d = some (drO T)
theorem Tq.refl (H : Hp) : Tq H H := fun _ e => e
theorem Tq.trans {H H1 H2 : Hp} (a : Tq H H1) (b : Tq H1 H2) : Tq H H2 := fun T e => b T (a T e)
theorem Tq.new {H : Hp} {p : Addr} {o : HO} (h : H p = none) : Tq H (upd H p o) := fun T e => by rw [upd_ne (ne_of_none e h)]; exact e
theorem Sw.new {TT : List (Addr × Str)} {H : Hp} {p : Addr} {o : HO} (h : H p = none) : Sw TT H (upd H p o) := (Sm.new h).w
theorem Tq.wr {H : Hp} {p : Addr} {o o' : HO} (h : H p = some o) (m : mu o) : Tq H (upd H p o') := fun T e => by
  have hp : Wd.d ≠ p := fun z => by
    rw [z, h] at e
    exact m.nd T (Option.some.inj e)
  rw [upd_ne hp]; exact e
theorem Sm.tq {TT : List (Addr × Str)} {H H' : Hp} (s : Sm TT H H') : Tq H H' := fun _ e => s.ex.at_ _ _ e trivial
theorem Exs.tq {H H' : Hp} (s : Exs H H') : Tq H H' := fun _ e => s.at_ _ _ e trivial
theorem drn_tq {H H' : Hp} {T : Nat} (s : Tq H H') : Tq (drn H T) (drn H' T) := fun T' e => by
  unfold drn at e ⊢
  rw [upd_same] at e ⊢; exact e
theorem drn_hid {A A1 : Ow} {H H1 : Hp} {T : Nat} (e : H Wd.d = some (drO T)) (s : Ex (hid A H) (hid A1 H1)) : Ex (hid A (drn H T)) (hid A1 (drn H1 T)) := by
  refine ⟨fun a o q n k => ?_, fun T' q => ?_⟩
  · by_cases ha : a = Wd.d
    · subst ha
      unfold hid drn at q
      split at q
      · cases q
      · rw [upd_same] at q
        cases q
        rcases k with k | k
        · exact absurd rfl k
        · exact absurd rfl (k (T + 1))
    · have z : ∀ (B : Ow) (G : Hp), hid B (drn G T) a = hid B G a := fun B G => by
        unfold hid drn; rw [upd_ne ha]
      rw [z] at q ⊢
      exact s.at_ a o q n k
  · have h1 : A Wd.d = none := by
      unfold hid at q
      split at q
      · cases q
      · rename_i z
        cases h : A Wd.d with
        | none => rfl
        | some _ => rw [h] at z; exact absurd rfl z
    have h0 : hid A H Wd.d = some (drO T) := by
      unfold hid
      rw [h1]; exact e
    obtain ⟨T1, h2⟩ := s.dr T h0
    have h3 : ¬ (A1 Wd.d).isSome = true := fun z => by
      unfold hid at h2
      rw [if_pos z] at h2; cases h2
    exact ⟨T + 1, by unfold hid drn; rw [if_neg h3, upd_same]⟩
def SOut (K : PySem.W.Frag) (C : CT) (E : XK) (A0 : Ow) (Hi : Hp) (D : Ends) (n : Nat) (A : Ow) (H : Hp) (r : Res Fl) : Prop := match r with
  | .ok (.nx sg') => ∀ σ' A' H', Rel K C A' H' sg' σ' → σ'.length = n → Bod C.tabs A0 Hi n A' H' → Tq H H' → Ex (hid A H) (hid A' H') → D.nx σ' H'
  | .ok (.rt d) => ∀ A' H' v, Bod C.tabs A0 Hi n A' H' → Trk A' H' → Tq H H' → R K (hid A' H') d v → D.rt v H'
  | .exn c d => ∀ A' H' cx dx, Bod C.tabs A0 Hi n A' H' → Trk A' H' → Tq H H' → XR K C (hid A' H') c d cx dx → E cx dx H'
  | .bad => False
  | .ask m f => (0 < m ∧ m ≤ 100000) ∧ ∃ T, H Wd.d = some (drO T) ∧ T < 900000 ∧ ∀ r, 0 ≤ r → r < m → SOut K C E A0 Hi D n A (drn H T) (f r)
def TSt (K : PySem.W.Frag) (C : CT) (E : XK) (m : SG → Res Fl) : TS := fun D σ H => ∃ sg A A0 Hi, Rel K C A H sg σ ∧ Bod C.tabs A0 Hi σ.length A H ∧ SOut K C E A0 Hi D σ.length A H (m sg)
abbrev WE (E : XK) : WX := fun cx dx _ H => E cx dx H
theorem SOut.from {K : PySem.W.Frag} {E : XK} {A0 A A1 : Ow} {Hi H H1 : Hp} {D : Ends} {n : Nat} {r : Res Fl} (o : SOut K C E A0 Hi D n A H r) (s : Ex (hid A H) (hid A1 H1)) (q : Tq H H1) : SOut K C E A0 Hi D n A1 H1 r := by
  induction r generalizing H H1 with
  | ok f =>
    cases f with
    | nx sg' => exact fun σ' A' H' r l b q' s' => o σ' A' H' r l b (q.trans q') (s.trans s')
    | rt d => exact fun A' H' v b t q' r => o A' H' v b t (q.trans q') r
  | exn c d => exact fun A' H' cx dx b t q' r => o A' H' cx dx b t (q.trans q') r
  | bad => exact o
  | ask m f ih =>
    obtain ⟨o1, T, e, o2, o3⟩ := o
    exact ⟨o1, T, q T e, o2, fun r h0 h1 => ih r (o3 r h0 h1) (drn_hid e s) (drn_tq q)⟩
theorem SOut.bind {α : Type} {K : PySem.W.Frag} {E : XK} {A0 A : Ow} {Hi H : Hp} {D : Ends} {σ : L2.St} {n : Nat} {m : Res α} {f : α → Res Fl} (b : Bod C.tabs A0 Hi n A H) (o : SOut K C E A0 Hi D n A H (m.bind f)) :
    Out K C A (fun cx dx H' => WE E cx dx σ H') H m fun a H1 => SOut K C E A0 Hi D n A H1 (f a) := by
  induction m generalizing H with
  | ok a => exact fun H1 s => o.from (hid_sm s) s.tq
  | exn c d => exact fun H1 cx dx s t x => o A H1 cx dx (b.mono s) t s.tq x
  | bad => exact o
  | ask m f ih =>
    obtain ⟨o1, T, e, o2, o3⟩ := o
    exact ⟨o1, T, e, o2, fun r h0 h1 => ih r (b.mono (drn_sw e)) (o3 r h0 h1)⟩
/-- what follows a statement -/
theorem SOut.then {K : PySem.W.Frag} {E : XK} {A0 A : Ow} {Hi H : Hp} {D D' : Ends} {n : Nat} {m : Res Fl} {f : Fl → Res Fl} (o : SOut K C E A0 Hi D n A H (m.bind f))
    (hn : ∀ H1 sg', Sw C.tabs H H1 → SOut K C E A0 Hi D n A H1 (f (.nx sg')) → SOut K C E A0 Hi D' n A H1 (.ok (.nx sg'))) (hr : ∀ H1 d, SOut K C E A0 Hi D n A H1 (f (.rt d)) → SOut K C E A0 Hi D' n A H1 (.ok (.rt d))) : SOut K C E A0 Hi D' n A H m := by
  induction m generalizing H with
  | ok a =>
    cases a with
    | nx sg' => exact hn H sg' (Sm.refl H).w o
    | rt d => exact hr H d o
  | exn c d => exact o
  | bad => exact o
  | ask m f ih =>
    obtain ⟨o1, T, e, o2, o3⟩ := o
    exact ⟨o1, T, e, o2, fun r h0 h1 => ih r (o3 r h0 h1) fun H1 sg' s => hn H1 sg' ((drn_sw e).trans s)⟩
variable {E : XK} {st : Stmt} {sts : List Stmt} {ms mr' : SG → Res Fl}
theorem ps_imp {t t' : TS} (h : PS X st t) (i : ∀ D σ H, t' D σ H → t D σ H) : PS X st t' := ⟨fun pins s σ H D I q => h.run pins s σ H D I (i D σ H q)⟩
theorem pss_imp {t t' : TS} (h : PSs X sts t) (i : ∀ D σ H, t' D σ H → t D σ H) : PSs X sts t' := ⟨fun pins s σ H D I q => h.run pins s σ H D I (i D σ H q)⟩
def mNext (sg : SG) : Res Fl := .ok (.nx sg)
def mThen (a b : SG → Res Fl) (sg : SG) : Res Fl := (a sg).bind fun f => match f with | .nx sg' => b sg' | .rt d => .ok (.rt d)
theorem s_nil : PSs X [] (TSt X.K C E mNext) := pss_imp pss_nil fun D σ H ⟨sg, A, A0, Hi, rl, b, o⟩ => o σ A H rl rfl b (Tq.refl _) (Ex.refl _)
theorem seq_ok {K : PySem.W.Frag} {D : Ends} {σ : L2.St} {H : Hp} (h : TSt K C E (mThen ms mr') D σ H) : tSeq (TSt K C E ms) (TSt K C E mr') D σ H := by
  obtain ⟨sg, A, A0, Hi, rl, b, o⟩ := h
  refine ⟨sg, A, A0, Hi, rl, b, ?_⟩
  refine SOut.then o (fun H1 sg' _ o' => ?_) fun H1 d o' => o'
  intro σ' A' H' r l b' q s
  exact ⟨sg', A', A0, Hi, r, by rw [l]; exact b', by rw [l]; exact o'.from s q⟩
theorem s_cons (h1 : PS X st (TSt X.K C E ms)) (h2 : PSs X sts (TSt X.K C E mr')) : PSs X (st :: sts) (TSt X.K C E (mThen ms mr')) := pss_imp (pss_cons h1 h2) fun D σ H h => seq_ok h
end
end Ev

namespace Ev
variable [Wd]
open PySem PySem.Spec PyProof.Rows L2

/-! [e for .. in .. if .. for .. in .. if ..] -/
def lcGo2 (t : Tg) (mt : SG → Res Bool) (mi2 : SG → Res (List PyData)) (t2 : Tg) (mt2 : SG → Res Bool) (me : SG → Res PyData) (us : List Nat) (sg : SG) : List PyData → Res (List PyData)
  | [] => .ok []
  | d :: r => match setT t d sg with
    | some sg' => (noX (mt sg')).bind fun b => match b with
      | true => (noX (mi2 sg')).bind fun l2 => (lcGo t2 mt2 me (wipeS sg' us) l2).bind fun ys => (lcGo2 t mt mi2 t2 mt2 me us sg r).bind fun zs => .ok (ys ++ zs)
      | false => lcGo2 t mt mi2 t2 mt2 me us sg r
    | none => .bad
def mLc2 (t : Tg) (mi : SG → Res (List PyData)) (mt : SG → Res Bool) (mi2 : SG → Res (List PyData)) (t2 : Tg) (mt2 : SG → Res Bool) (me : SG → Res PyData) (vs us : List Nat) (sg : SG) : Res (List PyData) := (mi sg).bind fun l => (noX (lcGo2 t mt mi2 t2 mt2 me us (wipeS sg vs) l)).bind fun ys => match few ys.length with
  | true => .ok ys
  | false => .bad
/-- all but D stays -/
structure Off (TT : List (Addr × Str)) (D : Addr) (H H' : Hp) : Prop where
  ex : ∀ b o, b ≠ D → H b = some o → nt o → H' b = some o
  tab : LamX.Tabs TT H → LamX.Tabs TT H'
theorem Off.refl {TT : List (Addr × Str)} {D : Addr} {H : Hp} : Off TT D H H := ⟨fun _ _ _ e _ => e, fun t => t⟩
theorem Off.trans {TT : List (Addr × Str)} {D : Addr} {H H1 H2 : Hp} (a : Off TT D H H1) (b : Off TT D H1 H2) : Off TT D H H2 := ⟨fun x o h e n => b.ex x o h (a.ex x o h e n) n, fun t => b.tab (a.tab t)⟩
theorem Off.sm {TT : List (Addr × Str)} {D : Addr} {H H' : Hp} (s : Sm TT H H') : Off TT D H H' := ⟨fun b o _ e n => s.ex.at_ b o e n, s.tab⟩
theorem Off.wr {TT : List (Addr × Str)} {D : Addr} {H : Hp} {o o' : HO} (h : H D = some o) (m : mu o) : Off TT D H (upd H D o') := ⟨fun b u hb e _ => by rw [upd_ne hb]; exact e, fun t p hp => TabS.upd h m (t p hp)⟩
theorem Off.hid {TT : List (Addr × Str)} {D : Addr} {H H' : Hp} {A : Ow} (s : Off TT D H H') (hA : (A D).isSome = true) : Exs (hid A H) (hid A H') := ⟨fun b o e n => by
  have hb : b ≠ D := fun z => by
    unfold Ev.hid at e
    rw [z, if_pos hA] at e; cases e
  unfold Ev.hid at e ⊢
  split at e
  · cases e
  · rename_i q; rw [if_neg q]; exact s.ex b o hb e n⟩
theorem Rel.off {K : PySem.W.Frag} {C : CT} {A : Ow} {D : Addr} {n : Nat} {H H' : Hp} {sg : SG} {σ : L2.St} (r : Rel K C A H sg σ) (s : Off C.tabs D H H') (hA : A D = some n) (hn : σ.length ≤ n) (t : Trk A H') : Rel K C A H' sg σ := by
  have hx : Ex (hid A H) (hid A H') := (s.hid (by rw [hA]; rfl)).w
  refine r.keep (fun j b u hj e1 e2 mm => ?_) hx t (s.tab r.tab)
  have hb : b ≠ D := fun z => by
    rw [z, hA] at e1
    cases e1
    omega
  exact ⟨e1, s.ex b u hb e2 mm.nt⟩
theorem own1_at {A : Ow} {D : Addr} {n : Nat} : own1 A D n D = some n := by unfold own1; rw [if_pos rfl]
section
variable {X : Cx} {C : CT} {W : WX} {tg iter elt tg1 iter1 : Expr} {ifs ifs1 : List Expr} {mt mt2 : SG → Res Bool} {mi mi2 : SG → Res (List PyData)} {me : SG → Res PyData} {pos : Pos}
/-- the state of a list that is being made at D: what is in it -/
structure Grow (K : PySem.W.Frag) (C : CT) (A : Ow) (H1 : Hp) (D : Addr) (n : Nat) (done : List PyData) (H : Hp) : Prop where
  sm : Sm C.tabs H1 H
  trk : Trk (own1 A D n) H
  has : ∃ vs, H D = some (.lst vs) ∧ Rs K (hid (own1 A D n) H) done vs
theorem Grow.mono {K : PySem.W.Frag} {A : Ow} {H1 H H' : Hp} {D : Addr} {n : Nat} {done : List PyData} (g : Grow K C A H1 D n done H) (s : Sm C.tabs H H') : Grow K C A H1 D n done H' := by
  obtain ⟨vs, h1, h2⟩ := g.has
  exact ⟨g.sm.trans s, g.trk.mono s.e, vs, s.g _ _ h1, h2.mono (hid_sm s)⟩
theorem Grow.add {K : PySem.W.Frag} {A : Ow} {H1 H : Hp} {D : Addr} {n : Nat} {done : List PyData} {y : PyData} {v : V} (g : Grow K C A H1 D n done H) (hD : H1 D = none) (r : R K (hid (own1 A D n) H) y v) :
    ∃ vs, H D = some (.lst vs) ∧ vs.length = done.length ∧ Grow K C A H1 D n (done ++ [y]) (upd H D (.lst (vs ++ [v]))) ∧ Off C.tabs D H (upd H D (.lst (vs ++ [v]))) := by
  obtain ⟨vs, h1, h2⟩ := g.has
  refine ⟨vs, h1, h2.length, ⟨g.sm.wr hD h1 trivial, fun a h => ?_, vs ++ [v], upd_same, ?_⟩, Off.wr h1 trivial⟩
  · by_cases ha : a = D
    · exact ⟨.lst (vs ++ [v]), by rw [ha]; exact upd_same, trivial⟩
    · obtain ⟨o, q, k⟩ := g.trk a h
      exact ⟨o, by rw [upd_ne ha]; exact q, k⟩
  · rw [hid_own1_upd]
    exact h2.append (.cons r .nil)
/-- the inner loop -/
theorem lc_in {K : PySem.W.Frag} {W' : WX} {t : Tg} {vs : List Nat} (hsub : ∀ i ∈ t.ix, i ∈ vs) {σ : L2.St} {H1 H4 : Hp} {sg : SG} {A : Ow} {D : Addr} {n : Nat} (hD : H1 D = none) (hn : σ.length ≤ n) (rl : Rel K C (own1 A D n) H4 sg σ) {l ys done0 : List PyData} (hb : done0.length + ys.length < sizeLine)
    (hys : lcGo t mt me (wipeS sg vs) l = .ok ys) {J : It} (hJ : ItOk K (hid (own1 A D n) H4) (hid (own1 A D n) H4) J l) (g0 : Grow K C A H1 D n done0 H4) {Nx : Hp → Prop} (k : ∀ H, Grow K C A H1 D n (done0 ++ ys) H → Off C.tabs D H4 H → Nx H) :
    ∃ W : Nat → Nat → Hp → Prop, (∃ m, W 0 m H4) ∧ ∀ i m H, W i m H →
      (J.stop i H ∧ Nx H) ∨ (J.go i H ∧ ∃ Nx1 : Hp → Prop, (∀ H', Nx1 H' → ∃ m', m' < m ∧ W (i + 1) m' H') ∧ ∀ x H', J.yld i H x H' → gT K t x (wipe σ vs) H' fun σ2 H2 => wipe σ2 vs = wipe σ vs ∧ TP K C W' mt σ2 H2 fun b H3 =>
        if b = true then T K C W' me σ2 H3 fun y H4 => ∃ acc, H4 D = some (.lst acc) ∧ acc.length < sizeLine ∧ Nx1 (upd H4 D (.lst (acc ++ [y]))) else Nx1 H3) := by
  have hA : own1 A D n D = some n := own1_at
  have hAs : (own1 A D n D).isSome = true := by rw [hA]; rfl
  let Pv : Nat → Hp → Prop := fun i H => Off C.tabs D H4 H ∧ ∃ done rest : List PyData, Grow K C A H1 D n (done0 ++ done) H ∧ lcGo t mt me (wipeS sg vs) (l.drop i) = .ok rest ∧ done ++ rest = ys
  refine ⟨fun i m H => m = l.length - i ∧ i ≤ l.length ∧ Pv i H, ⟨l.length, rfl, Nat.zero_le _, Off.refl, [], ys, by rw [List.append_nil]; exact g0, hys, rfl⟩, ?_⟩
  rintro i m H ⟨rfl, hi, of, done, rest, g, hrest, hsum⟩
  have hxf : Ex (hid (own1 A D n) H4) H := (of.hid hAs).w.trans hid_le
  by_cases hlt : i < l.length
  · refine .inr ⟨hJ.go i H hxf hlt, Pv (i + 1), fun H' p' => ⟨l.length - (i + 1), by omega, rfl, hlt, p'⟩, fun x H' y => ?_⟩
    have hli : l[i]? = some l[i] := by simp [hlt]
    obtain ⟨s2', rx⟩ := hJ.yld (own1 A D n) i H x H' l[i] hxf (of.hid hAs) g.trk hli y
    have s2 := s2' C.tabs
    have hdrop : l.drop i = l[i] :: l.drop (i + 1) := List.drop_eq_getElem_cons hlt
    rw [hdrop] at hrest
    unfold lcGo at hrest
    have rl2 : Rel K C (own1 A D n) H' (wipeS sg vs) (wipe σ vs) := (rel_wipe rl vs).off (of.trans (.sm s2)) hA (by rw [wipe_length]; exact hn) (g.trk.mono s2.e)
    split at hrest
    · rename_i sg' hset
      obtain ⟨b, hb', hrest⟩ := noX_ok hrest
      refine gT_ok hset rx rl2 fun σ' hσ rl' => ⟨wipe_same (by rw [← rl'.len, ← rl.len, setT_keep hset, wipeS_len]) fun j hj => hσ j fun z => hj (hsub j z), ?_⟩
      refine tp_ok rl' hb' fun H3 s3 => ?_
      have sH : Sm C.tabs H H3 := s2.trans s3
      cases b with
      | true =>
        rw [if_pos rfl]
        obtain ⟨y', he, hrest⟩ := noX_ok hrest
        obtain ⟨zs, hz, e2⟩ := bind_ok hrest
        cases e2
        refine t_ok (rl'.mono s3) he fun H5 s4 v rv => ?_
        have sH5 := sH.trans s4
        obtain ⟨acc, a1, a2, a3, a4⟩ := (g.mono sH5).add (y := y') (v := v) hD rv
        refine ⟨acc, a1, ?_, (of.trans (.sm sH5)).trans a4, done ++ [y'], zs, ?_, hz, by rw [← hsum]; simp⟩
        · rw [a2, List.length_append]
          rw [← hsum, List.length_append] at hb
          simp at hb
          omega
        · rw [← List.append_assoc]; exact a3
      | false =>
        rw [if_neg (by decide)]
        exact ⟨of.trans (.sm sH), done, rest, g.mono sH, hrest, hsum⟩
    · cases hrest
  · have e : i = l.length := by omega
    subst e
    rw [List.drop_length] at hrest
    cases hrest
    rw [List.append_nil] at hsum
    subst hsum
    exact .inl ⟨hJ.stop H hxf, k H g of⟩
theorem lcGo2_noexn {t t2 : Tg} {us : List Nat} {sg : SG} : ∀ {l : List PyData} {c : Nat} {d : PyData}, noX (lcGo2 t mt mi2 t2 mt2 me us sg l) ≠ .exn c d := fun {l c d} h => by
  cases q : lcGo2 t mt mi2 t2 mt2 me us sg l <;> (rw [q] at h; cases h)
/-- the list, made -/
theorem lc2_okN {K : PySem.W.Frag} {W' W2 : WX} {t t2 : Tg} {vs us : List Nat} (hsub : ∀ i ∈ t.ix, i ∈ vs) (hsub2 : ∀ i ∈ t2.ix, i ∈ us) {σ : L2.St} {H1 : Hp} {sg : SG} {A : Ow} (rl : Rel K C A H1 sg σ) {l ys : List PyData} (hf : few ys.length = true)
    (hys : lcGo2 t mt mi2 t2 mt2 me us (wipeS sg vs) l = .ok ys) {J : It} (hJ : ItOk K H1 (hid A H1) J l) {Q : VK} (k : ∀ H', Sm C.tabs H1 H' → ∀ p us, H' p = none → Rs K (hid A H') ys us → Q (.ref p) (upd H' p (.lst us))) (D : Addr) (hD : H1 D = none) :
    ∃ W : Nat → Nat → Hp → Prop, (∃ m, W 0 m (upd H1 D (.lst []))) ∧ ∀ i m H, W i m H →
      (J.stop i H ∧ Q (.ref D) H) ∨ (J.go i H ∧ ∃ Nx : Hp → Prop, (∀ H', Nx H' → ∃ m', m' < m ∧ W (i + 1) m' H') ∧ ∀ x H', J.yld i H x H' → gT K t x (wipe σ vs) H' fun σ2 H2 => wipe σ2 vs = wipe σ vs ∧ TP K C W' mt σ2 H2 fun b H3 =>
        if b = true then TIt K C W2 false mi2 σ2 H3 fun J1 H4 => ∃ W1 : Nat → Nat → Hp → Prop, (∃ m, W1 0 m H4) ∧ ∀ j k H, W1 j k H →
          (J1.stop j H ∧ Nx H) ∨ (J1.go j H ∧ ∃ Nx1 : Hp → Prop, (∀ H', Nx1 H' → ∃ k', k' < k ∧ W1 (j + 1) k' H') ∧ ∀ x H', J1.yld j H x H' → gT K t2 x (wipe σ2 us) H' fun σ3 H5 => wipe σ3 us = wipe σ2 us ∧ TP K C W' mt2 σ3 H5 fun b H6 =>
            if b = true then T K C W' me σ3 H6 fun y H7 => ∃ acc, H7 D = some (.lst acc) ∧ acc.length < sizeLine ∧ Nx1 (upd H7 D (.lst (acc ++ [y]))) else Nx1 H6)
        else Nx H3) := by
  have hfl := few_le hf
  have hsz : ys.length < sizeLine := by
    have h' : ys.length ≤ 100000 := Nat.le_of_ble_eq_true hf
    rw [sizeLine_eq]; omega
  let Pv : Nat → Hp → Prop := fun i H => ∃ done rest : List PyData, Grow K C A H1 D σ.length done H ∧ lcGo2 t mt mi2 t2 mt2 me us (wipeS sg vs) (l.drop i) = .ok rest ∧ done ++ rest = ys
  refine ⟨fun i m H => m = l.length - i ∧ i ≤ l.length ∧ Pv i H, ⟨l.length, rfl, Nat.zero_le _, [], ys, ⟨Sm.new hD, trk_own1 rl.trk hD, [], upd_same, Rs.nil⟩, hys, rfl⟩, ?_⟩
  rintro i m H ⟨rfl, hi, done, rest, g, hrest, hsum⟩
  by_cases hlt : i < l.length
  · refine .inr ⟨hJ.go i H g.sm hlt, Pv (i + 1), fun H' p' => ⟨l.length - (i + 1), by omega, rfl, hlt, p'⟩, fun x H' y => ?_⟩
    have hli : l[i]? = some l[i] := by simp [hlt]
    obtain ⟨s2', rx⟩ := hJ.yld (own1 A D σ.length) i H x H' l[i] g.sm (hid_own1_sm hD g.sm) g.trk hli y
    have s2 := s2' C.tabs
    have hdrop : l.drop i = l[i] :: l.drop (i + 1) := List.drop_eq_getElem_cons hlt
    rw [hdrop] at hrest
    unfold lcGo2 at hrest
    have rl2 : Rel K C (own1 A D σ.length) H' (wipeS sg vs) (wipe σ vs) := rel_own1 (rel_wipe rl vs) hD (g.sm.trans s2) (g.trk.mono s2.e)
    split at hrest
    · rename_i sg' hset
      obtain ⟨b, hb', hrest⟩ := noX_ok hrest
      refine gT_ok hset rx rl2 fun σ' hσ rl' => ?_
      have hlen : σ'.length = σ.length := by rw [← rl'.len, ← rl.len, setT_keep hset, wipeS_len]
      refine ⟨wipe_same hlen fun j hj => hσ j fun z => hj (hsub j z), ?_⟩
      refine tp_ok rl' hb' fun H3 s3 => ?_
      have sH : Sm C.tabs H H3 := s2.trans s3
      cases b with
      | true =>
        rw [if_pos rfl]
        obtain ⟨l2, h2, hrest⟩ := noX_ok hrest
        obtain ⟨y1, hy1, hrest⟩ := bind_ok hrest
        obtain ⟨zs, hz, e2⟩ := bind_ok hrest
        cases e2
        refine ⟨sg', own1 A D σ.length, rl'.mono s3, by
          rw [h2]
          intro H4 s4 J1 hJ1
          refine lc_in (W' := W') hsub2 hD (by rw [hlen]; exact Nat.le_refl _) ((rl'.mono s3.w).mono s4.w) (done0 := done) (ys := y1) ?_ hy1 hJ1 ((g.mono sH).mono s4) fun H5 g5 o5 => ⟨done ++ y1, zs, g5, hz, by rw [← hsum]; simp⟩
          rw [← hsum] at hsz
          simp at hsz
          omega⟩
      | false =>
        rw [if_neg (by decide)]
        exact ⟨done, rest, g.mono sH, hrest, hsum⟩
    · cases hrest
  · have e : i = l.length := by omega
    subst e
    rw [List.drop_length] at hrest
    cases hrest
    rw [List.append_nil] at hsum
    subst hsum
    obtain ⟨vs', hDv, hr⟩ := g.has
    let H' : Hp := fun b => if b = D then none else H b
    have hH : H = upd H' D (.lst vs') := by
      funext b
      by_cases hb : b = D
      · rw [hb, upd_same, hDv]
      · rw [upd_ne hb]; show _ = if b = D then none else H b; rw [if_neg hb]
    have hat : ∀ {b : Addr}, b ≠ D → H' b = H b := fun {b} hb => if_neg hb
    have sm : Sm C.tabs H1 H' := by
      refine ⟨⟨fun a o e n => ?_⟩, fun tt p hp => ?_, fun a e => ?_⟩
      · rw [hat fun z => by rw [z, hD] at e; cases e]; exact g.sm.ex.at_ a o e n
      · obtain ⟨ps, h1, h2, h3⟩ := g.sm.tab tt p hp
        refine ⟨ps, by rw [hat fun z => by rw [z, hDv] at h1; cases h1]; exact h1, h2, fun pos cv hc => ?_⟩
        obtain ⟨c, e1, e2⟩ := h3 pos cv hc
        refine ⟨c, e1, by
          rw [hat fun z => by
            rw [z, hDv] at e2
            have e3 := Option.some.inj e2
            cases e3]
          exact e2⟩
      · by_cases ha : a = D
        · rw [ha]; exact hD
        · rw [hat ha] at e; exact g.sm.live a e
    have hD' : H' D = none := if_pos rfl
    have hh : hid (own1 A D σ.length) H = hid A H' := by
      have hAD : (A D).isSome = false := rl.trk.new hD
      funext b
      by_cases hb : b = D
      · subst hb
        unfold hid own1
        simp [hAD, hD']
      · rw [hid_own1 hb]
        unfold hid
        rw [hat hb]
    refine .inl ⟨hJ.stop H g.sm, ?_⟩
    rw [hh] at hr
    rw [hH]
    exact k H' sm D vs' hD' hr
theorem n_lc2 {W' W2 : WX} {t t2 : Tg} {us : List Nat} {scope : Scope} {own : List (Str × Nat)} (hc : X.calm = true) (hN : X.N.Nodup) (hi : PI X tg iter (TIt X.K C W true mi)) (ok : BlkOk X.N X.env.scope scope own) (hv : ∀ i ∈ us, i ∈ own.map (·.2))
    (hg : ∀ (s : Shared) (H : Hp) (Z : Addr) (cl : List (Str × Addr)) (fp : List Addr), PG (X.blk s H scope (compEnvC scope cl Z X.env) fp) tg (gT X.K t))
    (ht : ∀ (s : Shared) (H : Hp) (Z : Addr) (cl : List (Str × Addr)) (fp : List Addr), PTs (X.blk s H scope (compEnvC scope cl Z X.env) fp) ifs (TP X.K C W' mt))
    (hi1 : ∀ (s : Shared) (H : Hp) (Z : Addr) (cl : List (Str × Addr)) (fp : List Addr), PI (X.blk s H scope (compEnvC scope cl Z X.env) fp) tg1 iter1 (TIt X.K C W2 false mi2))
    (hg1 : ∀ (s : Shared) (H : Hp) (Z : Addr) (cl : List (Str × Addr)) (fp : List Addr), PG (X.blk s H scope (compEnvC scope cl Z X.env) fp) tg1 (gT X.K t2))
    (ht1 : ∀ (s : Shared) (H : Hp) (Z : Addr) (cl : List (Str × Addr)) (fp : List Addr), PTs (X.blk s H scope (compEnvC scope cl Z X.env) fp) ifs1 (TP X.K C W' mt2))
    (he : ∀ (s : Shared) (H : Hp) (Z : Addr) (cl : List (Str × Addr)) (fp : List Addr), PE (X.blk s H scope (compEnvC scope cl Z X.env) fp) elt (T X.K C W' me))
    (hs : ∀ x, foldedSetIterable iter X.env x = pure x) (hs1 : ∀ env x, foldedSetIterable iter1 env x = pure x) (hsub : ∀ i ∈ t.ix, i ∈ own.map (·.2)) (hsub2 : ∀ i ∈ t2.ix, i ∈ us) :
    PE X (.ListComp elt [⟨tg, iter, ifs, 0⟩, ⟨tg1, iter1, ifs1, 0⟩] scope pos) (TN X.K C W (mLc2 t mi mt mi2 t2 mt2 me (own.map (·.2)) us)) :=
  pe_imp (pe_lc2 hc hN hi ok hv hg ht hi1 hg1 ht1 he hs hs1) fun σ H Q ⟨sg, A, rl, o⟩ => by
    refine ⟨sg, A, rl, o.bind.mono fun l H1 s1 o1 J hJ D hD => ?_⟩
    have hJ' : ItOk X.K H1 (hid A H1) J l := hJ
    cases hys : lcGo2 t mt mi2 t2 mt2 me us (wipeS sg (own.map (·.2))) l with
    | ok ys =>
      rw [hys] at o1
      have o2 : Out X.K C A (fun cx dx H' => W cx dx σ H') H1 (match few ys.length with | true => Res.ok ys | false => .bad) (fun l H' => ∀ p vs, H' p = none → Rs X.K (hid A H') l vs → Q (.ref p) (upd H' p (.lst vs))) := o1
      split at o2
      · rename_i hf
        exact lc2_okN hsub hsub2 (rl.mono s1) hf hys hJ' o2 D hD
      · exact o2.elim
    | exn c d => rw [hys] at o1; exact o1.elim
    | ask n f => rw [hys] at o1; exact o1.elim
    | bad => rw [hys] at o1; exact o1.elim
end
end Ev

namespace Ev
variable [Wd]
open PySem PySem.Spec PyProof.Rows L2
open PySem.W.Z (ltB leB eqB ltB_iff leB_iff eqB_iff)

/-! what a slot is given: a shared value, or a new list -/
def TC (K : PySem.W.Frag) (C : CT) (W : WX) (m : SG → Res Sl) : TE := fun σ H Q => ∃ sg A, Rel K C A H sg σ ∧ Out K C A (fun cx dx H' => W cx dx σ H') H (m sg) fun s H' => match s with
  | .v d => ∀ v, R K (hid A H') d v → Q v H'
  | .o l => ∀ p vs, H' p = none → Rs K (hid A H') l vs → Q (.ref p) (upd H' p (.lst vs))
  | .x c d => ∀ v, XcR K C (hid A H') c d v → Q v H'
  | .d l => ∀ p vs, H' p = none → Rk K (hid A H') l vs → Q (.ref p) (upd H' p (.dK vs))
  | .s n => ∀ p xs, SqL K (hid A H') p xs → xs.length = n → Q (.ref p) H'
  | .dl l => match l with | [] => ∀ p, H' p = none → Q (.ref p) (upd H' p (.dK [])) | _ :: _ => True
  | .ll l => match l with | [] => ∀ p es, H' p = none → NN p es [] → Q (.ref p) (upd H' p (DE p es)) | _ :: _ => True
  | .lv _ => True
def mV (me : SG → Res PyData) (sg : SG) : Res Sl := (me sg).bind fun d => .ok (.v d)
def mO (me : SG → Res (List PyData)) (sg : SG) : Res Sl := (me sg).bind fun l => .ok (.o l)
section
variable {K : PySem.W.Frag} {C : CT} {A A0 : Ow} {H H' Hi : Hp} {sg : SG} {σ : L2.St} {i n : Nat} {s : Sl} {v : V}
theorem SlR.mono (h : SlR K C A H i s v) (m : Ex H H') : SlR K C A H' i s v := h.keep (fun b u e1 e2 mm => ⟨e1, m.at_ b u e2 mm.nt (.inr mm.nd)⟩) (hid_sm m)
theorem rel_put (r : Rel K C A H sg σ) (hi : i < sg.length) (h : SlR K C A H i s v) : Rel K C A H (put sg i s) (σ.set i (some v)) := r.upd i h (fun _ _ _ _ _ e1 e2 _ => ⟨e1, e2⟩) (Ex.refl _) r.trk r.tab
theorem bod_own (b : Bod C.tabs A0 Hi n A H) {p : Addr} {o : HO} (hp : H p = none) : Bod C.tabs A0 Hi n (own1 A p i) (upd H p o) := by
  have hpi : Hi p = none := b.sm.live p hp
  refine ⟨b.t0, b.sm.trans (Sw.new hp), fun a ha => ?_, fun a j hj hlt => ?_⟩
  · have hap : a ≠ p := fun z => by
      obtain ⟨o, q, _⟩ := b.t0 a ha
      rw [z, hpi] at q; cases q
    unfold own1
    rw [if_neg hap]
    exact b.ext a ha
  · by_cases ha : a = p
    · rw [ha]; exact hpi
    · unfold own1 at hj
      rw [if_neg ha] at hj
      exact b.new a j hj hlt
theorem sl_own {p : Addr} {l : List PyData} {vs : List V} (hp : H p = none) (q : Rs K (hid A H) l vs) : SlR K C (own1 A p i) (upd H p (.lst vs)) i (.o l) (.ref p) :=
  ⟨p, vs, rfl, by unfold own1; rw [if_pos rfl], upd_same, q.mono (hid_own1_new hp)⟩
theorem sl_ownD {p : Addr} {l : List (PyData × PyData)} {vs : List (Key × V)} (hp : H p = none) (q : Rk K (hid A H) l vs) : SlR K C (own1 A p i) (upd H p (.dK vs)) i (.d l) (.ref p) :=
  ⟨p, vs, rfl, by unfold own1; rw [if_pos rfl], upd_same, q.mono (hid_own1_new hp)⟩
end
theorem sl_ownN {K : PySem.W.Frag} {C : CT} {A : Ow} {H : Hp} {i : Nat} {p : Addr} {es : Array DictEntry} (hp : H p = none) (n : NN p es []) : SlR K C (own1 A p i) (upd H p (DE p es)) i (.ll []) (.ref p) :=
  ⟨p, es, [], rfl, by unfold own1; rw [if_pos rfl], upd_same, n, rfl⟩
theorem sl_ownL {K : PySem.W.Frag} {C : CT} {A : Ow} {H : Hp} {i : Nat} {p : Addr} (hp : H p = none) : SlR K C (own1 A p i) (upd H p (.dK [])) i (.dl []) (.ref p) :=
  ⟨p, [], rfl, by unfold own1; rw [if_pos rfl], upd_same, rfl⟩
section
variable {X : Cx} {C : CT} {E : XK} {e a b tg iter elt : Expr} {es ifs : List Expr} {st : Stmt} {sts : List Stmt} {mt : SG → Res Bool} {mi mn mr : SG → Res (List PyData)} {mc mc' : SG → Res Sl} {m ma mb me : SG → Res PyData} {ms mr' : SG → Res Fl} {pos p pos' : Pos} {W : WX}
theorem c_val (h : PE X e (T X.K C W me)) : PE X e (TC X.K C W (mV me)) := pe_imp h fun σ H Q ⟨sg, A, rl, o⟩ => ⟨sg, A, rl, o.bind.mono fun d H1 s1 o1 => o1 H1 (Sm.refl _)⟩
theorem c_new (h : PE X e (TN X.K C W mn)) : PE X e (TC X.K C W (mO mn)) := pe_imp h fun σ H Q ⟨sg, A, rl, o⟩ => ⟨sg, A, rl, o.bind.mono fun l H1 s1 o1 => o1 H1 (Sm.refl _)⟩
/-- name = e -/
def mPut (i : Nat) (mc : SG → Res Sl) (sg : SG) : Res Fl := match Nat.blt i sg.length with
  | true => (mc sg).bind fun s => .ok (.nx (put sg i s))
  | false => .bad
theorem blt_lt {i n : Nat} (h : Nat.blt i n = true) : i < n := Nat.le_of_ble_eq_true h
theorem put_ok {K : PySem.W.Frag} {i : Nat} {D : Ends} {σ : L2.St} {H : Hp} (h : TSt K C E (mPut i mc) D σ H) : tAsg (TC K C (WE E) mc) (gName i) D σ H := by
  obtain ⟨sg, A, A0, Hi, rl, b, o⟩ := h
  unfold mPut at o
  split at o
  · rename_i hi
    have hi := blt_lt hi
    refine ⟨sg, A, rl, (SOut.bind (σ := σ) b o).mono fun s H1 s1 o1 => ?_⟩
    cases s with
    | v d => exact fun v q => o1 _ A H1 (rel_put (rl.mono s1) hi q) (by simp) (b.mono s1) (Tq.refl _) (Ex.refl _)
    | o l =>
      intro p vs hp q
      have r2 := rel_own1 (n := i) (rl.mono s1) hp (Sw.new hp) (trk_own1 (o := .lst vs) (n := i) (rl.mono s1).trk hp)
      exact o1 _ _ _ (rel_put r2 hi (sl_own hp q)) (by simp) (bod_own (b.mono s1) hp) (Tq.new hp) (hid_own1_new hp)
    | x c d => exact fun v q => o1 _ A H1 (rel_put (s := .x c d) (rl.mono s1) hi q) (by simp) (b.mono s1) (Tq.refl _) (Ex.refl _)
    | s n => exact fun p xs q1 q2 => o1 _ A H1 (rel_put (s := .s n) (rl.mono s1) hi ⟨p, xs, rfl, q1, q2⟩) (by simp) (b.mono s1) (Tq.refl _) (Ex.refl _)
    | d l =>
      intro p vs hp q
      have r2 := rel_own1 (n := i) (rl.mono s1) hp (Sw.new hp) (trk_own1 (o := .dK vs) (n := i) (rl.mono s1).trk hp)
      exact o1 _ _ _ (rel_put r2 hi (sl_ownD hp q)) (by simp) (bod_own (b.mono s1) hp) (Tq.new hp) (hid_own1_new hp)
    | dl l =>
      cases l with
      | cons _ _ => exact trivial
      | nil =>
      intro p hp
      have r2 := rel_own1 (n := i) (rl.mono s1) hp (Sw.new hp) (trk_own1 (o := .dK []) (n := i) (rl.mono s1).trk hp)
      exact o1 _ _ _ (rel_put (s := .dl []) r2 hi (sl_ownL hp)) (by simp) (bod_own (b.mono s1) hp) (Tq.new hp) (hid_own1_new hp)
    | ll l =>
      cases l with
      | cons _ _ => exact trivial
      | nil =>
      intro p es hp hn
      have r2 := rel_own1 (n := i) (rl.mono s1) hp (Sw.new hp) (trk_own1 (o := DE p es) (n := i) (rl.mono s1).trk hp DE.mu)
      exact o1 _ _ _ (rel_put (s := .ll []) r2 hi (sl_ownN hp hn)) (by simp) (bod_own (b.mono s1) hp) (Tq.new hp) (hid_own1_new hp)
    | lv l => exact trivial
  · exact o.elim
theorem s_set {i : Nat} {x : Str} (hN : X.N.Nodup) (hi : X.N[i]? = some x) (hx : Loc X.env.scope x) (he : PE X e (TC X.K C (WE E) mc)) (hs : swapsWith e (some (.Name x pos')) pos.line X.env = pure false) (hf : X.fn x = true ∨ X.env.scope.names.lookup x = some .local) :
    PS X (.Assign [.Name x pos'] e pos) (TSt X.K C E (mPut i mc)) := ps_imp (ps_set hN hi hx he hs hf) fun D σ H h => put_ok h
/-- a, b = x, y -/
def mPar (i j : Nat) (mc mc' : SG → Res Sl) (sg : SG) : Res Fl := match Nat.blt i sg.length && Nat.blt j sg.length with
  | true => (mc sg).bind fun s => (mc' sg).bind fun s' => .ok (.nx (put (put sg i s) j s'))
  | false => .bad
theorem put_len (sg : SG) (i : Nat) (s : Sl) : (put sg i s).length = sg.length := by rw [put_eq, List.length_set]
theorem par_ok {K : PySem.W.Frag} {i j : Nat} {D : Ends} {σ : L2.St} {H : Hp} (h : TSt K C E (mPar i j mc mc') D σ H) : tPar i j (tCons (TC K C (WE E) mc) (tCons (TC K C (WE E) mc') tNil)) D σ H := by
  obtain ⟨sg, A, A0, Hi, rl, b, o⟩ := h
  unfold mPar at o
  split at o
  · rename_i hi
    rw [Bool.and_eq_true] at hi
    have hi1 := blt_lt hi.1
    have hi2 := blt_lt hi.2
    have second : ∀ {A1 : Ow} {H1 : Hp} {s : Sl} {v : V}, Rel K C A1 H1 sg σ → Bod C.tabs A0 Hi σ.length A1 H1 → SlR K C A1 H1 i s v → SOut K C E A0 Hi D σ.length A1 H1 ((mc' sg).bind fun s' => .ok (.nx (put (put sg i s) j s'))) →
        tCons (TC K C (WE E) mc') tNil σ H1 (fun xs H2 => ∃ v' w, v :: xs = [v', w] ∧ D.nx ((σ.set i (some v')).set j (some w)) H2) := by
      intro A1 H1 s v r1 b1 h1 o1
      refine ⟨sg, A1, r1, (SOut.bind (σ := σ) b1 o1).mono fun s' H2 s2 o2 => ?_⟩
      have r2 := rel_put (r1.mono s2) hi1 (h1.mono s2.e)
      cases s' with
      | v d => exact fun w q => ⟨v, w, rfl, o2 _ A1 H2 (rel_put r2 (by rw [put_len]; exact hi2) q) (by simp) (b1.mono s2) (Tq.refl _) (Ex.refl _)⟩
      | o l =>
        intro p vs hp q
        have r3 := rel_own1 (n := j) r2 hp (Sw.new hp) (trk_own1 (o := .lst vs) (n := j) (r1.mono s2).trk hp)
        exact ⟨v, .ref p, rfl, o2 _ _ _ (rel_put r3 (by rw [put_len]; exact hi2) (sl_own hp q)) (by simp) (bod_own (b1.mono s2) hp) (Tq.new hp) (hid_own1_new hp)⟩
      | x c d => exact fun w q => ⟨v, w, rfl, o2 _ A1 H2 (rel_put (s := .x c d) r2 (by rw [put_len]; exact hi2) q) (by simp) (b1.mono s2) (Tq.refl _) (Ex.refl _)⟩
      | s n => exact fun p xs q1 q2 => ⟨v, .ref p, rfl, o2 _ A1 H2 (rel_put (s := .s n) r2 (by rw [put_len]; exact hi2) ⟨p, xs, rfl, q1, q2⟩) (by simp) (b1.mono s2) (Tq.refl _) (Ex.refl _)⟩
      | d l =>
        intro p vs hp q
        have r3 := rel_own1 (n := j) r2 hp (Sw.new hp) (trk_own1 (o := .dK vs) (n := j) (r1.mono s2).trk hp)
        exact ⟨v, .ref p, rfl, o2 _ _ _ (rel_put r3 (by rw [put_len]; exact hi2) (sl_ownD hp q)) (by simp) (bod_own (b1.mono s2) hp) (Tq.new hp) (hid_own1_new hp)⟩
      | dl l =>
        cases l with
        | cons _ _ => exact trivial
        | nil =>
        intro p hp
        have r3 := rel_own1 (n := j) r2 hp (Sw.new hp) (trk_own1 (o := .dK []) (n := j) (r1.mono s2).trk hp)
        exact ⟨v, .ref p, rfl, o2 _ _ _ (rel_put (s := .dl []) r3 (by rw [put_len]; exact hi2) (sl_ownL hp)) (by simp) (bod_own (b1.mono s2) hp) (Tq.new hp) (hid_own1_new hp)⟩
      | ll l =>
        cases l with
        | cons _ _ => exact trivial
        | nil =>
        intro p es hp hn
        have r3 := rel_own1 (n := j) r2 hp (Sw.new hp) (trk_own1 (o := DE p es) (n := j) (r1.mono s2).trk hp DE.mu)
        exact ⟨v, .ref p, rfl, o2 _ _ _ (rel_put (s := .ll []) r3 (by rw [put_len]; exact hi2) (sl_ownN hp hn)) (by simp) (bod_own (b1.mono s2) hp) (Tq.new hp) (hid_own1_new hp)⟩
      | lv l => exact trivial
    refine ⟨sg, A, rl, (SOut.bind (σ := σ) b o).mono fun s H1 s1 o1 => ?_⟩
    cases s with
    | v d => exact fun v q => second (s := .v d) (rl.mono s1) (b.mono s1) q o1
    | o l =>
      intro p vs hp q
      exact second (rel_own1 (n := i) (rl.mono s1) hp (Sw.new hp) (trk_own1 (o := .lst vs) (n := i) (rl.mono s1).trk hp)) (bod_own (b.mono s1) hp) (sl_own hp q) (o1.from (hid_own1_new hp) (Tq.new hp))
    | x c d => exact fun v q => second (s := .x c d) (rl.mono s1) (b.mono s1) q o1
    | s n => exact fun p xs q1 q2 => second (s := .s n) (v := .ref p) (rl.mono s1) (b.mono s1) ⟨p, xs, rfl, q1, q2⟩ o1
    | d l =>
      intro p vs hp q
      exact second (rel_own1 (n := i) (rl.mono s1) hp (Sw.new hp) (trk_own1 (o := .dK vs) (n := i) (rl.mono s1).trk hp)) (bod_own (b.mono s1) hp) (sl_ownD hp q) (o1.from (hid_own1_new hp) (Tq.new hp))
    | dl l =>
      cases l with
      | cons _ _ => exact trivial
      | nil =>
      intro p hp
      exact second (s := .dl []) (rel_own1 (n := i) (rl.mono s1) hp (Sw.new hp) (trk_own1 (o := .dK []) (n := i) (rl.mono s1).trk hp)) (bod_own (b.mono s1) hp) (sl_ownL hp) (o1.from (hid_own1_new hp) (Tq.new hp))
    | ll l =>
      cases l with
      | cons _ _ => exact trivial
      | nil =>
      intro p es hp hn
      exact second (s := .ll []) (rel_own1 (n := i) (rl.mono s1) hp (Sw.new hp) (trk_own1 (o := DE p es) (n := i) (rl.mono s1).trk hp DE.mu)) (bod_own (b.mono s1) hp) (sl_ownN hp hn) (o1.from (hid_own1_new hp) (Tq.new hp))
    | lv l => exact trivial
  · exact o.elim
theorem s_par {i j : Nat} {x y : Str} {px py pt : Pos} {kt k2 : Nat} {pt2 : Pos} (hc : X.calm = true) (hN : X.N.Nodup) (hi : X.N[i]? = some x) (hj : X.N[j]? = some y) (hij : i ≠ j) (hx : X.env.scope.names.lookup x = some .local) (hy : X.env.scope.names.lookup y = some .local)
    (ha : PE X a (TC X.K C (WE E) mc)) (hb : PE X b (TC X.K C (WE E) mc')) (hs1 : starEach [a, b] X.env = (false, eval a X.env) :: starEach [b] X.env) (hs2 : starEach [b] X.env = (false, eval b X.env) :: starEach [] X.env)
    (hw : swappedStores [.Tuple [.Name x px, .Name y py] kt pt] (.Tuple [a, b] k2 pt2) X.env = pure (some [x, y])) (hs : swapsWithSole [.Tuple [.Name x px, .Name y py] kt pt] (.Tuple [a, b] k2 pt2) pos.line X.env = pure false) :
    PS X (.Assign [.Tuple [.Name x px, .Name y py] kt pt] (.Tuple [a, b] k2 pt2) pos) (TSt X.K C E (mPar i j mc mc')) :=
  ps_imp (ps_par hc hN hi hj hij hx hy (pa_cons ha (pa_cons hb pa_nil hs2) hs1) hw hs) fun D σ H h => par_ok h
/-- (a, .. ) = e, or a name: shared values -/
def mAsg (t : Tg) (me : SG → Res PyData) (sg : SG) : Res Fl := (me sg).bind fun d => match setT t d sg with | some sg' => .ok (.nx sg') | none => .bad
theorem asg_ok {K : PySem.W.Frag} {t : Tg} {D : Ends} {σ : L2.St} {H : Hp} (h : TSt K C E (mAsg t me) D σ H) : tAsg (T K C (WE E) me) (gT K t) D σ H := by
  obtain ⟨sg, A, A0, Hi, rl, b, o⟩ := h
  refine ⟨sg, A, rl, (SOut.bind (σ := σ) b o).mono fun d H1 s1 o1 v q => ?_⟩
  cases hs : setT t d sg with
  | none => rw [hs] at o1; exact o1.elim
  | some sg' =>
    rw [hs] at o1
    exact gT_ok hs q (rl.mono s1) fun σ' _ r' => o1 σ' A H1 r' (by rw [← r'.len, ← rl.len, setT_keep hs]) (b.mono s1) (Tq.refl _) (Ex.refl _)
theorem s_asg {t : Tg} (he : PE X e (T X.K C (WE E) me)) (hg : PG X tg (gT X.K t)) (hs : swapsWithSole [tg] e pos.line X.env = pure false) (hw : swappedStores [tg] e X.env = pure none) (h1 : (assignEach [tg] X.env).map (·.2) = [assign tg X.env]) :
    PS X (.Assign [tg] e pos) (TSt X.K C E (mAsg t me)) := ps_imp (ps_asg he hg hs hw h1) fun D σ H h => asg_ok h
/-- return -/
def mRet (me : SG → Res PyData) (sg : SG) : Res Fl := (me sg).bind fun d => .ok (.rt d)
theorem s_ret (he : PE X e (T X.K C (WE E) me)) : PS X (.Return (some e) pos) (TSt X.K C E (mRet me)) :=
  ps_imp (ps_ret he) fun D σ H ⟨sg, A, A0, Hi, rl, b, o⟩ => ⟨sg, A, rl, (SOut.bind (σ := σ) b o).mono fun d H1 s1 o1 v q => o1 A H1 v (b.mono s1) (rl.mono s1).trk (Tq.refl _) q⟩
/-- if -/
def mIfS (c : SG → Res Bool) (a b : SG → Res Fl) (sg : SG) : Res Fl := (c sg).bind fun k => match k with | true => a sg | false => b sg
theorem s_if {c : Expr} {u w : List Stmt} {ma' mb' : SG → Res Fl} (hc : PT X c (TP X.K C (WE E) mt)) (ha : PSs X u (TSt X.K C E ma')) (hb : PSs X w (TSt X.K C E mb')) : PS X (.If c u w pos) (TSt X.K C E (mIfS mt ma' mb')) :=
  ps_imp (ps_if hc ha hb) fun D σ H ⟨sg, A, A0, Hi, rl, b, o⟩ => by
    refine ⟨sg, A, rl, (SOut.bind (σ := σ) b o).mono fun k H1 s1 o1 => ?_⟩
    cases k with
    | true => exact iteT ⟨sg, A, A0, Hi, rl.mono s1, b.mono s1, o1⟩
    | false => exact iteF ⟨sg, A, A0, Hi, rl.mono s1, b.mono s1, o1⟩
/-- an expression for its exception -/
def mDo (me : SG → Res PyData) (sg : SG) : Res Fl := (me sg).bind fun _ => .ok (.nx sg)
theorem s_do (he : PE X e (T X.K C (WE E) me)) (hs : swapsWith e none pos.line X.env = pure false) : PS X (.Expr e pos) (TSt X.K C E (mDo me)) :=
  ps_imp (ps_expr he hs) fun D σ H ⟨sg, A, A0, Hi, rl, b, o⟩ => ⟨sg, A, rl, (SOut.bind (σ := σ) b o).mono fun d H1 s1 o1 v q => o1 σ A H1 (rl.mono s1) rfl (b.mono s1) (Tq.refl _) (Ex.refl _)⟩
/-! append, extend -/
def ownAt (sg : SG) (i : Nat) : Option (List PyData) := match sg[i]? with | some (some (.o l)) => some l | _ => none
theorem ownAt_eq {sg : SG} {i : Nat} {l : List PyData} (h : ownAt sg i = some l) : sg[i]? = some (some (.o l)) := by
  unfold ownAt at h
  split at h
  · rename_i e; cases h; exact e
  · cases h
theorem hid_upd {A : Ow} {H : Hp} {a : Addr} {o : HO} (h : (A a).isSome = true) : hid A (upd H a o) = hid A H := by
  funext b
  by_cases hb : b = a
  · subst hb; unfold hid; rw [if_pos h, if_pos h]
  · unfold hid; rw [upd_ne hb]
theorem rel_grow {K : PySem.W.Frag} {A A0 : Ow} {H Hi : Hp} {sg : SG} {σ : L2.St} {i : Nat} {a : Addr} {vs : List V} {l : List PyData} (rl : Rel K C A H sg σ) (b : Bod C.tabs A0 Hi σ.length A H) (hs : σ[i]? = some (some (.ref a))) (ha : A a = some i) {us : List V} (hu : H a = some (.lst us)) (q : Rs K (hid A H) l vs) :
    Rel K C A (upd H a (.lst vs)) (put sg i (.o l)) σ ∧ Bod C.tabs A0 Hi σ.length A (upd H a (.lst vs)) ∧ Ex (hid A H) (hid A (upd H a (.lst vs))) := by
  have hi : i < σ.length := by
    rw [List.getElem?_eq_some_iff] at hs; exact hs.1
  have hA : (A a).isSome = true := by rw [ha]; rfl
  have hh := hid_upd (H := H) (o := .lst vs) hA
  have hv : H a = some (.lst us) := hu
  have hia : Hi a = none := b.new a i ha hi
  have tr : Trk A (upd H a (.lst vs)) := fun c hc => by
    by_cases hca : c = a
    · exact ⟨.lst vs, by rw [hca]; exact upd_same, trivial⟩
    · obtain ⟨o, z, k⟩ := rl.trk c hc
      exact ⟨o, by rw [upd_ne hca]; exact z, k⟩
  refine ⟨?_, ⟨b.t0, b.sm.wr hia hv trivial, b.ext, b.new⟩, by rw [hh]; exact Ex.refl _⟩
  have z := rl.upd (A' := A) (H' := upd H a (.lst vs)) i (s := .o l) (v := .ref a) ⟨a, vs, rfl, ha, upd_same, by rw [hh]; exact q⟩ (fun j b u hj _ e1 e2 _ => ⟨e1, by rw [upd_ne (fun z => by rw [z, ha] at e1; exact hj (Option.some.inj e1).symm)]; exact e2⟩) (by rw [hh]; exact Ex.refl _) tr (fun p hp => TabS.upd hv trivial (rl.tab p hp))
  rw [set_back hs] at z
  exact z
def mApp (i : Nat) (me : SG → Res PyData) (sg : SG) : Res Fl := match ownAt sg i with
  | some l => (me sg).bind fun d => match few (l.length + 1) with | true => .ok (.nx (put sg i (.o (l ++ [d])))) | false => .bad
  | none => .bad
def mExt (i : Nat) (me : SG → Res PyData) (sg : SG) : Res Fl := match ownAt sg i with
  | some l => (me sg).bind fun d => match d with
    | .list r => match few (l.length + r.length) with | true => .ok (.nx (put sg i (.o (l ++ r)))) | false => .bad
    | _ => .bad
  | none => .bad
/-- the name's list as it is -/
def tOwn (K : PySem.W.Frag) (i : Nat) : TE := tVar i
theorem s_app {i : Nat} {x : Str} {apos epos cpos : Pos} (hN : X.N[i]? = some x) (hv : Vis X.env.scope x) (hd : (x == ("__debug__" : Str)) = false) (hcd : (x == ("__classdict__" : Str)) = false) (ha : PE X a (T X.K C (WE E) me))
    (hfew : ((backTo cpos (starEach [a] X.env)).all (fun x => !x.1) && (backToKw cpos (keywordEach [] X.env)).all (fun x => x.1.isSome) && decide (([a] : List Expr).length + ([] : List Keyword).length + (if ([] : List Keyword).isEmpty then 0 else 1) < 30)) = true)
    (hline : (apos.endLine == cpos.line) = true) (hs : starEach [a] X.env = (false, eval a X.env) :: starEach [] X.env) :
    PS X (.Expr (.Call (.Attribute (.Name x p) "append" apos) [a] [] cpos) epos) (TSt X.K C E (mApp i me)) :=
  ps_imp (ps_expr (pe_bm F.plainAttrs_list F.slot_list_append F.type_list_append mt_append (pe_var hN hv hd hcd) (pa_cons ha pa_nil hs) rfl hfew hline hs rfl) rfl) fun D σ H ⟨sg, A, A0, Hi, rl, b, o⟩ => by
    unfold mApp at o
    split at o
    · rename_i l how
      obtain ⟨ad, vs, h1, h2, h3, h4⟩ := rl.own i l (ownAt_eq how)
      refine ⟨.ref ad, h1, .inl ⟨rfl, vs, SqL.of h3⟩, sg, A, rl, (SOut.bind (σ := σ) b o).mono fun d H1 s1 o2 v q => ?_⟩
      split at o2
      · rename_i hf
        refine ⟨ad, vs, v, rfl, rfl, s1.g _ _ h3, ?_, ?_⟩
        · have := few_le hf
          rw [h4.length]; omega
        · obtain ⟨z1, z2, z3⟩ := rel_grow (rl.mono s1) (b.mono s1) h1 h2 (s1.g _ _ h3) ((h4.mono (hid_sm s1)).append (.cons q .nil))
          exact o2 σ A _ z1 rfl z2 (Tq.wr (s1.g _ _ h3) trivial) z3
      · exact o2.elim
    · exact o.elim
theorem s_ext {i : Nat} {x : Str} {apos epos cpos : Pos} (hN : X.N[i]? = some x) (hv : Vis X.env.scope x) (hd : (x == ("__debug__" : Str)) = false) (hcd : (x == ("__classdict__" : Str)) = false) (ha : PE X a (T X.K C (WE E) me))
    (hfew : ((backTo cpos (starEach [a] X.env)).all (fun x => !x.1) && (backToKw cpos (keywordEach [] X.env)).all (fun x => x.1.isSome) && decide (([a] : List Expr).length + ([] : List Keyword).length + (if ([] : List Keyword).isEmpty then 0 else 1) < 30)) = true)
    (hline : (apos.endLine == cpos.line) = true) (hs : starEach [a] X.env = (false, eval a X.env) :: starEach [] X.env) :
    PS X (.Expr (.Call (.Attribute (.Name x p) "extend" apos) [a] [] cpos) epos) (TSt X.K C E (mExt i me)) :=
  ps_imp (ps_expr (pe_bm F.plainAttrs_list F.slot_list_extend F.type_list_extend mt_extend (pe_var hN hv hd hcd) (pa_cons ha pa_nil hs) rfl hfew hline hs rfl) rfl) fun D σ H ⟨sg, A, A0, Hi, rl, b, o⟩ => by
    unfold mExt at o
    split at o
    · rename_i l how
      obtain ⟨ad, vs, h1, h2, h3, h4⟩ := rl.own i l (ownAt_eq how)
      refine ⟨.ref ad, h1, .inl ⟨rfl, vs, SqL.of h3⟩, sg, A, rl, (SOut.bind (σ := σ) b o).mono fun d H1 s1 o2 v q => ?_⟩
      split at o2
      · split at o2
        · rename_i r hf
          obtain ⟨bd, us, e1, k1, k2⟩ := R.list_iff.mp q
          refine ⟨ad, bd, vs, us, rfl, by rw [e1], s1.g _ _ h3, hid_le.g _ _ k1, ?_, ?_⟩
          · have := few_le hf
            rw [h4.length, k2.length]; exact this
          · obtain ⟨z1, z2, z3⟩ := rel_grow (rl.mono s1) (b.mono s1) h1 h2 (s1.g _ _ h3) ((h4.mono (hid_sm s1)).append k2)
            exact o2 σ A _ z1 rfl z2 (Tq.wr (s1.g _ _ h3) trivial) z3
        · exact o2.elim
      · exact o2.elim
    · exact o.elim
/-! an owned list becomes shared -/
def drop1 (A : Ow) (i : Nat) : Ow := fun b => if A b = some i then none else A b
/-- the owned thing of a slot, as a datum -/
def ownD (sg : SG) (i : Nat) : Option PyData := match sg[i]? with | some (some (.o l)) => some (.list l) | some (some (.d l)) => some (.dict l) | _ => none
def dicOf (sg : SG) (i : Nat) : Option (List (PyData × PyData)) := match sg[i]? with | some (some (.d l)) => some l | _ => none
def frzL (i : Nat) (sg : SG) : SG := match ownD sg i with | some d => put sg i (.v d) | none => sg
theorem dicOf_eq {sg : SG} {i : Nat} {l : List (PyData × PyData)} (h : dicOf sg i = some l) : sg[i]? = some (some (.d l)) := by
  unfold dicOf at h
  split at h
  · rename_i e; cases h; exact e
  · cases h
theorem frzL_dic {sg : SG} {i : Nat} {l : List (PyData × PyData)} (h : dicOf sg i = some l) : frzL i sg = put sg i (.v (.dict l)) := by
  have e := dicOf_eq h
  unfold frzL ownD
  rw [e]
/-- a dict of one's own is locked for good -/
theorem frz_dic {K : PySem.W.Frag} {A A0 : Ow} {H Hi : Hp} {sg : SG} {σ : L2.St} {i : Nat} {l : List (PyData × PyData)} (rl : Rel K C A H sg σ) (b : Bod C.tabs A0 Hi σ.length A H) (how : dicOf sg i = some l) :
    ∃ a u, H a = some u ∧ Mut (some u) ∧ ∀ od, Rel K C (drop1 A i) (upd H a (.frz od u)) (put sg i (.v (.dict l))) σ ∧ Bod C.tabs A0 Hi σ.length (drop1 A i) (upd H a (.frz od u)) ∧ Ex (hid A H) (hid (drop1 A i) (upd H a (.frz od u))) ∧ Tq H (upd H a (.frz od u)) := by
  obtain ⟨a, vs, h1, h2, h3, h4⟩ := rl.dic i l (dicOf_eq how)
  refine ⟨a, .dK vs, h3, trivial, fun od => ?_⟩
  have hi : i < σ.length := by rw [List.getElem?_eq_some_iff] at h1; exact h1.1
  have hia : Hi a = none := b.new a i h2 hi
  have sub : ∀ c, (drop1 A i c).isSome = true → (A c).isSome = true := fun c hc => by
    unfold drop1 at hc
    split at hc
    · cases hc
    · exact hc
  have sm0 : Exs (hid A H) (hid (drop1 A i) (upd H a (.frz od (.dK vs)))) := ⟨fun c o e _ => by
    unfold hid at e ⊢
    split at e
    · cases e
    · rename_i z
      have hc : c ≠ a := fun q => z (by rw [q, h2]; rfl)
      rw [if_neg fun y => z (sub c y), upd_ne hc]; exact e⟩
  have sm := sm0.w
  have nd : drop1 A i a = none := by
    unfold drop1
    rw [h2, if_pos rfl]
  have hr : R K (hid (drop1 A i) (upd H a (.frz od (.dK vs)))) (.dict l) (.ref a) := R.dict_of ⟨a, od, vs, rfl, by unfold hid; rw [nd]; exact upd_same, h4.mono sm⟩
  have tr : Trk (drop1 A i) (upd H a (.frz od (.dK vs))) := fun c hc => by
    obtain ⟨o, e, m⟩ := rl.trk c (sub c hc)
    have hca : c ≠ a := fun q => by rw [q, nd] at hc; cases hc
    exact ⟨o, by rw [upd_ne hca]; exact e, m⟩
  refine ⟨?_, ⟨b.t0, b.sm.wr hia h3 trivial, fun c hc => ?_, fun c j hj hlt => ?_⟩, sm, Tq.wr h3 trivial⟩
  · have z := rl.upd (A' := drop1 A i) (H' := upd H a (.frz od (.dK vs))) i (s := .v (.dict l)) (v := .ref a) hr (fun j b u hj _ e1 e2 _ => ⟨by unfold drop1; rw [e1, if_neg fun z => hj (Option.some.inj z)], by rw [upd_ne (fun z => by rw [z, h2] at e1; exact hj (Option.some.inj e1).symm)]; exact e2⟩) sm tr (fun p hp => TabS.upd h3 trivial (rl.tab p hp))
    rw [set_back h1] at z
    exact z
  · have := b.ext c hc
    unfold drop1
    rw [this, if_neg fun z => by have := Option.some.inj z; omega]
  · unfold drop1 at hj
    split at hj
    · cases hj
    · exact b.new c j hj hlt
theorem frz_ok {K : PySem.W.Frag} {A A0 : Ow} {H Hi : Hp} {sg : SG} {σ : L2.St} (i : Nat) (rl : Rel K C A H sg σ) (b : Bod C.tabs A0 Hi σ.length A H) (nd : dicOf sg i = none) : ∃ A', Rel K C A' H (frzL i sg) σ ∧ Bod C.tabs A0 Hi σ.length A' H ∧ Ex (hid A H) (hid A' H) := by
  unfold frzL
  cases how : ownD sg i with
  | none => exact ⟨A, rl, b, Ex.refl _⟩
  | some dd =>
    have sub : ∀ c, (drop1 A i c).isSome = true → (A c).isSome = true := fun c hc => by
      unfold drop1 at hc
      split at hc
      · cases hc
      · exact hc
    have sm0 : Exs (hid A H) (hid (drop1 A i) H) := ⟨fun c o e _ => by
      unfold hid at e ⊢
      split at e
      · cases e
      · rename_i z
        rw [if_neg fun y => z (sub c y)]; exact e⟩
    have sm := sm0.w
    have hat : ∀ {a : Addr} {o : HO}, A a = some i → H a = some o → hid (drop1 A i) H a = some o := fun {a o} h2 h3 => by
      unfold hid drop1
      rw [h2, if_pos rfl]; exact h3
    have got : ∃ a, σ[i]? = some (some (.ref a)) ∧ R K (hid (drop1 A i) H) dd (.ref a) := by
      unfold ownD at how
      split at how
      · rename_i l e
        cases how
        obtain ⟨a, vs, h1, h2, h3, h4⟩ := rl.own i l e
        exact ⟨a, h1, R.list_iff.mpr ⟨a, vs, rfl, hat h2 h3, h4.mono sm⟩⟩
      · rename_i l e
        unfold dicOf at nd
        rw [e] at nd
        cases nd
      · cases how
    obtain ⟨a, h1, hr⟩ := got
    have hi : i < σ.length := by rw [List.getElem?_eq_some_iff] at h1; exact h1.1
    refine ⟨drop1 A i, ?_, ⟨b.t0, b.sm, fun c hc => ?_, fun c j hj hlt => ?_⟩, sm⟩
    · have z := rl.upd (A' := drop1 A i) (H' := H) i (s := .v dd) (v := .ref a) hr (fun j b u hj _ e1 e2 _ => ⟨by unfold drop1; rw [e1, if_neg fun z => hj (Option.some.inj z)], e2⟩) sm (fun c hc => rl.trk c (sub c hc)) rl.tab
      rw [set_back h1] at z
      exact z
    · have := b.ext c hc
      unfold drop1
      rw [this, if_neg fun z => by have := Option.some.inj z; omega]
    · unfold drop1 at hj
      split at hj
      · cases hj
      · exact b.new c j hj hlt
theorem ss_frz (i : Nat) (h : PSs X sts (TSt X.K C E ms)) : PSs X sts (TSt X.K C E fun sg => ms (frzL i sg)) := ⟨fun pins s σ H D I q => by
  obtain ⟨sg, A, A0, Hi, rl, b, o⟩ := q
  cases how : dicOf sg i with
  | none =>
    obtain ⟨A', r', b', s'⟩ := frz_ok i rl b how
    exact h.run pins s σ H D I ⟨_, A', A0, Hi, r', b', o.from s' (Tq.refl _)⟩
  | some l =>
    obtain ⟨a, u, ha, mu, k⟩ := frz_dic rl b how
    obtain ⟨od, I1⟩ := I.lock ha mu
    obtain ⟨r', b', s', q'⟩ := k od
    have o : SOut X.K C E A0 Hi D σ.length A H (ms (frzL i sg)) := o
    rw [frzL_dic how] at o
    exact h.run pins s σ _ D I1 ⟨_, _, A0, Hi, r', b', o.from s' q'⟩⟩

/-! for -/
def forGo (t : Tg) (mb : SG → Res Fl) : List PyData → SG → Res Fl
  | [], sg => .ok (.nx sg)
  | d :: r, sg => match setT t d sg with
    | some sg' => (mb sg').bind fun f => match f with
      | .nx sg2 => forGo t mb r sg2
      | .rt d => .ok (.rt d)
    | none => .bad
def mFor (t : Tg) (mi : SG → Res (List PyData)) (mb : SG → Res Fl) (sg : SG) : Res Fl := (mi sg).bind fun l => forGo t mb l sg
theorem for_ok {K : PySem.W.Frag} {t : Tg} {D : Ends} {σ : L2.St} {H : Hp} (h : TSt K C E (mFor t mi ms) D σ H) : tFor (TIt K C (WE E) false mi) (gT K t) (TSt K C E ms) D σ H := by
  obtain ⟨sg, A, A0, Hi, rl, b, o⟩ := h
  refine ⟨sg, A, rl, (SOut.bind (σ := σ) b o).mono fun l H1 s1 o1 J hJ => ?_⟩
  have hJ : ItOk K (hid A H1) (hid A H1) J l := hJ
  let W : Nat → Nat → L2.St → Hp → Prop := fun i m σ' H' => m = l.length - i ∧ i ≤ l.length ∧ σ'.length = σ.length ∧ ∃ sg' A', Rel K C A' H' sg' σ' ∧ Bod C.tabs A0 Hi σ.length A' H' ∧ Ex (hid A H1) (hid A' H') ∧ SOut K C E A0 Hi D σ.length A' H' (forGo t ms (l.drop i) sg')
  refine ⟨W, ⟨l.length, rfl, Nat.zero_le _, rfl, sg, A, rl.mono s1, b.mono s1, Ex.refl _, o1⟩, ?_⟩
  rintro i m σ' H' ⟨rfl, hi, hl, sg', A', r', b', sm, o2⟩
  by_cases hlt : i < l.length
  · refine .inr ⟨hJ.go i H' (sm.trans hid_le) hlt, W (i + 1) (l.length - (i + 1)), fun σ2 H2 p => ⟨l.length - (i + 1), by omega, p⟩, fun x H2 y => ?_⟩
    have hli : l[i]? = some l[i] := by simp [hlt]
    obtain ⟨s2', rx⟩ := hJ.yld A' i H' x H2 l[i] (sm.trans hid_le) sm r'.trk hli y
    have s2 := s2' C.tabs
    rw [List.drop_eq_getElem_cons hlt] at o2
    unfold forGo at o2
    split at o2
    · rename_i sg2 hset
      refine gT_ok hset rx (r'.mono s2.w) fun σ3 _ r3 => ?_
      have l3 : σ3.length = σ.length := by rw [← r3.len, setT_keep hset, r'.len, hl]
      have b2 := b'.mono s2.w
      refine ⟨sg2, A', A0, Hi, r3, by rw [l3]; exact b2, ?_⟩
      rw [l3]
      have o3 := o2.from (hid_sm s2.e) s2.tq
      refine SOut.then o3 (fun H3 sg3 s3 o4 => ?_) fun H3 d o4 => o4
      exact fun σ4 A4 H4 r4 l4 b4 q4 s4 => ⟨rfl, hlt, l4, sg3, A4, r4, b4, ((sm.trans (hid_sm s2.e)).trans (hid_sm s3.e)).trans s4, o4.from s4 q4⟩
    · exact o2.elim
  · have e : i = l.length := by omega
    subst e
    rw [List.drop_length] at o2
    exact .inl ⟨hJ.stop H' (sm.trans hid_le), o2 σ' A' H' r' hl b' (Tq.refl _) (Ex.refl _)⟩
theorem s_for {t : Tg} (hp : PassesOwn (model X.prog X.w) X.A X.env X.xe) (hc : X.calm = true) (hi : PI X tg iter (TIt X.K C (WE E) false mi)) (hg : PG X tg (gT X.K t)) (hb : PSs X sts (TSt X.K C E ms)) (hs : ∀ x, foldedSetIterable iter X.env x = pure x) :
    PS X (.For tg iter sts [] pos) (TSt X.K C E (mFor t mi ms)) := ps_imp (ps_for hp hc hi hg hb hs) fun D σ H h => for_ok h
end
end Ev

namespace Ev
variable [Wd]
open PySem PySem.Spec PyProof.Rows L2
open PySem.W.Z (ltB leB eqB ltB_iff leB_iff eqB_iff)

/-! what a function promises, where no repr is under way -/
structure FnG (P : Program) (w : World) (K : PySem.W.Frag) (mg : Str → Option Value) (base : Heap) (gd : Bool) (k : Nat) (f : Addr) (fd : FuncData) (ps : List Str) (sp : Sp) : Prop where
  len : ∀ vs H Q E, sp vs H Q E → vs.length = ps.length
  go : ∀ (A : Around) (outer : List Env) (s : Shared) (H : Hp) (args : Args) (us : List Value) (vs : List V) (Q : VK) (E : XK), (gd = true → A.guards = some []) → Room k A → Env0 P w K mg base A outer s H → BindsTo s fd args (ps.zip us) → Vals vs us → sp vs H Q E →
    codeAny (model P w) A (.call (.ref f) args) (CR (CX P w) outer P w H s Q E) s
theorem FnG.mono {P : Program} {w : World} {K : PySem.W.Frag} {mg : Str → Option Value} {base : Heap} {gd : Bool} {j k : Nat} {f : Addr} {fd : FuncData} {ps : List Str} {sp : Sp} (F : FnG P w K mg base gd j f fd ps sp) (h : j ≤ k) : FnG P w K mg base gd k f fd ps sp :=
  ⟨F.len, fun A outer s H args us vs Q E hg hr => F.go A outer s H args us vs Q E hg (hr.mono h)⟩
theorem fnG_of {P : Program} {w : World} {K : PySem.W.Frag} {mg : Str → Option Value} {base : Heap} {gd : Bool} {k : Nat} {f : Addr} {name qual : Str} {params : Arguments} {body : List Stmt} {scope : Scope} {dV kV doc pm cdv ct oc : Value} {an od : Option Addr} {osl : Array (Option Value)} {N ps : List Str} {sp : Sp}
    (lk : K.lookup f = some ⟨oc, od, .func (PySem.W.fnOf name qual params body scope dV kV doc pm an cdv ct), osl⟩) (hcd : PySem.W.codeIn K cdv qual = true) (S : FnScope N ps scope) (len : ∀ vs H Q E, sp vs H Q E → vs.length = ps.length)
    (hb0 : ∀ (A : Around) (outer : List Env) (s : Shared) (H : Hp) (vs : List V) (Q : VK) (E : XK), (gd = true → (A.deeper (envOfC qual scope s.heap.objs.size f cdv)).guards = some []) → Room k (A.deeper (envOfC qual scope s.heap.objs.size f cdv)) → sp vs H Q E →
      ∃ t, PSs (cxOf (CX P w) P w K mg base N qual scope f cdv A outer s H E) body t ∧ t { nx := fun _ H' => Q .non H', rt := Q } (start N vs) H) :
    FnG P w K mg base gd (k + 1) f (PySem.W.fnOf name qual params body scope dV kV doc pm an cdv ct) ps sp := by
  refine ⟨len, fun A outer s H args us vs Q E hg hr e0 hb r hs => ?_⟩
  have hl := len _ _ _ _ hs
  have kk : ∀ b o, base.get? b = some o → s.heap.get? b = some o := fun b o e => (e0.bs b o e).1
  have kin : K.In s.heap := e0.mod.kin.keeps kk
  refine codeAny_call_function hr.depth (kin _ _ lk) rfl S.co S.gen rfl (PySem.W.codeRec_of kin hcd) (hb _ _ _ _ (wpAny_newFunctionEnv_cells S.kind (fun y hy => ?_) fun env he s1 x => ?_))
  · rcases S.par y.1 (List.of_mem_zip (a := y.1) (b := y.2) hy).1 with q | q
    · exact .inl q
    · exact .inr ⟨q, PySem.W.cellsFrom_some _ _ _ (.inl q)⟩
  · subst he
    refine ⟨(e0.mod.nolimit.keeps kk).keeps x.toInCall.keep, codeAny_func ?_⟩
    obtain ⟨t, ht, hq⟩ := hb0 A outer s H vs Q E (by exact hg) (hr.deeper _) hs
    refine wpAny_mono (ht.run [] s1 (start N vs) H _ (inv_start S hr.hd e0 hl r x) hq) (fun fl s' z => ?_) fun e s' z => z
    match fl, z with
    | .ret u, z =>
      obtain ⟨v, σ', H', J, rv, q⟩ := z
      exact ⟨v, H', J.os, J.bare, J.base, J.hok, rv, q⟩
    | .next, z =>
      obtain ⟨σ', H', J, q⟩ := z
      exact ⟨V.non, H', J.os, J.bare, J.base, J.hok, rfl, q⟩
    | .brk, z =>
      obtain ⟨_, _, _, q⟩ := z
      exact q.elim
    | .cont, z =>
      obtain ⟨_, _, _, q⟩ := z
      exact q.elim
/-- an exception of a call passes on, whatever the slots are -/
def PassesW (X : Cx) (W : WX) : Prop := ∀ (pins : List (Addr × Obj)) (σ : L2.St) (H : Hp) (s : Shared) (e : Value) (s' : Shared), Inv X pins σ H s → CX X.prog X.w X.stack H s (fun cx dx H' => W cx dx σ H') e s' → X.xe e s'
def tCallW (sp : Sp) (W : WX) (t : TA) : TE := fun σ H Q => t σ H fun vs H1 => sp vs H1 Q (fun cx dx H' => W cx dx σ H')
theorem passW {X : Cx} {W : WX} (tk : Takes X W) : PassesW X W := fun _ _ _ _ e s' I c => tk e s' (XE.of_call I (fun _ _ _ h => h) c)
section
variable {X : Cx} {gd : Bool} {k : Nat} {f : Addr} {fd : FuncData} {ps : List Str} {sp : Sp} {E : XK} {W : WX} {x : Str} {p pos : Pos} {e : Expr} {es : List Expr} {t : TA}
theorem run_fnG {pins : List (Addr × Obj)} {σ : L2.St} {H : Hp} {s : Shared} {Q : VK} {us : List Value} {vs : List V} (F : FnG X.prog X.w X.K X.mg X.base gd k f fd ps sp) (hg : gd = true → X.A.guards = some []) (hr : Room k X.A) (hb : Binds X.K fd ps []) (hx : Passes (CX X.prog X.w) X E)
    (I : Inv X pins σ H s) (r : Vals vs us) (h : sp vs H Q E) : wpAny (model X.prog X.w) X.A (call (.ref f) us) (EP X pins σ Q) X.xe s := by
  have hl : (us ++ []).length = ps.length := by rw [List.append_nil, ← r.length]; exact F.len _ _ _ _ h
  have hb2 := hb s us I.kIn hl
  rw [List.append_nil] at hb2
  refine wpAny_call (codeAny_mono (F.go X.A X.stack s H ⟨us, []⟩ us vs Q E hg hr I.env0 hb2 r h) fun r s' z => ?_)
  match r, z with
  | .error e, z => exact hx pins σ H s e s' I z
  | .ok (.ret u), z => exact I.after z
  | .ok .next, z => exact False.elim z
  | .ok .brk, z => exact False.elim z
  | .ok .cont, z => exact False.elim z
theorem pe_callG (F : FnG X.prog X.w X.K X.mg X.base gd k f fd ps sp) (hgd : gd = true → X.A.guards = some []) (hr : Room k X.A) (hg : Gl X x) (hm : X.mg x = some (.ref f)) (hk : PySem.W.keepIn X.K (.ref f) = true) (hb : Binds X.K fd ps []) (hx : Passes (CX X.prog X.w) X E)
    (ha : PA X (e :: es) t) (hdb : (x == ("__debug__" : Str)) = false) (he : starEach (e :: es) X.env = (false, eval e X.env) :: starEach es X.env) (hpl : (backTo pos (starEach es X.env)).any (·.1) = false) :
    PE X (.Call (.Name x p) (e :: es) [] pos) (tCall sp [] E t) := ⟨fun pins s σ H Q I h => wpAny_Call_Name_kw (ld_glob I hg hm (PySem.W.callWith_K (h₀ := X.base) I.ok.mod.kin hk (thn (ha.run pos pins s σ H _ I h) fun us s1 ⟨vs, H1, I1, r, q⟩ => ⟨I1.kIn, by
      have q' : sp (vs ++ []) H1 Q E := q
      rw [List.append_nil] at q'
      exact run_fnG F hgd hr hb hx I1 r q'⟩) he hpl) hdb)⟩
theorem pe_callG0 (F : FnG X.prog X.w X.K X.mg X.base gd k f fd ps sp) (hgd : gd = true → X.A.guards = some []) (hr : Room k X.A) (hg : Gl X x) (hm : X.mg x = some (.ref f)) (hk : PySem.W.keepIn X.K (.ref f) = true) (hb : Binds X.K fd ps []) (hx : Passes (CX X.prog X.w) X E)
    (hdb : (x == ("__debug__" : Str)) = false) : PE X (.Call (.Name x p) [] [] pos) (tCall sp [] E tNil) := ⟨fun pins s σ H Q I h => wpAny_Call_Name_kw (ld_glob I hg hm (PySem.W.callWith_K0 I.kIn hk (run_fnG (us := []) F hgd hr hb hx I .nil h)) hdb)⟩
theorem run_fnW {pins : List (Addr × Obj)} {σ : L2.St} {H : Hp} {s : Shared} {Q : VK} {us : List Value} {vs : List V} (F : FnG X.prog X.w X.K X.mg X.base gd k f fd ps sp) (hg : gd = true → X.A.guards = some []) (hr : Room k X.A) (hb : Binds X.K fd ps []) (hx : PassesW X W)
    (I : Inv X pins σ H s) (r : Vals vs us) (h : sp vs H Q (fun cx dx H' => W cx dx σ H')) : wpAny (model X.prog X.w) X.A (call (.ref f) us) (EP X pins σ Q) X.xe s := by
  have hl : (us ++ []).length = ps.length := by rw [List.append_nil, ← r.length]; exact F.len _ _ _ _ h
  have hb2 := hb s us I.kIn hl
  rw [List.append_nil] at hb2
  refine wpAny_call (codeAny_mono (F.go X.A X.stack s H ⟨us, []⟩ us vs Q _ hg hr I.env0 hb2 r h) fun r s' z => ?_)
  match r, z with
  | .error e, z => exact hx pins σ H s e s' I z
  | .ok (.ret u), z => exact I.after z
  | .ok .next, z => exact False.elim z
  | .ok .brk, z => exact False.elim z
  | .ok .cont, z => exact False.elim z
theorem pe_callW (F : FnG X.prog X.w X.K X.mg X.base gd k f fd ps sp) (hgd : gd = true → X.A.guards = some []) (hr : Room k X.A) (hg : Gl X x) (hm : X.mg x = some (.ref f)) (hk : PySem.W.keepIn X.K (.ref f) = true) (hb : Binds X.K fd ps []) (hx : PassesW X W)
    (ha : PA X (e :: es) t) (hdb : (x == ("__debug__" : Str)) = false) (he : starEach (e :: es) X.env = (false, eval e X.env) :: starEach es X.env) (hpl : (backTo pos (starEach es X.env)).any (·.1) = false) :
    PE X (.Call (.Name x p) (e :: es) [] pos) (tCallW sp W t) := ⟨fun pins s σ H Q I h => wpAny_Call_Name_kw (ld_glob I hg hm (PySem.W.callWith_K (h₀ := X.base) I.ok.mod.kin hk (thn (ha.run pos pins s σ H _ I h) fun us s1 ⟨vs, H1, I1, r, q⟩ => ⟨I1.kIn, run_fnW F hgd hr hb hx I1 r q⟩) he hpl) hdb)⟩
theorem pe_callW0 (F : FnG X.prog X.w X.K X.mg X.base gd k f fd ps sp) (hgd : gd = true → X.A.guards = some []) (hr : Room k X.A) (hg : Gl X x) (hm : X.mg x = some (.ref f)) (hk : PySem.W.keepIn X.K (.ref f) = true) (hb : Binds X.K fd ps []) (hx : PassesW X W)
    (hdb : (x == ("__debug__" : Str)) = false) : PE X (.Call (.Name x p) [] [] pos) (tCallW sp W tNil) := ⟨fun pins s σ H Q I h => wpAny_Call_Name_kw (ld_glob I hg hm (PySem.W.callWith_K0 I.kIn hk (run_fnW (us := []) F hgd hr hb hx I .nil h)) hdb)⟩
end

/-- a function that reckons m -/
def spG (K : PySem.W.Frag) (C : CT) (n : Nat) (m : List PyData → Res PyData) : Sp := fun vs H Q E => vs.length = n ∧ ∃ ds A, Rs K (hid A H) ds vs ∧ Trk A H ∧ LamX.Tabs C.tabs H ∧ Out K C A E H (m ds) fun d H' => ∀ v, R K (hid A H') d v → Q v H'
def mCall (n : Nat) (m : List PyData → Res PyData) (args : SG → Res (List PyData)) (sg : SG) : Res PyData := (args sg).bind fun ds => match Nat.beq ds.length n with | true => m ds | false => .bad
section
variable {X : Cx} {C : CT} {gd : Bool} {k n : Nat} {f : Addr} {fd : FuncData} {ps : List Str} {E : XK} {W : WX} {x : Str} {p pos : Pos} {e a : Expr} {es : List Expr} {t : TA} {m : List PyData → Res PyData} {ma : SG → Res (List PyData)} {me : SG → Res PyData}
theorem call_read {σ : L2.St} {H : Hp} {Q : VK} (h : T X.K C W (mCall n m ma) σ H Q) : tCallW (spG X.K C n m) W (TL X.K C W ma) σ H Q := by
  obtain ⟨sg, A, rl, o⟩ := h
  refine ⟨sg, A, rl, o.bind.mono fun ds H1 s1 o1 vs q => ?_⟩
  split at o1
  · rename_i hn
    exact ⟨by rw [q.length]; exact Nat.eq_of_beq_eq_true hn, ds, A, q, (rl.mono s1).trk, (rl.mono s1).tab, o1⟩
  · exact o1.elim
theorem e_call (F : FnG X.prog X.w X.K X.mg X.base gd k f fd ps (spG X.K C n m)) (hgd : gd = true → X.A.guards = some []) (hr : Room k X.A) (hg : Gl X x) (hm : X.mg x = some (.ref f)) (hk : PySem.W.keepIn X.K (.ref f) = true) (hb : Binds X.K fd ps []) (hx : PassesW X W)
    (ha : PA X (e :: es) (TL X.K C W ma)) (hdb : (x == ("__debug__" : Str)) = false) (he : starEach (e :: es) X.env = (false, eval e X.env) :: starEach es X.env) (hpl : (backTo pos (starEach es X.env)).any (·.1) = false) :
    PE X (.Call (.Name x p) (e :: es) [] pos) (T X.K C W (mCall n m ma)) := pe_imp (pe_callW F hgd hr hg hm hk hb hx ha hdb he hpl) fun σ H Q h => call_read h
theorem e_call0 (F : FnG X.prog X.w X.K X.mg X.base gd k f fd ps (spG X.K C n m)) (hgd : gd = true → X.A.guards = some []) (hr : Room k X.A) (hg : Gl X x) (hm : X.mg x = some (.ref f)) (hk : PySem.W.keepIn X.K (.ref f) = true) (hb : Binds X.K fd ps []) (hx : PassesW X W)
    (hdb : (x == ("__debug__" : Str)) = false) : PE X (.Call (.Name x p) [] [] pos) (T X.K C W (mCall n m mNil)) := pe_imp (pe_callW0 F hgd hr hg hm hk hb hx hdb) fun σ H Q h => by
  obtain ⟨sg, A, rl, o⟩ := h
  show spG X.K C n m [] H Q (fun cx dx H' => W cx dx σ H')
  have o1 : Out X.K C A (fun cx dx H' => W cx dx σ H') H (match Nat.beq ([] : List PyData).length n with | true => m [] | false => .bad) fun d H' => ∀ v, R X.K (hid A H') d v → Q v H' := o
  split at o1
  · rename_i hn
    exact ⟨Nat.eq_of_beq_eq_true hn, [], A, Rs.nil, rl.trk, rl.tab, o1⟩
  · exact o1.elim

/-! raise C(e) -/
/-- __init__(self, f): self.f = f -/
def spI (K : PySem.W.Frag) (f : Str) : Sp := fun vs H Q _ => ∃ (a C : Addr) (y : V), vs = [.ref a, y] ∧ OexC K C ∧ PySem.W.findIn K (.ref C) f = some none ∧ H a = some (exo a C none) ∧ ∀ dx, H dx = none → dx ≠ a → Q .non (upd (upd H dx (exd dx [(f, y)])) a (exo a C (some dx)))
/-- the class at C.cls c with the field C.fld c -/
structure ClsOk (P : Program) (w : World) (K : PySem.W.Frag) (mg : Str → Option Value) (base : Heap) (C : CT) (k : Nat) (c : Nat) : Prop where
  oex : OexC K (C.cls c)
  no : PySem.W.findIn K (.ref (C.cls c)) (C.fld c) = some none
  ini : ∃ fI fd ps, PySem.W.findIn K (.ref (C.cls c)) "__init__" = some (some (.ref fI)) ∧ PySem.W.typeIn K (.ref fI) = some (.type "function") ∧ FnOk P w K mg base (CX P w) k fI fd ps (spI K (C.fld c)) ∧ Binds K fd ps []
def mRaise (c : Nat) (me : SG → Res PyData) (sg : SG) : Res Fl := (me sg).bind fun d => .exn c d
theorem s_raise {c : Nat} {pos2 : Pos} (hc : X.calm = true) (tk : Takes X (WE E)) (G : ClsOk X.prog X.w X.K X.mg X.base C k c) (hr : Room (k + 1) X.A) (hg : Gl X x) (hm : X.mg x = some (.ref (C.cls c))) (hx : Passes (CX X.prog X.w) X (fun _ _ _ => False)) (hdb : (x == ("__debug__" : Str)) = false)
    (he : starEach [e] X.env = (false, eval e X.env) :: starEach [] X.env) (ha : PE X e (T X.K C (WE E) me)) : PS X (.Raise (some (.Call (.Name x p) [e] [] pos)) none pos2) (TSt X.K C E (mRaise c me)) := by
  obtain ⟨fI, fd, ps, h1, h2, h3, h4⟩ := G.ini
  refine ps_imp (ps_raise hc tk (pmk_oex G.oex h1 h2 h3 hr h4 .nil hx hg hm (pa_cons ha pa_nil he) hdb he rfl)) fun D σ H ⟨sg, A, A0, Hi, rl, b, o⟩ => ?_
  refine ⟨sg, A, rl, (SOut.bind (σ := σ) b o).mono fun d H1 s1 o1 v q => ?_⟩
  refine ⟨by show 1 ≤ 1000; decide, fun a hn => ⟨a, C.cls c, v, rfl, G.oex, G.no, upd_same, fun dx hd hne => ⟨rfl, dx, _, upd_same, by rw [upd_ne hne, upd_same], ?_, ?_⟩⟩⟩
  · rw [upd_ne hne] at hd; exact hd
  · have hd' : H1 dx = none := by rw [upd_ne hne] at hd; exact hd
    have e2 : upd (del (upd (upd (upd H1 a (exo a (C.cls c) none)) dx (exd dx [(C.fld c, v)])) a (exo a (C.cls c) (some dx))) a) dx (.xd [(C.fld c, v)]) = upd H1 dx (.xd [(C.fld c, v)]) := by
      funext z
      by_cases hz : z = dx
      · rw [hz, upd_same, upd_same]
      · rw [upd_ne hz, upd_ne hz]
        by_cases ha : z = a
        · rw [ha, del_same, hn]
        · rw [del_ne ha, upd_ne ha, upd_ne hz, upd_ne ha]
    rw [e2]
    have sm := Sm.new (TT := C.tabs) (o := .xd [(C.fld c, v)]) hd'
    have t1 := (rl.mono s1).trk
    exact o1 A _ _ _ ((b.mono s1).mono sm) (t1.mono sm.e) sm.tq ⟨rfl, dx, v, rfl, hid_new t1 hd', q.mono (hid_sm sm)⟩
end
end Ev

namespace Ev
variable [Wd]
open PySem PySem.Spec PyProof.Rows L2
open PySem.W.Z (ltB leB eqB ltB_iff leB_iff eqB_iff)

/-! what is seen of the text -/
def notStar : Expr → Bool
  | .Starred .. => false
  | _ => true
def notSlice : Expr → Bool
  | .Slice .. => false
  | _ => true
def notSet : Expr → Bool
  | .Set .. => false
  | _ => true
def notComp : Expr → Bool
  | .ListComp .. => false
  | .SetComp .. => false
  | .DictComp .. => false
  | _ => true
def isTup : Expr → Bool
  | .Tuple .. => true
  | _ => false
def plainT : Expr → Bool
  | .Call .. => true
  | .Name .. => true
  | .Subscript .. => true
  | .BinOp .. => true
  | .Constant .. => true
  | _ => false
theorem star_cons {e : Expr} {es : List Expr} {env : Env} (h : notStar e = true) : starEach (e :: es) env = (false, eval e env) :: starEach es env := by
  cases e <;> first | rfl | cases h
theorem noStars {es : List Expr} {env : Env} {pos : Pos} (h : es.all notStar = true) : (backTo pos (starEach es env)).any (·.1) = false := by
  induction es with
  | nil => rfl
  | cons e es ih =>
    rw [List.all_cons, Bool.and_eq_true] at h
    rw [star_cons h.1]
    show (false || (backTo pos (starEach es env)).any (·.1)) = false
    rw [ih h.2]; rfl
theorem slice_plain {b : Expr} (h : notSlice b = true) : PlainIx b := by
  intro o i
  cases b <;> first | rfl | cases h
theorem set_plain {e : Expr} {env : Env} (h : notSet e = true) (x : Value) : foldedSetIterable e env x = pure x := by
  cases e <;> first | rfl | cases h
theorem sw_none {e : Expr} {t : Option Expr} {l : Nat} {env : Env} (h : notComp e = true) : swapsWith e t l env = pure false := by
  cases e <;> first | rfl | cases h
theorem sw_sole {tg e : Expr} {l : Nat} {env : Env} (h : notComp e = true) : swapsWithSole [tg] e l env = pure false := sw_none h
theorem sw_stores {tg e : Expr} {env : Env} (h : isTup e = false) : swappedStores [tg] e env = pure none := by
  cases e <;> first | cases h | skip
  all_goals (unfold swappedStores; cases tg <;> rfl)
theorem sw_cell {elt : Expr} {gs : List Comprehension} {scope : Scope} {pos py : Pos} {y : Str} {l : Nat} {env : Env} (hy : env.scope.names.lookup y ≠ some .local) : swapsWith (.ListComp elt gs scope pos) (some (.Name y py)) l env = pure false := by
  have ky : (env.kindOf y == some NameKind.local) = false := by
    have : env.kindOf y ≠ some .local := hy
    simpa using this
  unfold swapsWith
  simp only [ky, Bool.and_false, Bool.false_and]
theorem sw_line {elt : Expr} {gs : List Comprehension} {scope : Scope} {pos py : Pos} {y : Str} {l : Nat} {env : Env} (hl : (py.line == pos.line) = false) : swapsWith (.ListComp elt gs scope pos) (some (.Name y py)) l env = pure false := by
  unfold swapsWith
  simp only [Expr.pos, hl, Bool.and_false, Bool.false_and]
theorem sw_cellD {ky vl : Expr} {gs : List Comprehension} {scope : Scope} {pos py : Pos} {y : Str} {l : Nat} {env : Env} (hy : env.scope.names.lookup y ≠ some .local) : swapsWith (.DictComp ky vl gs scope pos) (some (.Name y py)) l env = pure false := by
  have ky : (env.kindOf y == some NameKind.local) = false := by
    have : env.kindOf y ≠ some .local := hy
    simpa using this
  unfold swapsWith
  simp only [ky, Bool.and_false, Bool.false_and]
theorem sw_lineD {ky vl : Expr} {gs : List Comprehension} {scope : Scope} {pos py : Pos} {y : Str} {l : Nat} {env : Env} (hl : (py.line == pos.line) = false) : swapsWith (.DictComp ky vl gs scope pos) (some (.Name y py)) l env = pure false := by
  unfold swapsWith
  simp only [Expr.pos, hl, Bool.and_false, Bool.false_and]
theorem few_one {a : Expr} {env : Env} {cpos : Pos} (h : notStar a = true) : ((backTo cpos (starEach [a] env)).all (fun x => !x.1) && (backToKw cpos (keywordEach [] env)).all (fun x => x.1.isSome) && decide (([a] : List Expr).length + ([] : List Keyword).length + (if ([] : List Keyword).isEmpty then 0 else 1) < 30)) = true := by
  rw [star_cons h]; rfl
theorem plain_true {a : Expr} {env : Env} (h : plainT a = true) : ∀ whole, isTrue a env whole = (do let v ← whole; standAt a.pos; holding [v] (truthy v)) := by
  intro whole
  cases a <;> first | rfl | cases h
theorem sw_par {x y : Str} {px py pt pt2 : Pos} {kt k2 : Nat} {a b : Expr} {env : Env} (hk : env.scope.kind = .function) (hx : env.scope.names.lookup x = some .local) (hy : env.scope.names.lookup y = some .local) (hl : (py.line == px.line) = true) (hne : (x == y) = false)
    (ha : notStar a = true) (hb : notStar b = true) (hf : (foldedForSure 8 a && foldedForSure 8 b) = false) (hc : (constantsAlone 8 a && constantsAlone 8 b) = false) :
    swappedStores [.Tuple [.Name x px, .Name y py] kt pt] (.Tuple [a, b] k2 pt2) env = pure (some [x, y]) := by
  have kx : env.kindOf x = some .local := hx
  have ky : env.kindOf y = some .local := hy
  have hbk : env.blockKind = .function := by unfold Env.blockKind; rw [hk]; rfl
  have hst : ([a, b].any fun | .Starred .. => true | _ => false) = false := by
    cases a <;> first | (cases ha; done) | skip
    all_goals (cases b <;> first | (cases hb; done) | rfl)
  have hne' : (y == x) = false := by
    rw [beq_eq_false_iff_ne] at hne ⊢
    exact fun z => hne z.symm
  unfold swappedStores
  simp [kx, ky, hbk, hst, Expr.pos, hl, List.eraseDups, List.eraseDupsBy, List.eraseDupsBy.loop, hne, hne', hf, hc]
  have hl' : py.line = px.line := by simpa using hl
  have e1 : ∀ f : Expr → Option Str, f (.Name y py) = some y → List.filterMap f [.Name y py] = [y] := fun f hf => by simp [List.filterMap, hf]
  have hyx : (y == x) = false := hne'
  refine (if_neg ?_).trans ?_
  · rintro (z | z)
    · cases a <;> first | (cases ha; done) | cases z
    · cases b <;> first | (cases hb; done) | cases z
  · rw [e1 _ (by simp [ky, hl'])]
    simp [List.eraseDupsBy.loop, hyx, hne]
theorem sw_fold {px py pt pt2 : Pos} {ts : List Expr} {kt k2 : Nat} {vs : List Expr} {env : Env} (h : vs.all (foldedForSure 8) = true) : swappedStores [.Tuple ts kt pt] (.Tuple vs k2 pt2) env = pure none := by
  unfold swappedStores
  simp only [h, if_true]
  repeat' split
  all_goals first | rfl | contradiction
theorem sw_long {pt pt2 : Pos} {ts : List Expr} {kt k2 : Nat} {vs : List Expr} {env : Env} (h : (ts.length == 2 || ts.length == 3) = false) : swappedStores [.Tuple ts kt pt] (.Tuple vs k2 pt2) env = pure none := by
  unfold swappedStores
  simp [h]
def isName : Expr → Bool
  | .Name .. => true
  | _ => false
theorem assign_one {tg : Expr} {env : Env} (h : notStar tg = true) : (assignEach [tg] env).map (·.2) = [assign tg env] := by
  cases tg <;> first | rfl | cases h
theorem assign_cons {e : Expr} {es : List Expr} {env : Env} (h : notStar e = true) : (assignEach (e :: es) env).map (·.2) = assign e env :: (assignEach es env).map (·.2) := by
  cases e <;> first | rfl | cases h
theorem assign_len : ∀ {es : List Expr} {env : Env}, (assignEach es env).length = es.length
  | [], env => rfl
  | e :: es, env => by
    have := assign_len (es := es) (env := env)
    cases e <;> (show (assignEach es env).length + 1 = _; rw [this]; rfl)
theorem assign_nostar : ∀ {es : List Expr} {env : Env}, es.all notStar = true → (assignEach es env).findIdx? (·.1) = none
  | [], env, _ => rfl
  | e :: es, env, h => by
    rw [List.all_cons, Bool.and_eq_true] at h
    have ih := assign_nostar (env := env) h.2
    rw [List.findIdx?_eq_none_iff] at ih ⊢
    intro x hx
    have hx' : x = (false, assign e env) ∨ x ∈ assignEach es env := by
      cases e <;> first | (cases h.1; done) | exact List.mem_cons.mp hx
    rcases hx' with rfl | hx'
    · rfl
    · exact ih x hx'

/-! names -/
def nk : List (Str × NameKind) → Str → Option NameKind
  | [], _ => none
  | p :: l, x => match strEq x p.1 with | true => some p.2 | false => nk l x
theorem nk_eq : ∀ (l : List (Str × NameKind)) (x : Str), nk l x = l.lookup x
  | [], x => rfl
  | (y, k) :: l, x => by
    rw [nk, List.lookup_cons, ← nk_eq l x, strEq_eq]
    cases x == y <;> rfl
def visK : Option NameKind → Bool
  | some .local => true
  | some .cell => true
  | some .free => true
  | _ => false
def glK : Option NameKind → Bool
  | some .globalImplicit => true
  | _ => false
def locK : Option NameKind → Bool
  | some .local => true
  | some .cell => true
  | _ => false
def isLoc : Option NameKind → Bool
  | some .local => true
  | _ => false
theorem vis_of {sc : Scope} {x : Str} (h : visK (nk sc.names x) = true) : Vis sc x := by
  rw [nk_eq] at h
  unfold Vis
  unfold visK at h
  split at h
  · rename_i e; exact .inl e
  · rename_i e; exact .inr (.inl e)
  · rename_i e; exact .inr (.inr e)
  · cases h
theorem gl_of {sc : Scope} {x : Str} (h : glK (nk sc.names x) = true) : sc.names.lookup x = some .globalImplicit := by
  rw [nk_eq] at h
  unfold glK at h
  split at h
  · rename_i e; exact e
  · cases h
theorem loc_of {l : List (Str × NameKind)} {x : Str} (h : locK (nk l x) = true) : l.lookup x = some .local ∨ l.lookup x = some .cell := by
  rw [nk_eq] at h
  unfold locK at h
  split at h
  · rename_i e; exact .inl e
  · rename_i e; exact .inr e
  · cases h
theorem isLoc_of {l : List (Str × NameKind)} {x : Str} (h : isLoc (nk l x) = true) : l.lookup x = some .local := by
  rw [nk_eq] at h
  unfold isLoc at h
  split at h
  · rename_i e; exact e
  · cases h
def nthS : List Str → Nat → Str → Bool
  | [], _, _ => false
  | y :: l, i, x => match i with | 0 => strEq y x | i + 1 => nthS l i x
theorem nthS_at : ∀ {l : List Str} {i : Nat} {x : Str}, nthS l i x = true → l[i]? = some x
  | [], i, x, h => by simp [nthS] at h
  | y :: l, 0, x, h => by
    have : strEq y x = true := h
    rw [strEq_iff] at this
    simp [this]
  | y :: l, i + 1, x, h => by
    have : nthS l i x = true := h
    simpa using nthS_at this
def nthP {α : Type} : List (Str × α) → Nat → Str → Option α
  | [], _, _ => none
  | p :: l, i, x => match i with | 0 => (match strEq p.1 x with | true => some p.2 | false => none) | i + 1 => nthP l i x
theorem nthP_at {α : Type} : ∀ {l : List (Str × α)} {i : Nat} {x : Str} {a : α}, nthP l i x = some a → l[i]? = some (x, a)
  | [], i, x, a, h => by simp [nthP] at h
  | p :: l, 0, x, a, h => by
    have h' : (match strEq p.1 x with | true => some p.2 | false => none) = some a := h
    split at h'
    · rename_i e
      rw [strEq_iff] at e
      cases h'
      simp [← e]
    · cases h'
  | p :: l, i + 1, x, a, h => by
    have : nthP l i x = some a := h
    simpa using nthP_at this
def natEqs : List Nat → List Nat → Bool := natsEq
def subNats : List Nat → List Nat → Bool
  | [], _ => true
  | i :: l, vs => memN i vs && subNats l vs
where memN : Nat → List Nat → Bool
  | _, [] => false
  | i, v :: vs => match Nat.beq i v with | true => true | false => memN i vs
theorem memN_of : ∀ {vs : List Nat} {i : Nat}, subNats.memN i vs = true → i ∈ vs
  | [], i, h => by simp [subNats.memN] at h
  | v :: vs, i, h => by
    unfold subNats.memN at h
    split at h
    · rename_i e
      rw [Nat.eq_of_beq_eq_true e]; exact List.mem_cons_self
    · exact List.mem_cons_of_mem _ (memN_of h)
theorem subNats_of : ∀ {l vs : List Nat}, subNats l vs = true → ∀ i ∈ l, i ∈ vs
  | [], vs, h, i, hi => by cases hi
  | j :: l, vs, h, i, hi => by
    simp only [subNats, Bool.and_eq_true] at h
    rcases List.mem_cons.mp hi with rfl | hi
    · exact memN_of h.1
    · exact subNats_of h.2 i hi

/-! operators -/
inductive O2 where
  | add | sub | mul | pow | fdiv | mod
def fdivP : PyData → PyData → Option PyData
  | .int i, .int j => match ltB 0 j && ltB j 1073741824 with | true => some (.int (i / j)) | false => none
  | _, _ => none
def modP : PyData → PyData → Option PyData
  | .int i, .int j => match ltB 0 j with | true => some (.int (i % j)) | false => none
  | _, _ => none
def O2.f : O2 → PyData → PyData → Option PyData
  | .add => addP
  | .sub => subP
  | .mul => mulP
  | .pow => powP
  | .fdiv => fdivP
  | .mod => modP
def O2.is : O2 → Operator → Bool
  | .add, .Add => true
  | .sub, .Sub => true
  | .mul, .Mult => true
  | .pow, .Pow => true
  | .fdiv, .FloorDiv => true
  | .mod, .Mod => true
  | _, _ => false
inductive Cp where
  | eq | ne | lt | le | gt | ge | inn | nin | isN | notN
def gtB (i j : Int) : Bool := ltB j i
def geB (i j : Int) : Bool := leB j i
def Cp.f : Cp → PyData → PyData → Option PyData
  | .eq => eqP
  | .ne => neP
  | .lt => cmpI ltB
  | .le => cmpI leB
  | .gt => cmpI gtB
  | .ge => cmpI geB
  | .inn => fun a b => inD a b
  | .nin => fun a b => notInD a b
  | .isN => isNP
  | .notN => notNP
def Cp.is : Cp → CmpOp → Bool
  | .eq, .Eq => true
  | .ne, .NotEq => true
  | .lt, .Lt => true
  | .le, .LtE => true
  | .gt, .Gt => true
  | .ge, .GtE => true
  | .inn, .In => true
  | .nin, .NotIn => true
  | .isN, .Is => true
  | .notN, .IsNot => true
  | _, _ => false
section
variable {X : Cx}
theorem f_fdiv : OpF X.K (rI CDiv fun i j => .int (i / j)) fdivP := by
  intro TT A H dx dy d x y Q e t rx ry k
  unfold fdivP at e
  split at e
  · split at e
    · rename_i h
      rw [Bool.and_eq_true, ltB_iff, ltB_iff] at h
      cases e
      exact ⟨_, _, rx.int, ry.int, h, k _ _ (Sm.refl H) R.int'⟩
    · cases e
  · cases e
theorem f_mod : OpF X.K (rI (fun _ j => 0 < j) fun i j => .int (i % j)) modP := by
  intro TT A H dx dy d x y Q e t rx ry k
  unfold modP at e
  split at e
  · split at e
    · rename_i h
      rw [ltB_iff] at h
      cases e
      exact ⟨_, _, rx.int, ry.int, h, k _ _ (Sm.refl H) R.int'⟩
    · cases e
  · cases e
theorem O2.ok {o : O2} {op : Operator} (h : o.is op = true) : ∃ r, OpR X (binaryOp op) r ∧ OpF X.K r o.f := by
  cases o <;> cases op <;> first | (cases h; done) | skip
  · exact ⟨_, op_add4, f_add⟩
  · exact ⟨_, op_sub, f_sub⟩
  · exact ⟨_, op_mul2, f_mul⟩
  · exact ⟨_, op_pow, f_pow⟩
  · exact ⟨_, op_fdiv, f_fdiv⟩
  · exact ⟨_, op_mod, f_mod⟩
theorem Cp.ok (hu : X.A.units + 65 < cLine) {o : Cp} {op : CmpOp} (h : o.is op = true) : ∃ r, OpR X (compareOp op) r ∧ OpF X.K r o.f := by
  cases o <;> cases op <;> first | (cases h; done) | skip
  · exact ⟨_, op_eqD (by omega), f_eq⟩
  · exact ⟨_, op_neD (by omega), f_ne⟩
  · exact ⟨_, op_lt, f_cmpI fun i j => by rw [ltB_eq]⟩
  · exact ⟨_, op_le, f_cmpI fun i j => by rw [leB_eq]⟩
  · exact ⟨_, op_gt, f_cmpI fun i j => by unfold gtB; rw [ltB_eq]⟩
  · exact ⟨_, op_ge, f_cmpI fun i j => by unfold geB; rw [leB_eq]⟩
  · exact ⟨_, (op_in2 hu).or (op_inK (by omega)), f_inD f_in⟩
  · exact ⟨_, (op_notIn2 hu).or (op_ninK (by omega)), f_ninD f_notIn⟩
  · exact ⟨_, op_isN, f_isN⟩
  · exact ⟨_, op_notN, f_notN⟩
end
/-- built-ins of one argument -/
inductive B1 where
  | len | any | all | tuple | list | repr
def B1.nm : B1 → Str
  | .len => "len"
  | .any => "any"
  | .all => "all"
  | .tuple => "tuple"
  | .list => "list"
  | .repr => "repr"
def B1.f : B1 → PyData → Option PyData
  | .len => lenD
  | .any => anyP
  | .all => allP
  | .tuple => tupP
  | .list => lstP
  | .repr => repP
section
variable {X : Cx} {C : CT} {W : WX} {a : Expr} {ma : SG → Res PyData} {pos p : Pos}
theorem B1.ok (hc : X.calm = true) (hgd : X.A.guards = some []) (hu : X.A.units + 65 < cLine) (b : B1) (hg : Gl X b.nm) (hm : X.mg b.nm = none) (ha : PE X a (TB X.K C W ma)) (hs : notStar a = true) : PE X (.Call (.Name b.nm p) [a] [] pos) (T X.K C W (m1 b.f ma)) := by
  have hs' := star_cons (es := []) (env := X.env) hs
  cases b
  · exact e_blt cr_lenD f_lenD hg hm PySem.boot_len (by decide) (by decide) ha hs'
  · exact e_blt (cr_any hc) f_any hg hm (by decide +kernel) (by decide) (by decide) ha hs'
  · exact e_blt (cr_all hc) f_all hg hm (by decide +kernel) (by decide) (by decide) ha hs'
  · exact e_bty call_tuple_of f_tuple hg hm (by decide +kernel) (by decide) (by decide) ha hs'
  · exact e_bty call_list_of f_list hg hm (by decide +kernel) (by decide) (by decide) ha hs'
  · exact e_blt (call_repr hgd hu) f_repr hg hm (by decide +kernel) (by decide) (by decide) ha hs'
end
end Ev

namespace Ev
variable [Wd]
open PySem PySem.Spec PyProof.Rows L2
open PySem.W.Z (ltB leB eqB ltB_iff leB_iff eqB_iff)

section
variable {X : Cx} {C : CT} {W : WX} {e a b : Expr} {m ma mb : SG → Res PyData} {pos p : Pos}
/-! more new lists -/
theorem n_list (hg : Gl X "list") (hm : X.mg "list" = none) (ha : PE X a (TB X.K C W ma)) (hs : notStar a = true) : PE X (.Call (.Name "list" p) [a] [] pos) (TN X.K C W (m1L lstL ma)) :=
  pe_imp (pe_callTy call_list_of hg hm (by decide +kernel) (pa_cons ha pa_nil (star_cons hs)) (by decide) (by decide) (star_cons hs) rfl) fun σ H Q ⟨sg, A, rl, o⟩ => by
    refine ⟨sg, A, rl, o.bind.mono fun d H1 s1 o1 v q => ?_⟩
    obtain ⟨l, e, k⟩ := o1.of
    unfold lstL at e
    split at e
    · cases e
      obtain ⟨a', vs, e1, h1, r1⟩ := q.list
      exact ⟨a', vs, by rw [e1], .inl (SqL.of h1), fun n hn => k H1 (Sm.refl _) n vs hn r1⟩
    · cases e
      obtain ⟨a', vs, e1, h1, r1⟩ := q.tup
      exact ⟨a', vs, by rw [e1], .inr (sqT_mono hid_le h1), fun n hn => k H1 (Sm.refl _) n vs hn r1⟩
    · cases e
theorem n_rng {q pos' : Pos} (hc : X.calm = true) (hg : Gl X "list") (hm : X.mg "list" = none) (hg2 : Gl X "range") (hm2 : X.mg "range" = none) (ha : PE X a (TB X.K C W ma)) (hs : notStar a = true) :
    PE X (.Call (.Name "list" p) [.Call (.Name "range" q) [a] [] pos'] [] pos) (TN X.K C W (m1L rgL ma)) :=
  pe_imp (pe_listRg hc hg hm (prg_1 hg2 hm2 ha (star_cons hs)) rfl) fun σ H Q ⟨sg, A, rl, o⟩ => by
    refine ⟨sg, A, rl, o.bind.mono fun dx H1 s1 o1 x rx => ?_⟩
    obtain ⟨l, e, k⟩ := o1.of
    unfold rgL at e
    split at e
    · rename_i i
      split at e
      · rename_i h
        cases e
        simp only [Bool.and_eq_true, leB_iff] at h
        refine ⟨i, rx.int, RgOk.of_le (by omega) (by omega) (by omega) (by omega), fun l hl => ?_⟩
        have e2 : rgV 0 i = (List.range' 0 i.toNat).map fun (i : Nat) => V.int (i : Int) := by
          unfold rgV
          rw [List.range_eq_range']
          simp
        rw [e2]
        exact k H1 (Sm.refl _) l _ hl (rgP_rs _ _)
      · cases e
    · cases e
/-! repr(a) != repr(b) where a and b are the same -/
mutual
def same : PyData → PyData → Bool
  | .none, y => match y with | .none => true | _ => false
  | .bool a, y => match y with | .bool b => (match a with | true => b | false => !b) | _ => false
  | .int i, y => match y with | .int j => eqB i j | _ => false
  | .str a, y => match y with | .str b => strEq a b | _ => false
  | .list xs, y => match y with | .list ys => sames xs ys | _ => false
  | .tuple xs, y => match y with | .tuple ys => sames xs ys | _ => false
  | .dict [], y => match y with | .dict [] => true | _ => false
  | .dict (_ :: _), _ => false
def sames : List PyData → List PyData → Bool
  | [], y => match y with | [] => true | _ => false
  | x :: xs, y => match y with | y :: ys => (match same x y with | true => sames xs ys | false => false) | [] => false
end
mutual
theorem same_eq : ∀ {a b : PyData}, same a b = true → a = b
  | .none, b, h => by cases b <;> first | rfl | cases h
  | .bool x, b, h => by cases b <;> first | (cases h; done) | (rename_i y; cases x <;> cases y <;> first | rfl | cases h)
  | .int i, b, h => by cases b <;> first | (cases h; done) | (rename_i j; rw [(eqB_iff i j).mp h])
  | .str x, b, h => by cases b <;> first | (cases h; done) | (rename_i y; rw [strEq_iff.mp h])
  | .list xs, b, h => by cases b <;> first | (cases h; done) | (rename_i ys; rw [sames_eq (show sames xs ys = true from h)])
  | .tuple xs, b, h => by cases b <;> first | (cases h; done) | (rename_i ys; rw [sames_eq (show sames xs ys = true from h)])
  | .dict [], b, h => by
    cases b with
    | dict l =>
      cases l with
      | nil => rfl
      | cons _ _ => cases h
    | _ => cases h
  | .dict (_ :: _), b, h => by cases h
theorem sames_eq : ∀ {a b : List PyData}, sames a b = true → a = b
  | [], b, h => by cases b <;> first | rfl | cases h
  | x :: xs, b, h => by
    cases b with
    | nil => cases h
    | cons y ys =>
      have h' : (match same x y with | true => sames xs ys | false => false) = true := h
      split at h'
      · rename_i e
        rw [same_eq e, sames_eq h']
      · cases h'
end
def rneP (x y : PyData) : Option PyData := match same x y && okRep x && isSeq x with | true => some (.bool false) | false => none
theorem rep_some {d : PyData} (h1 : okRep d = true) (h2 : isSeq d = true) : repP d = some (.str d.shown) := by
  cases d <;> first | (cases h2; done) | (show (match okRep _ with | true => _ | false => _) = _; rw [h1])
def neS : PyData → PyData → Option PyData
  | .str a, .str b => some (.bool (!decide (a = b)))
  | _, _ => none
theorem f_neS : OpF X.K rNe neS := by
  intro TT A H dx dy d x y Q e t rx ry k
  unfold neS at e
  split at e
  · cases e
    have q := k _ H (Sm.refl H) R.bool'
    rw [rx.str, ry.str]
    refine ⟨rfl, ?_⟩
    simpa using q
  · cases e
def mRne (ma mb : SG → Res PyData) (sg : SG) : Res PyData := (noA (ma sg)).bind fun x => (noX (mb sg)).bind fun y => Res.of (rneP x y)
theorem rne_ok {x y d : PyData} (h : rneP x y = some d) : d = .bool false ∧ repP x = some (.str x.shown) ∧ repP y = some (.str x.shown) := by
  unfold rneP at h
  split at h
  · rename_i q
    cases h
    simp only [Bool.and_eq_true] at q
    have e := same_eq q.1.1
    subst e
    exact ⟨rfl, rep_some q.1.2 q.2, rep_some q.1.2 q.2⟩
  · cases h
theorem mRne_noask {sg : SG} {n : Int} {f : Int → Res PyData} : mRne ma mb sg ≠ .ask n f := fun h => by
  unfold mRne at h
  cases ha : ma sg with
  | ok x =>
    rw [ha] at h
    cases hb : mb sg with
    | ok y =>
      rw [hb] at h
      have h' : Res.of (rneP x y) = .ask n f := h
      cases hn : rneP x y with
      | none => rw [hn] at h'; cases h'
      | some d => rw [hn] at h'; cases h'
    | exn c d => rw [hb] at h; cases h
    | bad => rw [hb] at h; cases h
    | ask n f => rw [hb] at h; cases h
  | exn c d => rw [ha] at h; cases h
  | bad => rw [ha] at h; cases h
  | ask n f => rw [ha] at h; cases h
theorem rne_eq {sg : SG} : ∀ r : Res PyData, mRne ma mb sg = r → r ≠ .bad → m2 neS (m1 repP ma) (m1 repP mb) sg = r := by
  intro r hr hb
  unfold mRne at hr
  unfold m2 m1
  cases ha : ma sg with
  | ok x =>
    rw [ha] at hr
    cases hb' : mb sg with
    | ok y =>
      rw [hb'] at hr
      have hr' : Res.of (rneP x y) = r := hr
      cases hn : rneP x y with
      | none => rw [hn] at hr'; exact absurd hr'.symm hb
      | some d =>
        rw [hn] at hr'
        obtain ⟨rfl, e1, e2⟩ := rne_ok hn
        show ((Res.of (repP x)).bind fun x => (Res.of (repP y)).bind fun y => Res.of (neS x y)) = r
        rw [e1, e2, ← hr']
        show Res.of (some (PyData.bool (!decide (x.shown = x.shown)))) = _
        simp
    | exn c d => rw [hb'] at hr; exact absurd hr.symm hb
    | bad => rw [hb'] at hr; exact absurd hr.symm hb
    | ask n f => rw [hb'] at hr; exact absurd hr.symm hb
  | exn c d => rw [ha] at hr; exact hr
  | bad => rw [ha] at hr; exact absurd hr.symm hb
  | ask n f => rw [ha] at hr; exact absurd hr.symm hb
theorem e_rne {q q2 p2 : Pos} (hgd : X.A.guards = some []) (hu : X.A.units + 65 < cLine) (hg : Gl X "repr") (hm : X.mg "repr" = none) (ha : PE X a (TB X.K C W ma)) (hb : PE X b (TB X.K C W mb)) (hsa : notStar a = true) (hsb : notStar b = true) :
    PE X (.Compare (.Call (.Name "repr" p) [a] [] q) [.NotEq] [.Call (.Name "repr" p2) [b] [] q2] pos) (T X.K C W (mRne ma mb)) := by
  have h1 : PE X (.Call (.Name "repr" p) [a] [] q) (T X.K C W (m1 repP ma)) := e_blt (call_repr hgd hu) f_repr hg hm (by decide +kernel) (by decide) (by decide) ha (star_cons hsa)
  have h2 : PE X (.Call (.Name "repr" p2) [b] [] q2) (T X.K C W (m1 repP mb)) := e_blt (call_repr hgd hu) f_repr hg hm (by decide +kernel) (by decide) (by decide) hb (star_cons hsb)
  refine pe_imp (e_cmp op_ne f_neS (pe_tb h1) (pe_tb h2) rfl) fun σ H Q ⟨sg, A, rl, o⟩ => ⟨sg, A, rl, ?_⟩
  have e := rne_eq (ma := ma) (mb := mb) (sg := sg)
  cases hr : mRne ma mb sg with
  | bad => rw [hr] at o; exact o.elim
  | ask n f => exact absurd hr mRne_noask
  | ok d => rw [e _ hr (by intro z; cases z)]; rw [hr] at o; exact o
  | exn c d => rw [e _ hr (by intro z; cases z)]; rw [hr] at o; exact o
theorem tp_of {m : SG → Res PyData} {σ : L2.St} {H : Hp} {Q : Bool → Hp → Prop} (h : TP X.K C W (mT m) σ H Q) : T X.K C W m σ H (fun v H' => ∃ b, v = .bl b ∧ Q b H') := by
  obtain ⟨sg, A, rl, o⟩ := h
  refine ⟨sg, A, rl, o.bind.mono fun d H1 s1 o1 v q => ?_⟩
  cases d with
  | bool k =>
    unfold R at q
    exact ⟨k, q, o1 H1 (Sm.refl H1)⟩
  | _ => exact o1.elim
theorem t_rne {q q2 p2 : Pos} (hgd : X.A.guards = some []) (hu : X.A.units + 65 < cLine) (hg : Gl X "repr") (hm : X.mg "repr" = none) (ha : PE X a (TB X.K C W ma)) (hb : PE X b (TB X.K C W mb)) (hsa : notStar a = true) (hsb : notStar b = true) :
    PT X (.Compare (.Call (.Name "repr" p) [a] [] q) [.NotEq] [.Call (.Name "repr" p2) [b] [] q2] pos) (TP X.K C W (mT (mRne ma mb))) := by
  have h1 : PE X (.Call (.Name "repr" p) [a] [] q) (T X.K C W (m1 repP ma)) := e_blt (call_repr hgd hu) f_repr hg hm (by decide +kernel) (by decide) (by decide) ha (star_cons hsa)
  have h2 : PE X (.Call (.Name "repr" p2) [b] [] q2) (T X.K C W (m1 repP mb)) := e_blt (call_repr hgd hu) f_repr hg hm (by decide +kernel) (by decide) (by decide) hb (star_cons hsb)
  refine pt_imp (p_cmp op_ne f_neS (pe_tb h1) (pe_tb h2) rfl) fun σ H Q ⟨sg, A, rl, o⟩ => ⟨sg, A, rl, ?_⟩
  have e := rne_eq (ma := ma) (mb := mb) (sg := sg)
  unfold mT at o ⊢
  cases hr : mRne ma mb sg with
  | bad => rw [hr] at o; exact o.elim
  | ask n f => exact absurd hr mRne_noask
  | ok d => rw [e _ hr (by intro z; cases z)]; rw [hr] at o; exact o
  | exn c d => rw [e _ hr (by intro z; cases z)]; rw [hr] at o; exact o
theorem t_gdin {d : Addr} {es : Array DictEntry} {n : Nat} {tab : List (Str × PyData)} (D : KDict X.K X.w d es n) (g : GD X.K d tab) (hb : PE X b (tC (.ref d))) (ha : PE X a (TB X.K C W ma)) (hm : behindInMarks .In b = false) : PT X (.Compare a [.In] [b] pos) (TP X.K C W (mT (m1 (dinP tab) ma))) :=
  pt_imp (pt_cmpR (op_in_kd D) ha hb hm) fun σ H Q h => gdin_imp g (tp_of h)
end
end Ev

namespace Ev
variable [Wd]
open PySem PySem.Spec PyProof.Rows L2
open PySem.W.Z (ltB leB eqB ltB_iff leB_iff eqB_iff)

/-! a, b, .. = x, y, .. -/
def mCnil (_ : SG) : Res (List (Nat × Res Sl)) := .ok []
def mCcons (i : Nat) (mc : SG → Res Sl) (mr : SG → Res (List (Nat × Res Sl))) (sg : SG) : Res (List (Nat × Res Sl)) := (mr sg).bind fun l => .ok ((i, mc sg) :: l)
def ixOk (n : Nat) : List (Nat × Res Sl) → Bool
  | [] => true
  | p :: l => Nat.blt p.1 n && ixOk n l
def goP : List (Nat × Res Sl) → SG → Res Fl
  | [], sg => .ok (.nx sg)
  | p :: l, sg => p.2.bind fun s => goP l (put sg p.1 s)
def mPars (m : SG → Res (List (Nat × Res Sl))) (sg : SG) : Res Fl := (m sg).bind fun l => match ixOk sg.length l with
  | true => goP l sg
  | false => .bad
def setL : L2.St → List Nat → List V → L2.St
  | σ, i :: is, v :: vs => setL (σ.set i (some v)) is vs
  | σ, _, _ => σ
section
variable {X : Cx} {C : CT} {E : XK} {e a b c : Expr} {es : List Expr} {ms : List (Nat × (SG → Res Sl))} {m : SG → Res (List (Nat × Res Sl))} {pos p : Pos} {W : WX}
def tCs (K : PySem.W.Frag) (C : CT) (W : WX) : List (Nat × (SG → Res Sl)) → TA
  | [] => tNil
  | q :: l => tCons (TC K C W q.2) (tCs K C W l)
/-- what a row of cells is -/
def Cels (X : Cx) (C : CT) (W : WX) (is : List Nat) (es : List Expr) (m : SG → Res (List (Nat × Res Sl))) : Prop := ∃ ms : List (Nat × (SG → Res Sl)), ms.map (·.1) = is ∧ es.length = ms.length ∧ (∀ sg, m sg = .ok (ms.map fun q => (q.1, q.2 sg))) ∧ PA X es (tCs X.K C W ms)
theorem cels_nil : Cels X C W [] [] mCnil := ⟨[], rfl, rfl, fun _ => rfl, pa_nil⟩
theorem cels_cons {i : Nat} {is : List Nat} {mc : SG → Res Sl} (h : PE X e (TC X.K C W mc)) (hr : Cels X C W is es m) (hs : notStar e = true) : Cels X C W (i :: is) (e :: es) (mCcons i mc m) := by
  obtain ⟨ms, hi, hl, h1, h2⟩ := hr
  refine ⟨(i, mc) :: ms, by rw [List.map_cons, hi], by simp [hl], fun sg => ?_, pa_cons h h2 (star_cons hs)⟩
  unfold mCcons
  rw [h1]; rfl
theorem pars_go {K : PySem.W.Frag} {A0 : Ow} {Hi : Hp} {D : Ends} {σ : L2.St} {sg0 : SG} : ∀ (ms : List (Nat × (SG → Res Sl))) (sgc : SG) (σc : L2.St) (A : Ow) (H : Hp), ixOk sgc.length (ms.map fun q => (q.1, q.2 sg0)) = true → σc.length = σ.length → Rel K C A H sg0 σ → Rel K C A H sgc σc → Bod C.tabs A0 Hi σ.length A H →
    SOut K C E A0 Hi D σ.length A H (goP (ms.map fun q => (q.1, q.2 sg0)) sgc) → tCs K C (WE E) ms σ H (fun vs H1 => vs.length = ms.length ∧ ∀ H2, Sm C.tabs H1 H2 → D.nx (setL σc (ms.map (·.1)) vs) H2)
  | [], sgc, σc, A, H, hx, hl, r0, rc, b, o => by
    refine ⟨rfl, fun H2 s => ?_⟩
    exact o σc A H2 (rc.mono s.w) hl (b.mono s.w) s.tq (hid_sm s.e)
  | (i, mc) :: ms, sgc, σc, A, H, hx, hl, r0, rc, b, o => by
    have hx' : (Nat.blt i sgc.length && ixOk sgc.length (ms.map fun q => (q.1, q.2 sg0))) = true := hx
    rw [Bool.and_eq_true] at hx'
    have hi := blt_lt hx'.1
    have o' : SOut K C E A0 Hi D σ.length A H ((mc sg0).bind fun s => goP (ms.map fun q => (q.1, q.2 sg0)) (put sgc i s)) := o
    have fin : ∀ {A1 : Ow} {H1 : Hp} {s : Sl} {v : V}, Rel K C A1 H1 sg0 σ → Rel K C A1 H1 sgc σc → Bod C.tabs A0 Hi σ.length A1 H1 → SlR K C A1 H1 i s v → SOut K C E A0 Hi D σ.length A1 H1 (goP (ms.map fun q => (q.1, q.2 sg0)) (put sgc i s)) →
        tCs K C (WE E) ms σ H1 (fun vs H2 => (v :: vs).length = ((i, mc) :: ms).length ∧ ∀ H3, Sm C.tabs H2 H3 → D.nx (setL σc (((i, mc) :: ms).map (·.1)) (v :: vs)) H3) := by
      intro A1 H1 s v q0 qc qb qs qo
      have ih := pars_go ms (put sgc i s) (σc.set i (some v)) A1 H1 (by rw [put_len]; exact hx'.2) (by simp [hl]) q0 (rel_put qc hi qs) qb qo
      have e : (fun (vs : List V) (H2 : Hp) => (v :: vs).length = ((i, mc) :: ms).length ∧ ∀ H3, Sm C.tabs H2 H3 → D.nx (setL σc (((i, mc) :: ms).map (·.1)) (v :: vs)) H3) = (fun vs H2 => vs.length = ms.length ∧ ∀ H3, Sm C.tabs H2 H3 → D.nx (setL (σc.set i (some v)) (ms.map (·.1)) vs) H3) := by
        funext vs H2
        simp [setL]
      rw [e]; exact ih
    refine ⟨sg0, A, r0, (SOut.bind (σ := σ) b o').mono fun s H1 s1 o1 => ?_⟩
    cases s with
    | v d => exact fun v q => fin (s := .v d) (r0.mono s1) (rc.mono s1) (b.mono s1) q o1
    | o l =>
      intro p vs hp q
      exact fin (s := .o l) (rel_own1 (n := i) (r0.mono s1) hp (Sw.new hp) (trk_own1 (o := .lst vs) (n := i) (r0.mono s1).trk hp)) (rel_own1 (n := i) (rc.mono s1) hp (Sw.new hp) (trk_own1 (o := .lst vs) (n := i) (rc.mono s1).trk hp)) (bod_own (b.mono s1) hp) (sl_own hp q) (o1.from (hid_own1_new hp) (Tq.new hp))
    | x c d => exact fun v q => fin (s := .x c d) (r0.mono s1) (rc.mono s1) (b.mono s1) q o1
    | s n => exact fun p xs q1 q2 => fin (s := .s n) (v := .ref p) (r0.mono s1) (rc.mono s1) (b.mono s1) ⟨p, xs, rfl, q1, q2⟩ o1
    | d l =>
      intro p vs hp q
      exact fin (s := .d l) (rel_own1 (n := i) (r0.mono s1) hp (Sw.new hp) (trk_own1 (o := .dK vs) (n := i) (r0.mono s1).trk hp)) (rel_own1 (n := i) (rc.mono s1) hp (Sw.new hp) (trk_own1 (o := .dK vs) (n := i) (rc.mono s1).trk hp)) (bod_own (b.mono s1) hp) (sl_ownD hp q) (o1.from (hid_own1_new hp) (Tq.new hp))
    | dl l =>
      cases l with
      | cons _ _ => exact trivial
      | nil =>
      intro p hp
      exact fin (s := .dl []) (rel_own1 (n := i) (r0.mono s1) hp (Sw.new hp) (trk_own1 (o := .dK []) (n := i) (r0.mono s1).trk hp)) (rel_own1 (n := i) (rc.mono s1) hp (Sw.new hp) (trk_own1 (o := .dK []) (n := i) (rc.mono s1).trk hp)) (bod_own (b.mono s1) hp) (sl_ownL hp) (o1.from (hid_own1_new hp) (Tq.new hp))
    | ll l =>
      cases l with
      | cons _ _ => exact trivial
      | nil =>
      intro p es hp hn
      exact fin (s := .ll []) (rel_own1 (n := i) (r0.mono s1) hp (Sw.new hp) (trk_own1 (o := DE p es) (n := i) (r0.mono s1).trk hp DE.mu)) (rel_own1 (n := i) (rc.mono s1) hp (Sw.new hp) (trk_own1 (o := DE p es) (n := i) (rc.mono s1).trk hp DE.mu)) (bod_own (b.mono s1) hp) (sl_ownN hp hn) (o1.from (hid_own1_new hp) (Tq.new hp))
    | lv l => exact trivial
theorem pars_ok {K : PySem.W.Frag} {D : Ends} {σ : L2.St} {H : Hp} (h1 : ∀ sg, m sg = .ok (ms.map fun q => (q.1, q.2 sg))) (h : TSt K C E (mPars m) D σ H) : tCs K C (WE E) ms σ H (fun vs H1 => vs.length = ms.length ∧ ∀ H2, Sm C.tabs H1 H2 → D.nx (setL σ (ms.map (·.1)) vs) H2) := by
  obtain ⟨sg, A, A0, Hi, rl, b, o⟩ := h
  unfold mPars at o
  rw [h1] at o
  have o' : SOut K C E A0 Hi D σ.length A H (match ixOk sg.length (ms.map fun q => (q.1, q.2 sg)) with | true => goP (ms.map fun q => (q.1, q.2 sg)) sg | false => .bad) := o
  split at o'
  · rename_i hx
    exact pars_go ms sg σ A H hx rfl rl rl b o'
  · exact o'.elim
theorem tCs_mono {K : PySem.W.Frag} {C : CT} {W : WX} : ∀ {ms : List (Nat × (SG → Res Sl))} {σ : L2.St} {H : Hp} {Q Q' : List V → Hp → Prop}, (∀ vs H, Q vs H → Q' vs H) → tCs K C W ms σ H Q → tCs K C W ms σ H Q'
  | [], σ, H, Q, Q', k, h => k _ _ h
  | q :: ms, σ, H, Q, Q', k, h => by
    obtain ⟨sg, A, rl, o⟩ := h
    refine ⟨sg, A, rl, o.mono fun s H1 s1 g => ?_⟩
    cases s with
    | v d => exact fun v r => tCs_mono (fun vs H z => k _ _ z) (g v r)
    | o l => exact fun p vs hp r => tCs_mono (fun vs H z => k _ _ z) (g p vs hp r)
    | x c d => exact fun v r => tCs_mono (fun vs H z => k _ _ z) (g v r)
    | s n => exact fun p xs q1 q2 => tCs_mono (fun vs H z => k _ _ z) (g p xs q1 q2)
    | dl l =>
      cases l with
      | cons _ _ => exact trivial
      | nil => exact fun p hp => tCs_mono (fun vs H z => k _ _ z) (g p hp)
    | ll l =>
      cases l with
      | cons _ _ => exact trivial
      | nil => exact fun p es hp hn => tCs_mono (fun vs H z => k _ _ z) (g p es hp hn)
    | lv l => exact trivial
    | d l => exact fun p vs hp r => tCs_mono (fun vs H z => k _ _ z) (g p vs hp r)
/-- two names on one line, locals -/
theorem s_pars2 {i j : Nat} {mc mc' : SG → Res Sl} {x y : Str} {px py pt pt2 : Pos} {kt k2 : Nat} (hc : X.calm = true) (hN : X.N.Nodup) (hi : X.N[i]? = some x) (hj : X.N[j]? = some y) (hij : i ≠ j) (hx : X.env.scope.names.lookup x = some .local) (hy : X.env.scope.names.lookup y = some .local)
    (h1 : ∀ sg, m sg = .ok ([(i, mc), (j, mc')].map fun q => (q.1, q.2 sg))) (ha : PA X [a, b] (tCs X.K C (WE E) [(i, mc), (j, mc')])) (hw : swappedStores [.Tuple [.Name x px, .Name y py] kt pt] (.Tuple [a, b] k2 pt2) X.env = pure (some [x, y])) (hs : swapsWithSole [.Tuple [.Name x px, .Name y py] kt pt] (.Tuple [a, b] k2 pt2) pos.line X.env = pure false) :
    PS X (.Assign [.Tuple [.Name x px, .Name y py] kt pt] (.Tuple [a, b] k2 pt2) pos) (TSt X.K C E (mPars m)) :=
  ps_imp (ps_par hc hN hi hj hij hx hy ha hw hs) fun D σ H h => tCs_mono (fun vs H ⟨hl, k⟩ => by
    match vs, hl with
    | [v, w], _ => exact ⟨v, w, rfl, k H (Sm.refl H)⟩) (pars_ok h1 h)
theorem s_pars3 {i j l : Nat} {mc mc' md : SG → Res Sl} {x y z : Str} {px py pz pt pt2 : Pos} {kt k2 : Nat} (hc : X.calm = true) (hN : X.N.Nodup) (hi : X.N[i]? = some x) (hj : X.N[j]? = some y) (hl : X.N[l]? = some z) (hij : i ≠ j) (hil : i ≠ l) (hjl : j ≠ l) (hx : X.env.scope.names.lookup x = some .local) (hy : X.env.scope.names.lookup y = some .local) (hz : X.env.scope.names.lookup z = some .local)
    (h1 : ∀ sg, m sg = .ok ([(i, mc), (j, mc'), (l, md)].map fun q => (q.1, q.2 sg))) (ha : PA X [a, b, c] (tCs X.K C (WE E) [(i, mc), (j, mc'), (l, md)])) (hw : swappedStores [.Tuple [.Name x px, .Name y py, .Name z pz] kt pt] (.Tuple [a, b, c] k2 pt2) X.env = pure (some [x, y, z])) (hs : swapsWithSole [.Tuple [.Name x px, .Name y py, .Name z pz] kt pt] (.Tuple [a, b, c] k2 pt2) pos.line X.env = pure false) :
    PS X (.Assign [.Tuple [.Name x px, .Name y py, .Name z pz] kt pt] (.Tuple [a, b, c] k2 pt2) pos) (TSt X.K C E (mPars m)) :=
  ps_imp (ps_par3 hc hN hi hj hl hij hil hjl hx hy hz ha hw hs) fun D σ H h => tCs_mono (fun vs H ⟨hl, k⟩ => by
    match vs, hl with
    | [v, w, u], _ => exact ⟨v, w, u, rfl, k H (Sm.refl H)⟩) (pars_ok h1 h)
theorem gMany_set : ∀ {is : List Nat} {vs : List V} {σ : L2.St} {H : Hp} {Q : L2.St → Hp → Prop}, vs.length = is.length → Q (setL σ is vs) H → gMany is vs σ H Q
  | [], [], σ, H, Q, _, q => ⟨rfl, q⟩
  | i :: is, v :: vs, σ, H, Q, h, q => ⟨v, vs, rfl, gMany_set (by simpa using h) q⟩
  | [], _ :: _, _, _, _, h, _ => by simp at h
  | _ :: _, [], _, _, _, h, _ => by simp at h
/-- names in a row, stored one by one -/
theorem s_parsN {ts : List Expr} {pt pt2 : Pos} {kt k2 : Nat} (hc : X.calm = true) (hl : ms.length ≤ sizeLine) (h1 : ∀ sg, m sg = .ok (ms.map fun q => (q.1, q.2 sg))) (ha : PA X es (tCs X.K C (WE E) ms)) (hg : PGs X ts (gMany (ms.map (·.1)))) (hn : ts.length = ms.length) (hst : (assignEach ts X.env).findIdx? (·.1) = none)
    (hw : swappedStores [.Tuple ts kt pt] (.Tuple es k2 pt2) X.env = pure none) (hs : swapsWithSole [.Tuple ts kt pt] (.Tuple es k2 pt2) pos.line X.env = pure false) (h2 : (assignEach [.Tuple ts kt pt] X.env).map (·.2) = [assign (.Tuple ts kt pt) X.env]) :
    PS X (.Assign [.Tuple ts kt pt] (.Tuple es k2 pt2) pos) (TSt X.K C E (mPars m)) := by
  refine ps_imp (ps_asg (pe_tup ha) (pg_tup (n := ms.length) hc hg (by rw [assign_len, hn]) hst) hs hw h2) fun D σ H h => ?_
  refine tCs_mono (fun vs H1 ⟨hv, k⟩ => ?_) (pars_ok h1 h)
  refine ⟨by rw [hv]; exact hl, fun p hp => ⟨p, vs, rfl, .inl (.inl upd_same), hv, gMany_set (by simp [hv]) (k _ (Sm.new hp))⟩⟩
end
/-! which stores are swapped -/
theorem fm3 {x y z : Str} {a b c : Expr} (f : Expr → Option Str) (h1 : f a = some x) (h2 : f b = some y) (h3 : f c = some z) : List.filterMap f [a, b, c] = [x, y, z] := by
  simp [List.filterMap, h1, h2, h3]
theorem an3 {a b c : Expr} (f : Expr → Bool) (h1 : f a = false) (h2 : f b = false) (h3 : f c = false) : [a, b, c].any f = false := by
  simp [List.any, h1, h2, h3]
theorem sw_par3 {x y z : Str} {px py pz pt pt2 : Pos} {kt k2 : Nat} {a b c : Expr} {env : Env} (hk : env.scope.kind = .function) (hx : env.scope.names.lookup x = some .local) (hy : env.scope.names.lookup y = some .local) (hz : env.scope.names.lookup z = some .local) (hl : (py.line == px.line) = true) (hl2 : (pz.line == px.line) = true)
    (hne : (x == y) = false) (hne2 : (x == z) = false) (hne3 : (y == z) = false)
    (ha : notStar a = true) (hb : notStar b = true) (hd : notStar c = true) (hf : (foldedForSure 8 a && foldedForSure 8 b && foldedForSure 8 c) = false) (hc : (constantsAlone 8 a && constantsAlone 8 b && constantsAlone 8 c) = false) :
    swappedStores [.Tuple [.Name x px, .Name y py, .Name z pz] kt pt] (.Tuple [a, b, c] k2 pt2) env = pure (some [x, y, z]) := by
  have kx : env.kindOf x = some .local := hx
  have ky : env.kindOf y = some .local := hy
  have kz : env.kindOf z = some .local := hz
  have hbk : env.blockKind = .function := by unfold Env.blockKind; rw [hk]; rfl
  have flip : ∀ {u v : Str}, (u == v) = false → (v == u) = false := fun h => by
    rw [beq_eq_false_iff_ne] at h ⊢
    exact fun z => h z.symm
  have hl' : py.line = px.line := by simpa using hl
  have hl2' : pz.line = px.line := by simpa using hl2
  have e1 : ([x, y, z] : List Str).eraseDups = [x, y, z] := by
    simp [List.eraseDups, List.eraseDupsBy, List.eraseDupsBy.loop, hne, hne2, hne3, flip hne, flip hne2, flip hne3]
  have e2 : [a, b, c].all (foldedForSure 8) = false := by simpa [Bool.and_assoc] using hf
  have e3 : [a, b, c].all (constantsAlone 8) = false := by simpa [Bool.and_assoc] using hc
  unfold swappedStores
  dsimp only
  rw [if_neg (by rw [hbk]; simp)]
  rw [an3 _ (by cases a <;> first | (cases ha; done) | rfl) (by cases b <;> first | (cases hb; done) | rfl) (by cases c <;> first | (cases hd; done) | rfl)]
  rw [if_neg (by decide)]
  rw [fm3 (x := x) (y := y) (z := z) _ (by simp [kx, Expr.pos]) (by simp [ky, hl', Expr.pos]) (by simp [kz, hl2', Expr.pos])]
  rw [e1, e2, e3]
  rfl
def isNm (N : List (Str × NameKind)) : Expr → Bool
  | .Name y _ => isLoc (nk N y)
  | _ => false
theorem fm_lt {N : List (Str × NameKind)} (f : Expr → Option Str) (hf : ∀ e, isNm N e = false → f e = none) : ∀ ts : List Expr, ts.all (isNm N) = false → (ts.filterMap f).length < ts.length
  | [], h => by cases h
  | e :: ts, h => by
    rw [List.all_cons, Bool.and_eq_false_iff] at h
    have le := List.length_filterMap_le f ts
    rcases h with h | h
    · rw [List.filterMap_cons_none (hf e h), List.length_cons]
      omega
    · have := fm_lt f hf ts h
      cases he : f e with
      | none => rw [List.filterMap_cons_none he, List.length_cons]; omega
      | some u => rw [List.filterMap_cons_some he, List.length_cons, List.length_cons]; omega
theorem sw_cells {pt pt2 : Pos} {ts : List Expr} {kt k2 : Nat} {vs : List Expr} {env : Env} (h : ts.all (isNm env.scope.names) = false) : swappedStores [.Tuple ts kt pt] (.Tuple vs k2 pt2) env = pure none := by
  unfold swappedStores
  dsimp only
  split
  · rfl
  · split
    · rfl
    · rw [if_pos]
      rw [Bool.or_eq_true]
      left
      rw [bne_iff_ne]
      refine Nat.ne_of_lt (fm_lt (N := env.scope.names) _ (fun e he => ?_) ts h)
      cases e <;> first | rfl | skip
      rename_i y q
      have : env.kindOf y ≠ some .local := fun z => by
        have z' : env.scope.names.lookup y = some .local := z
        have he' : isLoc (nk env.scope.names y) = false := he
        rw [nk_eq, z'] at he'; cases he'
      simp [this]
end Ev

namespace Ev
variable [Wd]
open PySem PySem.Spec PyProof.Rows L2
open PySem.W.Z (ltB leB eqB ltB_iff leB_iff eqB_iff)

/-! {k: v, ..}.get(e) -/
def dOk : List PyData → List (PyData × PyData) → Bool
  | _, [] => true
  | seen, p :: l => (keyOf p.1).isSome && !(anyEq p.1 seen) && dOk (seen ++ [p.1]) l
def dFind : List (PyData × PyData) → PyData → PyData
  | [], _ => .none
  | p :: l, x => match deq p.1 x with | true => p.2 | false => dFind l x
def mDget (mp : SG → Res (List (PyData × PyData))) (ma : SG → Res PyData) (sg : SG) : Res PyData := (noA (mp sg)).bind fun ps => match dOk [] ps && Nat.ble ps.length 15 with
  | true => (noA (ma sg)).bind fun x => match keyOf x with | some _ => .ok (dFind ps x) | none => .bad
  | false => .bad
def mPnil (_ : SG) : Res (List (PyData × PyData)) := .ok []
def mPcons (mk mv : SG → Res PyData) (mr : SG → Res (List (PyData × PyData))) (sg : SG) : Res (List (PyData × PyData)) := (mk sg).bind fun k => (mv sg).bind fun v => (mr sg).bind fun r => .ok ((k, v) :: r)
structure Prs (X : Cx) (C : CT) (W : WX) (pos : Pos) (keys : List (Option Expr)) (vals : List Expr) (mp : SG → Res (List (PyData × PyData))) : Prop where
  ex : ∃ trs, PPs X pos keys vals trs ∧ keys.all (·.isSome) = true ∧ keys.length = vals.length ∧ ∀ (σ : L2.St) (H : Hp) (Q : List (V × V) → Hp → Prop),
    (∃ sg A, Rel X.K C A H sg σ ∧ Out X.K C A (fun cx dx H' => W cx dx σ H') H (mp sg) fun ps H' => ∀ vs : List (V × V), Rs X.K (hid A H') (ps.map (·.1)) (vs.map (·.1)) → Rs X.K (hid A H') (ps.map (·.2)) (vs.map (·.2)) → Q vs H') → tPairs trs σ H Q
section
variable {X : Cx} {C : CT} {W : WX} {e a b k v : Expr} {ks : List (Option Expr)} {vs : List Expr} {m ma mb mk mv : SG → Res PyData} {mr mp : SG → Res (List (PyData × PyData))} {pos p : Pos}
theorem prs_nil : Prs X C W pos [] [] mPnil := ⟨[], pps_nil, rfl, rfl, fun σ H Q ⟨sg, A, rl, o⟩ => o H (Sm.refl _) [] Rs.nil Rs.nil⟩
theorem prs_cons (hk : PE X k (T X.K C W mk)) (hv : PE X v (T X.K C W mv)) (hr : Prs X C W pos ks vs mr) : Prs X C W pos (some k :: ks) (v :: vs) (mPcons mk mv mr) := by
  obtain ⟨trs, h1, h2, h3, h4⟩ := hr.ex
  refine ⟨_, pps_cons hk hv h1, by rw [List.all_cons, h2]; rfl, by simp [h3], fun σ H Q ⟨sg, A, rl, o⟩ => ?_⟩
  refine ⟨sg, A, rl, o.bind.mono fun dk H1 s1 o1 x qx => ⟨sg, A, rl.mono s1, o1.bind.mono fun dv H2 s2 o2 y qy => h4 σ H2 _ ⟨sg, A, (rl.mono s1).mono s2, o2.bind.mono fun r H3 s3 o3 => ?_⟩⟩⟩
  exact fun us r1 r2 => o3 H3 (Sm.refl _) ((x, y) :: us) (.cons (qx.mono ((hid_sm s2.e).trans (hid_sm s3.e))) r1) (.cons (qy.mono (hid_sm s3.e)) r2)
/-- keys that are keys, their values -/
theorem kvs_of {K : PySem.W.Frag} {H : Hp} : ∀ {ps : List (PyData × PyData)} {us : List (V × V)} {seen : List PyData}, dOk seen ps = true → Rs K H (ps.map (·.1)) (us.map (·.1)) → Rs K H (ps.map (·.2)) (us.map (·.2)) →
    ∃ kvs : List (Key × V), us = kvs.map (fun kv => (kV kv.1, kv.2)) ∧ KeysOk (ps.map (·.1)) kvs ∧ Rs K H (ps.map (·.2)) (kvs.map (·.2))
  | [], us, seen, h, r1, r2 => by
    have := r1.nil_inv
    have : us = [] := by simpa using this
    subst this
    exact ⟨[], rfl, rfl, Rs.nil⟩
  | q :: ps, [], seen, h, r1, r2 => by
    obtain ⟨_, _, e, _⟩ := r1.cons_inv
    cases e
  | q :: ps, u :: us, seen, h, r1, r2 => by
    simp only [dOk, Bool.and_eq_true] at h
    obtain ⟨v1, l1, e1, k1, k2⟩ := r1.cons_inv
    obtain ⟨v2, l2, e2, j1, j2⟩ := r2.cons_inv
    simp only [List.map_cons, List.cons.injEq] at e1 e2
    rw [← e1.2] at k2
    rw [← e2.2] at j2
    obtain ⟨kvs, z1, z2, z3⟩ := kvs_of h.2 k2 j2
    obtain ⟨kk, hk⟩ := Option.isSome_iff_exists.mp h.1.1
    refine ⟨(kk, u.2) :: kvs, ?_, ?_, ?_⟩
    · rw [List.map_cons, ← z1]
      have : u.1 = kV kk := by rw [e1.1]; exact key_val hk k1
      rw [← this]
    · have z2' : (ps.map (·.1)).map keyOf = kvs.map fun p => some p.1 := z2
      show (q.1 :: ps.map (·.1)).map keyOf = _
      rw [List.map_cons, List.map_cons, hk, z2']
    · rw [List.map_cons, List.map_cons]
      exact .cons (by rw [e2.1]; exact j1) z3
theorem merge_new : ∀ {more acc : List (Key × V)} {seen ps : List PyData}, KeysOk seen acc → KeysOk ps more → (∀ vals : List PyData, vals.length = ps.length → dOk seen (ps.zip vals) = true) → mergeK acc more = acc ++ more
  | [], acc, seen, ps, _, _, _ => by simp [mergeK]
  | p :: more, acc, seen, [], _, h, _ => by simp [KeysOk] at h
  | p :: more, acc, seen, d :: ps, h1, h2, h3 => by
    have h2' : keyOf d = some p.1 ∧ KeysOk ps more := by simpa [KeysOk] using h2
    have h4 := h3 (List.replicate (ps.length + 1) .none) (by simp)
    rw [List.replicate_succ, List.zip_cons_cons] at h4
    simp only [dOk, Bool.and_eq_true, Bool.not_eq_true'] at h4
    have hn : (acc.any fun kv => decide (kv.1 = p.1)) = false := by rw [keys_any h2'.1 h1]; exact h4.1.2
    have hp : putK acc p.1 p.2 = acc ++ [p] := by
      unfold putK
      rw [hn]; simp
    show mergeK (putK acc p.1 p.2) more = _
    rw [hp, merge_new (seen := seen ++ [d]) (ps := ps) ?_ h2'.2 ?_]
    · simp
    · show (seen ++ [d]).map keyOf = _
      have h1' : seen.map keyOf = acc.map fun p => some p.1 := h1
      rw [List.map_append, List.map_append, h1']
      simp [h2'.1]
    · intro vals hl
      have h5 := h3 (.none :: vals) (by simp [hl])
      rw [List.zip_cons_cons] at h5
      simp only [dOk, Bool.and_eq_true] at h5
      exact h5.2
theorem zip_maps : ∀ (ps : List (PyData × PyData)), (ps.map (·.1)).zip (ps.map (·.2)) = ps
  | [] => rfl
  | p :: ps => by simp [zip_maps ps]
theorem dOk_keys : ∀ {seen : List PyData} {ks v1 v2 : List PyData}, v1.length = ks.length → v2.length = ks.length → dOk seen (ks.zip v1) = dOk seen (ks.zip v2)
  | seen, [], v1, v2, _, _ => by simp
  | seen, k :: ks, [], v2, h, _ => by simp at h
  | seen, k :: ks, a :: v1, [], _, h => by simp at h
  | seen, k :: ks, a :: v1, b :: v2, h1, h2 => by
    simp only [List.zip_cons_cons, dOk]
    rw [dOk_keys (seen := seen ++ [k]) (ks := ks) (v1 := v1) (v2 := v2) (by simpa using h1) (by simpa using h2)]
theorem find_val {K : PySem.W.Frag} {H : Hp} {x : PyData} {kk : Key} (hx : keyOf x = some kk) : ∀ {ps : List (PyData × PyData)} {kvs : List (Key × V)}, KeysOk (ps.map (·.1)) kvs → Rs K H (ps.map (·.2)) (kvs.map (·.2)) → R K H (dFind ps x) ((valV kvs kk).getD .non)
  | [], [], _, _ => R.none'
  | [], _ :: _, h, _ => by simp [KeysOk] at h
  | _ :: _, [], h, _ => by simp [KeysOk] at h
  | q :: ps, p :: kvs, h, r => by
    have h' : keyOf q.1 = some p.1 ∧ KeysOk (ps.map (·.1)) kvs := by simpa [KeysOk] using h
    obtain ⟨v, l, e, r1, r2⟩ := r.cons_inv
    simp only [List.map_cons, List.cons.injEq] at e
    unfold dFind
    rw [keyOf_eq h'.1 hx]
    by_cases hk : p.1 = kk
    · rw [valV_pos hk, decide_eq_true hk, e.1]; exact r1
    · rw [valV_neg hk, decide_eq_false hk]
      exact find_val hx h'.2 (by rw [e.2]; exact r2)
theorem e_dget {apos cpos dpos : Pos} (hu : X.A.units + 1 < cLine) (hp : Prs X C W dpos ks vs mp) (h0 : ks ≠ []) (ha : PE X a (T X.K C W ma)) (hs : notStar a = true) (hl : (apos.endLine == cpos.line) = true) (h15 : ks.length ≤ 15) :
    PE X (.Call (.Attribute (.Dict ks vs dpos) "get" apos) [a] [] cpos) (T X.K C W (mDget mp ma)) := by
  obtain ⟨trs, h1, h2, h3, h4⟩ := hp.ex
  have M : M1 X (.Dict ks vs dpos) "get" apos a cpos := ⟨rfl, few_one hs, hl, by rw [star_cons hs]; rfl⟩
  refine pe_imp (pe_dget1 hu (pe_disp h1 h2 h3 h0 h15) ha M) fun σ H Q ⟨sg, A, rl, o⟩ => ?_
  intro p hpn
  have t1 := trk_own1 (o := .dK []) (n := σ.length) rl.trk hpn
  have rl1 := rel_own1 (n := σ.length) rl hpn (Sw.new hpn) t1
  refine h4 σ _ _ ⟨sg, own1 A p σ.length, rl1, ?_⟩
  unfold mDget at o
  cases hm : mp sg with
  | bad => rw [hm] at o; exact o.elim
  | ask n f => rw [hm] at o; exact o.elim
  | exn c d =>
    rw [hm] at o
    intro H' cx dx s' t' x
    have s2 : Sm C.tabs H H' := (Sm.new hpn).trans s'
    refine o H' cx dx s2 (fun c hc => t' c ?_) ?_
    · unfold own1
      split
      · rfl
      · exact hc
    · obtain ⟨e1, q, v, e2, e3, e4⟩ := x
      exact ⟨e1, q, v, e2, hid_own1_le.g _ _ e3, e4.mono hid_own1_le⟩
  | ok ps =>
    rw [hm] at o
    have o' : Out X.K C A (fun cx dx H' => W cx dx σ H') H (match dOk [] ps && Nat.ble ps.length 15 with
        | true => (noA (ma sg)).bind fun x => match keyOf x with | some _ => .ok (dFind ps x) | none => .bad
        | false => .bad) (fun d H' => ∀ v, R X.K (hid A H') d v → Q v H') := o
    split at o'
    · rename_i hok
      rw [Bool.and_eq_true] at hok
      have h15' := Nat.le_of_ble_eq_true hok.2
      intro H2 s2
      intro us r1 r2
      obtain ⟨kvs, e1, e2, e3⟩ := kvs_of hok.1 r1 r2
      have hD2 : H2 p = some (.dK []) := s2.g _ _ upd_same
      have s02 : Sm C.tabs H H2 := (Sm.new hpn).trans s2
      have hlen : kvs.length = ps.length := by
        have := congrArg List.length e2
        simpa using this.symm
      have hmerge : mergeK [] kvs = kvs := by
        have := merge_new (acc := []) (more := kvs) (seen := []) (ps := ps.map (·.1)) rfl e2 (fun vals hl => by
          rw [dOk_keys (v2 := ps.map (·.2)) hl (by simp), zip_maps]; exact hok.1)
        simpa using this
      refine ⟨hD2, kvs, e1, by omega, p, rfl, .inl ⟨kvs, .inl (by rw [hmerge]; exact upd_same)⟩, ?_⟩
      rw [hmerge]
      have s3 : Sm C.tabs H (upd H2 p (.dK kvs)) := s02.wr hpn hD2 trivial
      have t3 : Trk (own1 A p σ.length) (upd H2 p (.dK kvs)) := fun c hc => by
        by_cases hcp : c = p
        · exact ⟨.dK kvs, by rw [hcp]; exact upd_same, trivial⟩
        · have hc' : (A c).isSome = true := by
            unfold own1 at hc
            rw [if_neg hcp] at hc; exact hc
          obtain ⟨o, q, m⟩ := (rl.trk.mono s02.e) c hc'
          exact ⟨o, by rw [upd_ne hcp]; exact q, m⟩
      have rl3 := rel_own1 (n := σ.length) rl hpn s3 t3
      refine ⟨sg, own1 A p σ.length, rl3, ?_⟩
      cases hx : ma sg with
      | bad => rw [hx] at o'; exact o'.elim
      | ask n f => rw [hx] at o'; exact o'.elim
      | exn c d =>
        rw [hx] at o'
        intro H' cx dx s' t' x
        refine o' H' cx dx (s3.trans s') (fun c hc => t' c ?_) ?_
        · unfold own1
          split
          · rfl
          · exact hc
        · obtain ⟨e1, q, v, e2, e3, e4⟩ := x
          exact ⟨e1, q, v, e2, hid_own1_le.g _ _ e3, e4.mono hid_own1_le⟩
      | ok x =>
        rw [hx] at o'
        intro H4 s4 y ry
        have o2 : Out X.K C A (fun cx dx H' => W cx dx σ H') H (match keyOf x with | some _ => .ok (dFind ps x) | none => .bad) (fun d H' => ∀ v, R X.K (hid A H') d v → Q v H') := o'
        split at o2
        · rename_i kk hkk
          have hy := key_val hkk ry
          have hD4 : H4 p = some (.dK kvs) := s4.g _ _ upd_same
          refine ⟨valV kvs kk, .inl ⟨kvs, kk, .inl hD4, hy, rfl⟩, o2 H4 (s3.trans s4) _ ?_⟩
          have e4 : Rs X.K (hid (own1 A p σ.length) (upd H2 p (.dK kvs))) (ps.map (·.2)) (kvs.map (·.2)) := by rw [hid_own1_upd]; exact e3
          exact ((find_val hkk e2 (e4.mono (hid_sm s4))).mono hid_own1_le)
        · exact o2.elim
    · exact o'.elim
end
end Ev

/-! a caught exception as a value -/
namespace PySem.W
open PySem PySem.Spec PySem.Calls PyProof.Rows
theorem xd_find {K : Frag} {D : Addr} {od : Option Obj} {nm : Str} {a g : Value} (hc : (clsIn K D).isSome = true) (ha : findIn K (.ref D) nm = some (some a)) (hg : specialIn K a "__get__" = some (some g)) (ht : takesIn K a = some true) : findObj K D od nm = some (.bind g a) := by
  obtain ⟨q, hq⟩ := Option.isSome_iff_exists.mp hc
  simp [findObj, hq, ha, hg, ht]
/-- e.__class__, e an instance of the own exception class at D, with a dict or without -/
theorem xd_class {prog : Program} {w : World} {A : Around} {E : Value → Shared → Prop} {s : Shared} {K : Frag} {x D : Addr} {ob : Obj} {od : Option Obj} {Q : Option Value → Shared → Prop} (c : L2.ExcC K D) (kin : K.In s.heap) (at_ : InstAt s.heap x ob D od) (fin : Q (some (.ref D)) { s with toks := s.toks + 1 }) :
    wpAny (model prog w) A (getAttr? (.ref x) "__class__") Q E s := by
  have f0 : findObj K D od "__class__" = some (.bind (.builtin "getset_descriptor.__get__") (.builtin "object.__class__")) := xd_find (by obtain ⟨_, q, _⟩ := any_some c.hd; rw [q]; rfl) c.ha c.hn c.ht
  obtain ⟨hp, gn, dd, tk, oo⟩ := s
  have ty := at_.type (M := model prog w)
  have l1 := looks_findIn (M := model prog w) kin c.hg
  have l2 := looks_findIn (M := model prog w) kin c.hk
  have l3 := looks_find (M := model prog w) kin at_ f0
  have isE : Looks (model prog w) hp (isInstance (.ref x) (.type "BaseException")) true := ty.andThen (looks_subIn kin c.hs)
  have n2 : (Value.builtin "BaseException.__getattribute__" == Value.builtin "object.__getattribute__") = false := by decide +kernel
  have n1 : (onTheHeap (Value.ref D) && Value.builtin "BaseException.__getattribute__" == Value.builtin "object.__getattribute__") = false := by rw [n2]; rfl
  unfold getAttr? getAttrBy? getAttrBy
  refine wpAny_bind (wpAny_mkText (wpAny_bind (wpAny_attempt (wpAny_holding (wpAny_bind (ty.at (wpAny_bind (l1.at ?_)))))) ))
  show wpAny _ _ (if (onTheHeap (Value.ref D) && Value.builtin "BaseException.__getattribute__" == Value.builtin "object.__getattribute__") = true then _ else _) _ _ _; rw [n1, if_neg Bool.false_ne_true]
  unfold getAttrByItsOwn hookBefore
  refine wpAny_bind ?_; rw [if_pos (show onTheHeap (Value.ref D) = true from rfl)]
  refine l2.at (wpAny_bind (wpAny_attempt (wpAny_holding ?_)))
  unfold callGetattribute; rw [show (false && onTheHeap (Value.builtin "BaseException.__getattribute__")) = false from rfl, if_neg Bool.false_ne_true]
  unfold boundAndCalled; rw [PySem.F.excAttr_ValueError.ga.bind (.ref x)]
  refine wpAny_bind (wpAny_pure ?_)
  show wpAny _ _ (call (.builtin "BaseException.__getattribute__") [.ref x, .str "__class__" tk]) _ _ _
  refine wpAny_call (codeAny_call_builtin PySem.F.excAttr_ValueError.ga.plain PySem.F.entry_bexc_ga (@check_slot (model prog w) _ _ ⟨hp, gn, dd, tk + 1, oo⟩ "BaseException.__getattribute__" "BaseException" "__getattribute__" (.ref x) [.str "__class__" tk] [] _ (by decide +kernel) (by decide +kernel) isE (PySem.F.args_bexc_ga (.ref x) (.str "__class__" tk)) ?_))
  unfold Builtin.«object.__getattribute__»
  refine wpAny_bind (wpAny_of_eq (a := ((Value.ref x : Value), [Value.str "__class__" tk])) (by first | rfl | (simp only [slotArgs]; rfl)) (wpAny_bind (wpAny_pure (wpAny_bind (ty.at (wpAny_bind (l3.at ?_)))))))
  show wpAny _ _ (holding [Value.builtin "object.__class__"] (call (.builtin "getset_descriptor.__get__") [.builtin "object.__class__", .ref x, .ref D]) >>= ret) _ _ _
  refine wpAny_bind (wpAny_holding (wpAny_call (class_get (s := ⟨hp, gn, dd, tk + 1, oo⟩) (ox := ob) (od := od) kin at_ c.hm ?_)))
  refine wpAny_pure ?_
  show wpAny _ _ (handedOut (.ref D)) _ _ _; rw [handedOut_of (v := .ref D) rfl]
  first | exact wpAny_pure (wpAny_pure fin) | exact wpAny_pure fin | exact wpAny_pure (wpAny_bind (wpAny_pure (wpAny_pure fin)))
theorem xd_kit {K : Frag} {x D : Addr} {ob : Obj} {od : Option Obj} (c : L2.ExcC K D) : KitX K (.ref x) (.ref D) (fun h => InstAt h x ob D od) := by
  have base := handS_kitx_exc (x := x) (ox := ob) c.hg c.hk c.hs c.hd c.ha c.hn c.ht c.hm
  refine ⟨fun M h kin at_ => at_.type, fun M h kin at_ => ?_, fun h tp dd its n sl kin htp => base.ne h tp dd its n sl kin htp, fun kin at_ q => xd_class c kin at_ q⟩
  obtain ⟨_, hcD, _⟩ := any_some c.hd
  unfold clsIn at hcD
  split at hcD
  · rename_i ho
    intro A' Q' E' s' k q
    unfold isType loadHead
    exact wpAny_bind (wpAny_loadPart (k _ _ (kin _ _ ho)) (wpAny_pure q))
  · cases hcD
end PySem.W
namespace Ev
variable [Wd]
open PySem PySem.Spec PyProof.Rows L2
theorem exK_ok {P : Program} {w : World} {H : Hp} {h : Heap} {a : Addr} {cls : Value} {d : Option Addr} {oe : Obj} {vs : Array Value} (e : h.get? a = some oe) (z : Zc cls d oe) (dd : oe.data = .fields vs) : ObjOk P w H h a (ExK cls d a) :=
  ⟨⟨oe, vs, e, z, dd⟩, ⟨oe, e⟩, fun _ _ ⟨o, v, q, r⟩ k => ⟨o, v, k o q, r⟩⟩
theorem exK_at {P : Program} {w : World} {H : Hp} {h : Heap} {a : Addr} {cls : Value} {d : Option Addr} (hok : HOk P w H h) (e : H a = some (ExK cls d a)) : ∃ (oe : Obj) (vs : Array Value), h.get? a = some oe ∧ Zc cls d oe ∧ oe.data = .fields vs := by
  have x : ObjOk P w H h a (.ext fun h => ∃ (oe : Obj) (vs : Array Value), h.get? a = some oe ∧ Zc cls d oe ∧ oe.data = .fields vs) := hok a _ e
  exact x.1
theorem exK_inst {K : PySem.W.Frag} {h : Heap} {a D q : Addr} {oe : Obj} {vs : Array Value} {od : Obj} (e : h.get? a = some oe) (z : Zc (.ref D) (some q) oe) (dd : oe.data = .fields vs) (hd : h.get? q = some od) : PySem.W.InstAt h a oe D (some od) :=
  ⟨e, z.1, by unfold PySem.W.notCls; rw [dd], by rw [z.2]; exact hd⟩
section
variable {X : Cx}
/-- isinstance(e, C) -/
def rIsX (K : PySem.W.Frag) : List V → Hp → VK → Prop := fun xs H Q => ∃ (a D q : Addr) (fs : List (Str × V)) (c : V) (cv : Value) (b : Bool), xs = [.ref a, c] ∧ H a = some (ExK (.ref D) (some q) a) ∧ H q = some (.xd fs) ∧ ExcC K D ∧ ClsV c cv ∧ PySem.W.kitOne K (.ref D) cv = some b ∧ Q (.bl b) H
theorem call_isX : CallR X (.builtin "isinstance") (rIsX X.K) := by
  intro pins s σ H xs us Q I r h
  obtain ⟨a, D, q, fs, c, cv, b, rfl, ha, hq, C, kc, e, qq⟩ := h
  obtain ⟨u1, u2, rfl, r1, r2⟩ := vals2 r
  cases r1
  have e2 := kc.eq r2
  subst e2
  obtain ⟨oe, vs, h1, h2, h3⟩ := exK_at I.hok ha
  obtain ⟨mA, hns, _⟩ := (show ObjOk X.prog X.w H s.heap q (.xd fs) from I.hok q _ hq)
  obtain ⟨od, ho, _⟩ := lookIn_ns hns
  exact PySem.W.kia_one (PySem.W.xd_kit C) I.kIn (exK_inst (K := X.K) h1 h2 h3 ho) e (fun z => nomatch z) fun tk => ⟨.bl b, H, I.tok tk, rfl, qq⟩
/-- e.f -/
def tXfd (K : PySem.W.Frag) (f : Str) (te : TE) : TE := fun σ H Q => te σ H fun x H1 => ∃ (a D q : Addr) (fs : List (Str × V)) (v : V), x = .ref a ∧ H1 a = some (ExK (.ref D) (some q) a) ∧ H1 q = some (.xd fs) ∧ XfC K D ∧ PySem.W.findIn K (.ref D) f = some none ∧ fs.lookup f = some v ∧ Q v H1
theorem pe_xfd {e : Expr} {te : TE} {pos : Pos} {n : Str} (he : PE X e te) (hb : attributeBase e n X.env (eval e X.env) = eval e X.env) : PE X (.Attribute e n pos) (tXfd X.K n te) := ⟨fun pins s σ H Q I h => attr_of hb (thn (he.run pins s σ H _ I h) fun u s1 ⟨x, H1, I1, rx, a, D, q, fs, v, ex, ha, hq, T, hno, l, qq⟩ => by
  subst ex
  obtain rfl : u = Value.ref a := rx
  obtain ⟨oe, vs, h1, h2, h3⟩ := exK_at I1.hok ha
  obtain ⟨mA, hns, hr⟩ := (show ObjOk X.prog X.w H1 s1.heap q (.xd fs) from I1.hok q _ hq)
  obtain ⟨od, ho, hl⟩ := lookIn_ns hns
  obtain ⟨u, hu, ru⟩ := RelO.some_of (v := v) (o := mA n) (by rw [← l]; exact hr n)
  exact HandSPX.exc_get I1.kIn (exK_inst (K := X.K) h1 h2 h3 ho) T.ga T.gg T.exC (PySem.W.findObj_own T.hdC hno rfl (by rw [hl, hu])) (handed_of ru) ⟨v, H1, I1.tok _, ru, qq⟩)⟩
end
end Ev

namespace Ev
variable [Wd]
open PySem PySem.Spec PyProof.Rows L2
section
variable {X : Cx} {pins : List (Addr × Obj)} {σ : L2.St} {H : Hp} {s : Shared}
/-- the suite's context, nothing more pinned -/
abbrev suC (X : Cx) (a : Addr) : Cx := { X with A := X.A.mark (some (.ref a)), calm := false, xe := fun _ _ => False }
theorem suC_in {a : Addr} (I : Inv X pins σ H s) : Inv (suC X a) pins σ H s :=
  ⟨⟨I.ok.mod, I.ok.kind, I.ok.glob, I.ok.blt, I.ok.above, I.ok.inj, I.ok.has, I.ok.cab, (fun z => absurd (show false = true from z) Bool.false_ne_true), I.ok.frames, I.ok.stk, I.ok.exf, I.ok.bs, I.ok.bsz, I.ok.noex, I.ok.exfs, I.ok.funs, I.ok.frf⟩, I.os, I.bare, I.base, I.loc, I.cell, I.free, I.freeC, I.pin, I.hok, I.len⟩
theorem suC_out {a : Addr} (ok : X.Ok) (I : Inv (suC X a) pins σ H s) : Inv X pins σ H s := ⟨ok, I.os, I.bare, I.base, I.loc, I.cell, I.free, I.freeC, I.pin, I.hok, I.len⟩
/-- an exception that has landed, from now on known -/
theorem landX {sI s' : Shared} {B : Heap} {a : Addr} {cls : Value} {d : Option Addr} {oe : Obj} {vs : Array Value} (J : Inv X pins σ H sI) (nb : ∀ b o, sI.heap.get? b = some o → b ∉ frs X.stack → B.get? b = some o) (st : B.StaysIn s'.heap) (up : sI.heap.UpToSlots s'.heap) (os : s'.os = sI.os) (ag : AllBare s'.gens)
    (hB : B.get? a = none) (nfr : a ∉ frs X.stack) (na : H a = none) (he : s'.heap.get? a = some oe) (hz : Zc cls d oe) (hd : oe.data = .fields vs) : Inv X pins σ (upd H a (ExK cls d a)) s' := by
  obtain ⟨Gp, g1, g2⟩ := restrict s'.heap fun b => decide (b ≠ a)
  have gk : ∀ b o, b ≠ a → s'.heap.get? b = some o → Gp.get? b = some o := fun b o hb e => by rw [g1 b (decide_eq_true hb)]; exact e
  have ga : Gp.get? a = none := g2 a (by simp)
  have gs : ∀ b o, Gp.get? b = some o → s'.heap.get? b = some o := fun b o e => by
    by_cases hb : b = a
    · rw [hb, ga] at e; cases e
    · rw [← g1 b (decide_eq_true hb)]; exact e
  have nI : ∀ b o, sI.heap.get? b = some o → b ≠ a := fun b o e z => by
    rw [z] at e
    rw [nb a o e nfr] at hB; cases hB
  have I1 : Inv X pins σ H { s' with heap := Gp } := J.landed (s' := { s' with heap := Gp }) nb (fun b o e => gk b o (fun z => by rw [z, hB] at e; cases e) (st b o e))
    (fun b o e hn => by
      obtain ⟨sl, q⟩ := up b o e hn
      exact ⟨sl, gk b _ (nI b o e) q⟩) os ag
  exact I1.laidN (t' := s'.toks) (h' := s'.heap) gs ga na (exK_ok he hz hd)
end
/-- what `except C as n: m = n` wishes of an exception of the body -/
def wKeep (K : PySem.W.Frag) (c : Value) (i m : Nat) (Wout : WX) (D : Ends) : WX := fun cls d σ H => ∃ b, PySem.W.exmOne K cls c = some b ∧ (b = true → ∀ a, H a = none → D.nx (((σ.set i (some (.ref a))).set m (some (.ref a))).set i none) (upd H a (ExK cls d a))) ∧ (b = false → Wout cls d σ H)
section
variable {X : Cx} {x n y : Str} {c : Value} {i m : Nat} {body : List Stmt} {np pos pos' mp np2 apos : Pos} {tb : WX → TS} {Wout : WX}
theorem ps_try_keep (hs : X.stack = X.env :: X.outer) (hf : X.env.frame = some X.env.locals) (hN : X.N.Nodup) (hi : X.N[i]? = some n) (hln : X.env.kindOf n = some .local) (hm : X.N[m]? = some y) (hlm : X.env.kindOf y = some .local) (hdn : (n == ("__debug__" : Str)) = false) (hcn : (n == ("__classdict__" : Str)) = false) (hc : Names X x c) (tk : Takes X Wout)
    (hb : ∀ (W : WX) (pn : List (Addr × Obj)) (xe : Value → Shared → Prop), Takes (X.tr pn xe) W → PassesOwn (model X.prog X.w) X.A X.env xe → PSs (X.tr pn xe) body (tb W)) :
    PS X (.Try body [.ExceptHandler (some (.Name x np)) (some n) [.Assign [.Name y mp] (.Name n np2) apos] pos'] [] [] pos) (fun D σ H => tb (wKeep X.K c i m Wout D) D σ H) := by
  refine ⟨fun pins s σ H D I h => wpAny_Try_except ?_⟩
  have ok := I.ok
  have hfr : X.A.frames = some (X.env :: X.outer) := by rw [ok.frames, hs]
  refine wpAny_mono ((hb (wKeep X.K c i m Wout D) (X.pn ++ pins) (fun e s₁ => wpAny (model X.prog X.w) X.A (noteFrame e X.env) (fun _ s₂ => wpAny (model X.prog X.w) X.A (setFlight e none) (fun _ s₃ => wpAny (model X.prog X.w) X.A
    (handleBy e X.env [.ExceptHandler (some (.Name x np)) (some n) [.Assign [.Name y mp] (.Name n np2) apos] pos']) (SP X pins D) X.xe s₃) X.xe s₂) X.xe s₁) (fun u s' xx => ?_) PassesOwn.looking).run [] s σ H D (I.toTry _) h) (fun f s1 q => ?_) (fun e s1 he => he)
  · obtain ⟨a, B, sI, pins', σ', H', cls, d, rfl, J', nb, up, sky, na, os, ag, b, hb1, hyes, hno⟩ := xx
    have J : Inv X pins σ' H' sI := J'.ofTry ok
    have sky' : Sky B (X.env :: X.outer) a (Zc cls d) X.env.locals s'.heap := by rw [← hs]; exact sky
    show wpAny (model X.prog X.w) X.A (noteFrame (.ref a) X.env) _ _ _
    refine Sky.land Zc.steady hfr hf sky' fun h3 fl3 up3 => ?_
    have J3 : Inv X pins σ' H' { s' with heap := h3 } := J.landed nb fl3.1 (up.trans up3) os ag
    obtain ⟨oe3, vs3, he3, hz3, hd3⟩ := fl3.there
    have nfr : a ∉ frs (X.env :: X.outer) := fun hm => by
      obtain ⟨_, o', e', hnf⟩ := fl3.2.2.1.mem hm
      rw [he3] at e'; cases e'
      exact hnf _ hd3
    refine wpAny_handleBy_cons (codeAny_handlers_test ?_) (by intro q; cases q)
    have LT : PySem.W.Looks (model X.prog X.w) h3 (typeOf (.ref a)) cls := fun A Q E s k q => wpAny_typeOf_ref (k _ _ he3) (by rw [hz3.1]; exact q)
    have LM := PySem.W.exm_one (M := model X.prog X.w) (J3.kIn) LT hb1
    have test : ∀ {Q : Value → Shared → Prop} {E : Value → Shared → Prop}, Q c { s' with heap := h3 } → wpAny (model X.prog X.w) (X.A.mark (some (.ref a))) (eval (.Name x np) X.env) Q E { s' with heap := h3 } := fun {Q E} q => by
      have S3 := suC_in (a := a) J3
      obtain ⟨hg, hdbg, hm | ⟨hm, hv, hnn⟩⟩ := hc
      · exact ld_glob (X := suC X a) S3 hg hm q hdbg
      · exact ld_blt (X := suC X a) S3 hg hm hv q hnn hdbg
    refine test (LM.here ?_)
    cases b with
    | true =>
      refine codeAny_handlers_suite_as (HandSPX.lands_againZ fl3 fun h4 fl4 up4 => ?_)
      obtain ⟨oe4, vs4, he4, hz4, hd4⟩ := fl4.there
      have J4 : Inv X pins σ' (upd H' a (ExK cls d a)) { s' with heap := h4 } := landX J nb fl4.1 ((up.trans up3).trans up4) os ag fl4.2.1 (by rw [hs]; exact nfr) na he4 hz4 hd4
      refine store_ok (X := suC X a) (v := .ref a) (suC_in J4) hN hi (.inl hln) rfl (fun s5 S5 => ?_) (.inr hln)
      have st := pss_one (ps_set (X := suC X a) (pos := apos) (pos' := mp) hN hm (.inl hlm) (pe_var (X := suC X a) (pos := np2) hi (.inl hln) hdn hcn) rfl (.inr hlm))
      have ilt : i < σ'.length := by
        rw [J4.len]
        exact (List.getElem?_eq_some_iff.mp hi).1
      refine wpAny_mono (st.run pins s5 _ _ { nx := fun σ6 H6 => D.nx (σ6.set i none) H6, rt := fun _ _ => False } S5 ⟨.ref a, by rw [List.getElem?_set_self ilt], hyes rfl a na⟩) (fun f s6 q => ?_) (fun _ _ z => False.elim z)
      match f, q with
      | .next, q =>
        obtain ⟨σ6, H6, S6, q6⟩ := q
        exact gone_ok (suC_out ok S6) hN hi hln fun s7 J7 => ⟨_, _, J7, q6⟩
      | .brk, q => obtain ⟨_, _, _, z⟩ := q; exact z.elim
      | .cont, q => obtain ⟨_, _, _, z⟩ := q; exact z.elim
      | .ret u, q => obtain ⟨_, _, _, _, _, z⟩ := q; exact z.elim
    | false =>
      show wpAny _ X.A (handleBy (.ref a) X.env []) _ _ _
      refine wpAny_handleBy_nil ?_
      obtain ⟨k1, k2, k3, oe, vs, Tc, oT, ts', he, hz, hd, h1, hr⟩ := id fl3
      unfold PySem.passOn
      refine wpAny_bind (wpAny_field he hd h1 ?_)
      rw [if_neg (show ¬ ((Value.ref Tc == Value.none) = true) from by simp)]
      have fin : wpAny (model X.prog X.w) X.A (setFlight (.ref a) X.env.frame) (fun _ s4 => wpAny (model X.prog X.w) X.A (throw (.ref a) : Sem Flow) (SP X pins D) X.xe s4) X.xe { s' with heap := h3 } := by
        rw [hf]
        exact HandSPX.setFlight_upZ fl3 fun h4 hh4 up4 => wpAny_throw (tk _ _ ⟨a, B, sI, pins, σ', H', cls, d, rfl, J, nb, (up.trans up3).trans up4, .inr (.inr (by rw [hs]; exact hh4)), na, os, ag, hno rfl⟩)
      first | exact wpAny_bind (wpAny_pure (wpAny_bind fin)) | exact wpAny_bind fin
  · match f, q with
    | .next, q =>
      obtain ⟨σ', H', J', q⟩ := q
      exact wpAny_execs_nil ⟨σ', H', J'.ofTry ok, q⟩
    | .brk, q =>
      obtain ⟨σ', H', J', q⟩ := q
      exact ⟨σ', H', J'.ofTry ok, q⟩
    | .cont, q =>
      obtain ⟨σ', H', J', q⟩ := q
      exact ⟨σ', H', J'.ofTry ok, q⟩
    | .ret u, q =>
      obtain ⟨v, σ', H', J', r, q⟩ := q
      exact ⟨v, σ', H', J'.ofTry ok, r, q⟩
end
end Ev

namespace Ev
variable [Wd]
open PySem PySem.Spec PyProof.Rows L2
/-! try: .. except C as n: .. except D as m: ..; the exception is known in the suite -/
/-- a clause: its text and what it does -/
structure Cl where
  x : Str
  np : Pos
  n : Str
  i : Nat
  b0 : Stmt
  su : List Stmt
  p : Pos
  c : Value
  ts : Addr → TS
def Cl.h (l : Cl) : ExceptHandler := .ExceptHandler (some (.Name l.x l.np)) (some l.n) (l.b0 :: l.su) l.p
structure Cl.Ok (X : Cx) (l : Cl) : Prop where
  hi : X.N[l.i]? = some l.n
  loc : X.env.kindOf l.n = some .local
  nm : Names X l.x l.c
  su : ∀ a, PSs (suC X a) (l.b0 :: l.su) (l.ts a)
def wTry (K : PySem.W.Frag) (Wout : WX) (D : Ends) : List Cl → WX
  | [] => Wout
  | l :: ls => fun cls d σ H => ∃ b, PySem.W.exmOne K cls l.c = some b ∧
      (b = true → ∀ a, H a = none → l.ts a { nx := fun σ' H' => D.nx (σ'.set l.i none) H', rt := D.rt, bk := fun σ' H' => D.bk (σ'.set l.i none) H', ct := fun σ' H' => D.ct (σ'.set l.i none) H' } (σ.set l.i (some (.ref a))) (upd H a (ExK cls d a))) ∧
      (b = false → wTry K Wout D ls cls d σ H)
section
variable {X : Cx} {body : List Stmt} {pos : Pos} {tb : WX → TS} {Wout : WX}
theorem ps_tryN (hs : X.stack = X.env :: X.outer) (hf : X.env.frame = some X.env.locals) (hN : X.N.Nodup) (l0 : Cl) (ls : List Cl) (hl : ∀ l ∈ l0 :: ls, l.Ok X) (tk : Takes X Wout)
    (hb : ∀ (W : WX) (pn : List (Addr × Obj)) (xe : Value → Shared → Prop), Takes (X.tr pn xe) W → PassesOwn (model X.prog X.w) X.A X.env xe → PSs (X.tr pn xe) body (tb W)) :
    PS X (.Try body (l0.h :: ls.map Cl.h) [] [] pos) (fun D σ H => tb (wTry X.K Wout D (l0 :: ls)) D σ H) := by
  refine ⟨fun pins s σ H D I h => wpAny_Try_except ?_⟩
  have ok := I.ok
  have hfr : X.A.frames = some (X.env :: X.outer) := by rw [ok.frames, hs]
  refine wpAny_mono ((hb (wTry X.K Wout D (l0 :: ls)) (X.pn ++ pins) (fun e s₁ => wpAny (model X.prog X.w) X.A (noteFrame e X.env) (fun _ s₂ => wpAny (model X.prog X.w) X.A (setFlight e none) (fun _ s₃ => wpAny (model X.prog X.w) X.A
    (handleBy e X.env ((l0 :: ls).map Cl.h)) (SP X pins D) X.xe s₃) X.xe s₂) X.xe s₁) (fun u s' xx => ?_) PassesOwn.looking).run [] s σ H D (I.toTry _) h) (fun f s1 q => ?_) (fun e s1 he => he)
  · obtain ⟨a, B, sI, pins', σ', H', cls, d, rfl, J', nb, up, sky, na, os, ag, wq⟩ := xx
    have J : Inv X pins σ' H' sI := J'.ofTry ok
    have sky' : Sky B (X.env :: X.outer) a (Zc cls d) X.env.locals s'.heap := by rw [← hs]; exact sky
    show wpAny (model X.prog X.w) X.A (noteFrame (.ref a) X.env) _ _ _
    refine Sky.land Zc.steady hfr hf sky' fun h3 fl3 up3 => ?_
    have J3 : Inv X pins σ' H' { s' with heap := h3 } := J.landed nb fl3.1 (up.trans up3) os ag
    obtain ⟨oe3, vs3, he3, hz3, hd3⟩ := fl3.there
    have nfr : a ∉ frs (X.env :: X.outer) := fun hm => by
      obtain ⟨_, o', e', hnf⟩ := fl3.2.2.1.mem hm
      rw [he3] at e'; cases e'
      exact hnf _ hd3
    have key : ∀ (ls : List Cl), (∀ l ∈ ls, l.Ok X) → wTry X.K Wout D ls cls d σ' H' → wpAny (model X.prog X.w) X.A (handleBy (.ref a) X.env (ls.map Cl.h)) (SP X pins D) X.xe { s' with heap := h3 } := by
      intro ls
      induction ls with
      | nil =>
        intro _ hno
        refine wpAny_handleBy_nil ?_
        obtain ⟨k1, k2, k3, oe, vs, Tc, oT, ts', he, hz, hd, h1, hr⟩ := id fl3
        unfold PySem.passOn
        refine wpAny_bind (wpAny_field he hd h1 ?_)
        rw [if_neg (show ¬ ((Value.ref Tc == Value.none) = true) from by simp)]
        have fin : wpAny (model X.prog X.w) X.A (setFlight (.ref a) X.env.frame) (fun _ s4 => wpAny (model X.prog X.w) X.A (throw (.ref a) : Sem Flow) (SP X pins D) X.xe s4) X.xe { s' with heap := h3 } := by
          rw [hf]
          exact HandSPX.setFlight_upZ fl3 fun h4 hh4 up4 => wpAny_throw (tk _ _ ⟨a, B, sI, pins, σ', H', cls, d, rfl, J, nb, (up.trans up3).trans up4, .inr (.inr (by rw [hs]; exact hh4)), na, os, ag, hno⟩)
        first | exact wpAny_bind (wpAny_pure (wpAny_bind fin)) | exact wpAny_bind fin
      | cons l ls ih =>
        intro hl ⟨b, hb1, hyes, hno⟩
        have lo := hl l List.mem_cons_self
        show wpAny _ X.A (handleBy (.ref a) X.env (.ExceptHandler (some (.Name l.x l.np)) (some l.n) (l.b0 :: l.su) l.p :: ls.map Cl.h)) _ _ _
        refine wpAny_handleBy_cons (codeAny_handlers_test ?_) (by intro q; cases q)
        have LT : PySem.W.Looks (model X.prog X.w) h3 (typeOf (.ref a)) cls := fun A Q E s k q => wpAny_typeOf_ref (k _ _ he3) (by rw [hz3.1]; exact q)
        have LM := PySem.W.exm_one (M := model X.prog X.w) (J3.kIn) LT hb1
        have test : ∀ {Q : Value → Shared → Prop} {E : Value → Shared → Prop}, Q l.c { s' with heap := h3 } → wpAny (model X.prog X.w) (X.A.mark (some (.ref a))) (eval (.Name l.x l.np) X.env) Q E { s' with heap := h3 } := fun {Q E} q => by
          have S3 := suC_in (a := a) J3
          obtain ⟨hg, hdbg, hm | ⟨hm, hv, hnn⟩⟩ := lo.nm
          · exact ld_glob (X := suC X a) S3 hg hm q hdbg
          · exact ld_blt (X := suC X a) S3 hg hm hv q hnn hdbg
        refine test (LM.here ?_)
        cases b with
        | false => exact ih (fun l' h' => hl l' (List.mem_cons_of_mem _ h')) (hno rfl)
        | true =>
          refine codeAny_handlers_suite_as (HandSPX.lands_againZ fl3 fun h4 fl4 up4 => ?_)
          obtain ⟨oe4, vs4, he4, hz4, hd4⟩ := fl4.there
          have J4 : Inv X pins σ' (upd H' a (ExK cls d a)) { s' with heap := h4 } := landX J nb fl4.1 ((up.trans up3).trans up4) os ag fl4.2.1 (by rw [hs]; exact nfr) na he4 hz4 hd4
          refine store_ok (X := suC X a) (v := .ref a) (suC_in J4) hN lo.hi (.inl lo.loc) rfl (fun s5 S5 => ?_) (.inr lo.loc)
          refine wpAny_mono ((lo.su a).run pins s5 _ _ _ S5 (hyes rfl a na)) (fun f s6 q => ?_) (fun _ _ z => False.elim z)
          match f, q with
          | .next, q =>
            obtain ⟨σ6, H6, S6, q6⟩ := q
            exact gone_ok (suC_out ok S6) hN lo.hi lo.loc fun s7 J7 => ⟨_, _, J7, q6⟩
          | .brk, q =>
            obtain ⟨σ6, H6, S6, q6⟩ := q
            exact gone_ok (suC_out ok S6) hN lo.hi lo.loc fun s7 J7 => ⟨_, _, J7, q6⟩
          | .cont, q =>
            obtain ⟨σ6, H6, S6, q6⟩ := q
            exact gone_ok (suC_out ok S6) hN lo.hi lo.loc fun s7 J7 => ⟨_, _, J7, q6⟩
          | .ret u, q =>
            obtain ⟨v6, σ6, H6, S6, r6, q6⟩ := q
            exact gone_ok (suC_out ok S6) hN lo.hi lo.loc fun s7 J7 => ⟨_, _, _, J7, r6, q6⟩
    exact key (l0 :: ls) hl wq
  · match f, q with
    | .next, q =>
      obtain ⟨σ', H', J', q⟩ := q
      exact wpAny_execs_nil ⟨σ', H', J'.ofTry ok, q⟩
    | .brk, q =>
      obtain ⟨σ', H', J', q⟩ := q
      exact ⟨σ', H', J'.ofTry ok, q⟩
    | .cont, q =>
      obtain ⟨σ', H', J', q⟩ := q
      exact ⟨σ', H', J'.ofTry ok, q⟩
    | .ret u, q =>
      obtain ⟨v, σ', H', J', r, q⟩ := q
      exact ⟨v, σ', H', J'.ofTry ok, r, q⟩
end
end Ev

namespace Ev
variable [Wd]
open PySem PySem.Spec PyProof.Rows L2
open PySem.W.Z (ltB leB eqB ltB_iff leB_iff eqB_iff)
/-! what is asked of a caught exception -/
def nthB : List Bool → Nat → Option Bool
  | [], _ => none
  | b :: l, i => match i with | 0 => some b | i + 1 => nthB l i
theorem nthB_at : ∀ {l : List Bool} {i : Nat} {b : Bool}, nthB l i = some b → l[i]? = some b
  | [], i, b, h => by simp [nthB] at h
  | x :: l, 0, b, h => by simpa [nthB] using h
  | x :: l, i + 1, b, h => by simpa using nthB_at (l := l) (i := i) h
/-- isinstance(name, C); bs: which classes are below C -/
def mIsx (i : Nat) (bs : List Bool) (sg : SG) : Res PyData := match sg[i]? with
  | some (some (.x c _)) => (match nthB bs c with | some b => .ok (.bool b) | none => .bad)
  | some (some (.v .none)) => .ok (.bool false)
  | _ => .bad
/-- name is None -/
def mIsnx (i : Nat) (sg : SG) : Res PyData := match sg[i]? with
  | some (some (.x _ _)) => .ok (.bool false)
  | some (some (.v d)) => .ok (.bool (isN d))
  | _ => .bad
/-- name.f; cs: the classes whose field is f -/
def mFldx (i : Nat) (cs : List Nat) (sg : SG) : Res PyData := match sg[i]? with
  | some (some (.x c d)) => (match subNats.memN c cs with | true => .ok d | false => .bad)
  | _ => .bad
section
variable {X : Cx} {C : CT} {W : WX} {pos p q q2 : Pos} {x y : Str}
theorem e_isx {i j : Nat} {bs : List Bool} (hN : X.N[i]? = some x) (hv : Vis X.env.scope x) (hd : (x == ("__debug__" : Str)) = false) (hcd : (x == ("__classdict__" : Str)) = false) (hg : Gl X "isinstance") (hm : X.mg "isinstance" = none) (hgy : Gl X y) (hmy : X.mg y = some (.ref (C.cls j))) (hdy : (y == ("__debug__" : Str)) = false)
    (hN0 : PySem.W.kitOne X.K (.type "NoneType") (.ref (C.cls j)) = some false) (hs : ∀ (c : Nat) b, bs[c]? = some b → PySem.W.kitOne X.K (.ref (C.cls c)) (.ref (C.cls j)) = some b ∧ ExcC X.K (C.cls c)) :
    PE X (.Call (.Name "isinstance" p) [.Name x q, .Name y q2] [] pos) (T X.K C W (mIsx i bs)) := by
  have h1 : PE X (.Call (.Name "isinstance" p) [.Name x q, .Name y q2] [] pos) (tCB (fun xs H Q => rIsX X.K xs H Q ∨ rIsi X.K xs H Q) (tCons (tVar i) (tCons (tC (.ref (C.cls j))) tNil))) :=
    pe_callB (fun pins s σ H xs us Q I r h => h.elim (call_isX pins s σ H xs us Q I r) (call_isi pins s σ H xs us Q I r)) hg hm boot_isinstance (pa_cons (pe_var hN hv hd hcd) (pa_cons (pe_glob (v := .ref (C.cls j)) hgy hmy rfl hdy) pa_nil rfl) rfl) (by decide) (by decide) rfl rfl
  refine pe_imp h1 fun σ H Q ⟨sg, A, rl, o⟩ => ?_
  unfold mIsx at o
  split at o
  · rename_i c d e
    split at o
    · rename_i b hb
      obtain ⟨v, e1, a, q, u, e2, e3, e4, e5⟩ := rl.exc i c d e
      obtain ⟨k1, k2⟩ := hs c b (nthB_at hb)
      exact ⟨v, e1, .inl ⟨a, C.cls c, q, _, .ref (C.cls j), .ref (C.cls j), b, by rw [e2], hid_le.g _ _ e3, hid_le.g _ _ e4, k2, .own _, k1, o H (Sm.refl _) _ R.bool'⟩⟩
    · exact o.elim
  · rename_i e
    obtain ⟨v, e1, r⟩ := rl.val i _ e
    unfold R at r
    subst r
    exact ⟨.non, e1, .inr ⟨.non, .ref (C.cls j), .type "NoneType", .ref (C.cls j), false, rfl, .own _, .base .non, hN0, o H (Sm.refl _) _ R.bool'⟩⟩
  · exact o.elim
theorem isnx_imp {i : Nat} {σ : L2.St} {H : Hp} {Q : VK} (h : T X.K C W (mIsnx i) σ H Q) : tOp (fun x y H Q => y = .non ∧ Q (.bl (decide (x = .non))) H) (tVar i) (tC .non) σ H Q := by
  obtain ⟨sg, A, rl, o⟩ := h
  unfold mIsnx at o
  split at o
  · rename_i c d e
    obtain ⟨v, e1, a, q, u, e2, e3, e4, e5⟩ := rl.exc i c d e
    subst e2
    exact ⟨.ref a, e1, rfl, o H (Sm.refl _) _ R.bool'⟩
  · rename_i d e
    obtain ⟨v, e1, r⟩ := rl.val i d e
    exact ⟨v, e1, rfl, by rw [(r.mono hid_le).non_iff]; exact o H (Sm.refl _) _ R.bool'⟩
  · exact o.elim
theorem e_isnx {i : Nat} {k : Nat} {p2 : Pos} (hN : X.N[i]? = some x) (hv : Vis X.env.scope x) (hd : (x == ("__debug__" : Str)) = false) (hcd : (x == ("__classdict__" : Str)) = false) : PE X (.Compare (.Name x q) [.Is] [.Constant .none k p2] pos) (T X.K C W (mIsnx i)) :=
  pe_imp (pe_cmpR op_isN (pe_var hN hv hd hcd) pe_non rfl) fun σ H Q h => isnx_imp h
theorem t_isnx {i : Nat} {k : Nat} {p2 : Pos} (hN : X.N[i]? = some x) (hv : Vis X.env.scope x) (hd : (x == ("__debug__" : Str)) = false) (hcd : (x == ("__classdict__" : Str)) = false) : PT X (.Compare (.Name x q) [.Is] [.Constant .none k p2] pos) (TP X.K C W (mT (mIsnx i))) :=
  pt_imp (pt_cmpR op_isN (pe_var hN hv hd hcd) pe_non rfl) fun σ H Q h => isnx_imp (tp_of h)
theorem e_fldx {i : Nat} {f : Str} {cs : List Nat} (hN : X.N[i]? = some x) (hv : Vis X.env.scope x) (hd : (x == ("__debug__" : Str)) = false) (hcd : (x == ("__classdict__" : Str)) = false)
    (hs : ∀ c ∈ cs, C.fld c = f ∧ XfC X.K (C.cls c) ∧ PySem.W.findIn X.K (.ref (C.cls c)) (C.fld c) = some none) : PE X (.Attribute (.Name x q) f pos) (T X.K C W (mFldx i cs)) :=
  pe_imp (pe_xfd (pe_var hN hv hd hcd) rfl) fun σ H Q ⟨sg, A, rl, o⟩ => by
    unfold mFldx at o
    split at o
    · rename_i c d e
      split at o
      · rename_i hm
        obtain ⟨k1, k2, k3⟩ := hs c (memN_of hm)
        obtain ⟨v, e1, a, q, u, e2, e3, e4, e5⟩ := rl.exc i c d e
        refine ⟨v, e1, a, C.cls c, q, _, u, e2, hid_le.g _ _ e3, hid_le.g _ _ e4, k2, by rw [← k1]; exact k3, ?_, o H (Sm.refl _) _ e5⟩
        rw [k1]
        simp [List.lookup]
      · exact o.elim
    · exact o.elim
end
end Ev

namespace Ev
variable [Wd]
open PySem PySem.Spec PyProof.Rows L2
open PySem.W.Z (ltB leB eqB ltB_iff leB_iff eqB_iff)

/-! lists of ints: sorted, min, max -/
def intsL : List PyData → Option (List Int)
  | [] => some []
  | d :: l => match d with | .int i => (match intsL l with | some r => some (i :: r) | none => none) | _ => none
theorem intsL_rs {K : PySem.W.Frag} {H : Hp} : ∀ {l : List PyData} {ns : List Int} {vs : List V}, intsL l = some ns → Rs K H l vs → vs = ns.map V.int
  | [], ns, vs, h, r => by
    cases h
    exact r.nil_inv
  | d :: l, ns, vs, h, r => by
    obtain ⟨v, q, rfl, r1, r2⟩ := r.cons_inv
    cases d with
    | int i =>
      unfold intsL at h
      cases hl : intsL l with
      | none => simp [hl] at h
      | some r' =>
        simp [hl] at h
        subst h
        unfold R at r1
        rw [r1, intsL_rs hl r2]; rfl
    | _ => cases h
theorem rs_intsL {K : PySem.W.Frag} {H : Hp} : ∀ ns : List Int, Rs K H (ns.map PyData.int) (ns.map V.int)
  | [] => Rs.nil
  | i :: ns => Rs.cons R.int' (rs_intsL ns)
def insI (i : Int) : List Int → List Int
  | [] => [i]
  | j :: l => match leB i j with | true => i :: j :: l | false => j :: insI i l
def srtI : List Int → List Int
  | [] => []
  | i :: l => insI i (srtI l)
theorem insI_perm (i : Int) : ∀ l : List Int, (insI i l).Perm (i :: l)
  | [] => .refl _
  | j :: l => by
    unfold insI
    split
    · exact .refl _
    · exact ((insI_perm i l).cons j).trans (.swap i j l)
theorem insI_mem {i k : Int} {l : List Int} (h : k ∈ insI i l) : k = i ∨ k ∈ l := by
  have := (insI_perm i l).mem_iff.mp h
  simpa using this
theorem insI_srt (i : Int) : ∀ l : List Int, l.Pairwise (· ≤ ·) → (insI i l).Pairwise (· ≤ ·)
  | [], _ => by simp [insI]
  | j :: l, h => by
    unfold insI
    rw [List.pairwise_cons] at h
    split
    · rename_i q
      rw [leB_iff] at q
      refine List.pairwise_cons.mpr ⟨fun k hk => ?_, List.pairwise_cons.mpr h⟩
      rcases List.mem_cons.mp hk with rfl | hk
      · exact q
      · exact Int.le_trans q (h.1 k hk)
    · rename_i q
      have q' : j ≤ i := by
        cases e : leB i j with
        | true => exact absurd e (by rw [q]; decide)
        | false =>
          have : ¬ i ≤ j := fun z => by rw [← leB_iff] at z; rw [z] at e; cases e
          omega
      refine List.pairwise_cons.mpr ⟨fun k hk => ?_, insI_srt i l h.2⟩
      rcases insI_mem hk with rfl | hk
      · exact q'
      · exact h.1 k hk
theorem srtI_perm : ∀ l : List Int, (srtI l).Perm l
  | [] => .refl _
  | i :: l => (insI_perm i (srtI l)).trans ((srtI_perm l).cons i)
theorem srtI_srt : ∀ l : List Int, (srtI l).Pairwise (· ≤ ·)
  | [] => List.Pairwise.nil
  | i :: l => insI_srt i _ (srtI_srt l)
theorem srtI_eq {l ns : List Int} (p : ns.Perm l) (s : ns.Pairwise (· ≤ ·)) : ns = srtI l := PySem.W.ksm_same (p.trans (srtI_perm l).symm) s (srtI_srt l)
def bestI (f : Int → Int → Bool) : List Int → Option Int
  | [] => none
  | i :: l => match bestI f l with | none => some i | some j => some (match f i j with | true => i | false => j)
def sortedP : PyData → Option PyData
  | .list l => (intsL l).map fun ns => .list ((srtI ns).map .int)
  | _ => none
def geB' (i j : Int) : Bool := leB j i
def minP : PyData → Option PyData
  | .list l => (intsL l).bind fun ns => (bestI leB ns).map .int
  | _ => none
def maxP : PyData → Option PyData
  | .list l => (intsL l).bind fun ns => (bestI geB' ns).map .int
  | _ => none
theorem bestI_min : ∀ {ns : List Int} {m : Int}, bestI leB ns = some m → m ∈ ns ∧ ∀ y ∈ ns, m ≤ y
  | [], m, h => by cases h
  | i :: l, m, h => by
    unfold bestI at h
    cases e : bestI leB l with
    | none =>
      rw [e] at h
      cases h
      cases l with
      | nil => exact ⟨by simp, fun y hy => by simp at hy; omega⟩
      | cons j l =>
        unfold bestI at e
        split at e <;> cases e
    | some j =>
      rw [e] at h
      obtain ⟨h1, h2⟩ := bestI_min e
      cases q : leB i j with
      | true =>
        simp [q] at h
        subst h
        have q := (leB_iff _ _).mp q
        refine ⟨by simp, fun y hy => ?_⟩
        rcases List.mem_cons.mp hy with rfl | hy
        · exact Int.le_refl _
        · exact Int.le_trans q (h2 y hy)
      | false =>
        simp [q] at h
        subst h
        have q : ¬ i ≤ j := fun z => by rw [(leB_iff _ _).mpr z] at q; cases q
        refine ⟨List.mem_cons_of_mem _ h1, fun y hy => ?_⟩
        rcases List.mem_cons.mp hy with rfl | hy
        · omega
        · exact h2 y hy
theorem bestI_max : ∀ {ns : List Int} {m : Int}, bestI geB' ns = some m → m ∈ ns ∧ ∀ y ∈ ns, y ≤ m
  | [], m, h => by cases h
  | i :: l, m, h => by
    unfold bestI at h
    cases e : bestI geB' l with
    | none =>
      rw [e] at h
      cases h
      cases l with
      | nil => exact ⟨by simp, fun y hy => by simp at hy; omega⟩
      | cons j l =>
        unfold bestI at e
        split at e <;> cases e
    | some j =>
      rw [e] at h
      obtain ⟨h1, h2⟩ := bestI_max e
      cases q : geB' i j with
      | true =>
        simp [q] at h
        subst h
        have q : j ≤ i := (leB_iff _ _).mp q
        refine ⟨by simp, fun y hy => ?_⟩
        rcases List.mem_cons.mp hy with rfl | hy
        · exact Int.le_refl _
        · exact Int.le_trans (h2 y hy) q
      | false =>
        simp [q] at h
        subst h
        have q : ¬ j ≤ i := fun z => by rw [show geB' i j = true from (leB_iff _ _).mpr z] at q; cases q
        refine ⟨List.mem_cons_of_mem _ h1, fun y hy => ?_⟩
        rcases List.mem_cons.mp hy with rfl | hy
        · omega
        · exact h2 y hy
section
variable {X : Cx} {C : CT} {W : WX} {a : Expr} {ma : SG → Res PyData} {pos p : Pos}
theorem f_sorted : CallF X.K (rSortedI X.K) sortedP := by
  intro TT A H dx d x Q e t rx k
  cases dx with
  | list l =>
    obtain ⟨a', vs, e1, h1, r1⟩ := rx.list
    unfold sortedP at e
    dsimp only at e
    cases hn : intsL l with
    | none => rw [hn] at e; cases e
    | some ns =>
      rw [hn] at e
      cases e
      have ev := intsL_rs hn r1
      subst ev
      refine ⟨a', ns, by rw [e1], SqL.of h1, fun ns' q pm sr hq => ?_⟩
      have := srtI_eq pm sr
      subst this
      have z := new_list t (rs_intsL (K := X.K) (H := hid A H) (srtI ns)) hq
      exact k _ _ z.1 z.2
  | _ => cases e
theorem f_min : CallF X.K (rMin X.K) minP := by
  intro TT A H dx d x Q e t rx k
  cases dx with
  | list l =>
    obtain ⟨a', vs, e1, h1, r1⟩ := rx.list
    unfold minP at e
    dsimp only at e
    cases hn : intsL l with
    | none => rw [hn] at e; cases e
    | some ns =>
      rw [hn] at e
      have ev := intsL_rs hn r1
      subst ev
      cases hb : bestI leB ns with
      | none => simp [hb] at e
      | some m =>
        simp [hb] at e
        subst e
        obtain ⟨b1, b2⟩ := bestI_min hb
        refine ⟨a', ns, by rw [e1], SqL.of h1, List.length_pos_of_mem b1, fun m' hm hle => ?_⟩
        have : m' = m := Int.le_antisymm (hle m b1) (b2 m' hm)
        subst this
        exact k _ H (Sm.refl H) R.int'
  | _ => cases e
theorem f_max : CallF X.K (rMax X.K) maxP := by
  intro TT A H dx d x Q e t rx k
  cases dx with
  | list l =>
    obtain ⟨a', vs, e1, h1, r1⟩ := rx.list
    unfold maxP at e
    dsimp only at e
    cases hn : intsL l with
    | none => rw [hn] at e; cases e
    | some ns =>
      rw [hn] at e
      have ev := intsL_rs hn r1
      subst ev
      cases hb : bestI geB' ns with
      | none => simp [hb] at e
      | some m =>
        simp [hb] at e
        subst e
        obtain ⟨b1, b2⟩ := bestI_max hb
        refine ⟨a', ns, by rw [e1], SqL.of h1, List.length_pos_of_mem b1, fun m' hm hle => ?_⟩
        have : m' = m := Int.le_antisymm (b2 m' hm) (hle m b1)
        subst this
        exact k _ H (Sm.refl H) R.int'
  | _ => cases e
end
/-! further built-ins of one argument -/
/-! D.get(e), D a dict of the module -/
def dgetP (tab : List (Str × PyData)) : PyData → Option PyData
  | .str z => some (match dlook tab z with | some d => d | none => .none)
  | _ => none
section
variable {X : Cx} {C : CT} {W : WX} {a : Expr} {ma : SG → Res PyData} {y : Str} {ap cp py : Pos}
theorem e_gdget {d : Addr} {es : Array DictEntry} {n : Nat} {tab : List (Str × PyData)} (D : KDict X.K X.w d es n) (g : GD X.K d tab) (hg : Gl X y) (hm : X.mg y = some (.ref d)) (hdb : (y == ("__debug__" : Str)) = false) (ha : PE X a (T X.K C W ma)) (hs : notStar a = true) (hl : (ap.endLine == cp.line) = true)
    (hbase : attributeBase (.Name y py) "get" X.env (eval (.Name y py) X.env) = eval (.Name y py) X.env) : PE X (.Call (.Attribute (.Name y py) "get" ap) [a] [] cp) (T X.K C W (m1 (dgetP tab) ma)) := by
  refine ⟨fun pins s σ H Q I h => ?_⟩
  obtain ⟨sg, A, rl, o⟩ := h
  have ho : PE X (.Name y py) (tC (.ref d)) := pe_glob (v := .ref d) hg hm rfl hdb
  refine wpAny_Call_method hbase (few_one hs) hl PySem.F.plainAttrs_dict PySem.F.slot_dict_get PySem.F.type_dict_get (thn (ho.run pins s σ H (fun v H1 => v = .ref d ∧ H1 = H) I ⟨rfl, rfl⟩) fun u s1 ⟨x, H1, I1, rx, ex, eH⟩ => ?_)
  subst ex eH
  obtain rfl : u = Value.ref d := rx
  refine ⟨kd_type D I1, fun b q => ?_, ?_⟩
  · cases q
    exact ⟨_, I1.kIn _ _ D.at_, rfl⟩
  · rw [show backTo cp (starEach [a] X.env) = [(false, eval a X.env)] by rw [star_cons hs]; rfl]
    have h2 : T X.K C W ma σ H1 (fun v H2 => ∃ z dd, v = .str z ∧ dgetP tab (.str z) = some dd ∧ ∀ u, R X.K (hid A H2) dd u → Q u H2) := ⟨sg, A, rl, o.bind.mono fun dx H2 s2 o2 v q => by
      obtain ⟨d', e, k⟩ := o2.of
      cases dx with
      | str z => exact ⟨z, d', by unfold R at q; exact q, e, fun u r => k H2 (Sm.refl H2) u r⟩
      | _ => cases e⟩
    refine Calls.callWith_builtin rfl (Calls.evalArgs_plain (Calls.spliced_cons (thn (ha.run pins s1 σ H1 _ I1 h2) fun iv s2 ⟨v, H2, I2, rv, z, dd, ev, e, k⟩ => Calls.spliced_nil ?_)))
    subst ev
    obtain ⟨tk, rfl⟩ := rv
    have mp := PySem.W.mapOf_K (prog := X.prog) (w := X.w) I2.kIn D.at_ D.lit
    refine call_meetsIn PySem.F.slot_dict_get mp.typeIs PySem.F.entry_dict_get (PySem.F.args_dict_get_2 _ _) (meets_dict_get (PySem.strKind X.prog X.w) d (PySem.strKind_is X.prog X.w z tk) D.low) ⟨_, mp, ?_⟩
    have gz := g.at_ z
    unfold dgetP at e
    dsimp only at e
    cases hd : dlook tab z with
    | some d0 =>
      rw [hd] at gz e
      cases e
      obtain ⟨u0, v0, g1, g2, g3⟩ := gz
      rw [PySem.W.find_K D.at_ g1]
      exact ⟨v0, H2, I2.tok _, g2, k v0 (g3 _)⟩
    | none =>
      rw [hd] at gz e
      cases e
      rw [PySem.W.find_K D.at_ gz]
      exact ⟨.non, H2, I2.tok _, rfl, k .non R.none'⟩
end
/-! a call with stars -/
def someStar : List Expr → Bool
  | [] => false
  | e :: es => !notStar e || someStar es
theorem star_any' : ∀ {es : List Expr} {env : Env} {pos : Pos}, someStar es = true → (backTo pos (starEach es env)).any (·.1) = true
  | [], env, pos, h => by cases h
  | e :: es, env, pos, h => by
    unfold someStar at h
    have ih := fun z => star_any' (es := es) (env := env) (pos := pos) z
    cases e with
    | Starred e' p' =>
      show (backTo pos ((true, eval e' env) :: starEach es env)).any (·.1) = true
      unfold backTo
      simp
    | _ =>
      have hh : someStar es = true := by simpa [notStar] using h
      have := ih hh
      rw [star_cons (by rfl)]
      unfold backTo at this ⊢
      simp only [List.map_cons, List.any_cons, Bool.or_eq_true]
      right
      simpa using this
section
variable {X : Cx} {C : CT} {gd : Bool} {k n : Nat} {f : Addr} {fd : FuncData} {ps : List Str} {E : XK} {W : WX} {x : Str} {p pos : Pos} {e : Expr} {es : List Expr} {m : List PyData → Res PyData} {ma : SG → Res (List PyData)}
theorem e_callS (F : FnG X.prog X.w X.K X.mg X.base gd k f fd ps (spG X.K C n m)) (hgd : gd = true → X.A.guards = some []) (hr : Room k X.A) (hg : Gl X x) (hm : X.mg x = some (.ref f)) (hk : PySem.W.keepIn X.K (.ref f) = true) (hb : L2.Binds X.K fd ps []) (hx : PassesW X W)
    (ha : PA X (e :: es) (TL X.K C W ma)) (hdb : (x == ("__debug__" : Str)) = false) (he : starEach (e :: es) X.env = (false, eval e X.env) :: starEach es X.env) (hst : (backTo pos (starEach es X.env)).any (·.1) = true) :
    PE X (.Call (.Name x p) (e :: es) [] pos) (T X.K C W (mCall n m ma)) := by
  refine ⟨fun pins s σ H Q I h => ?_⟩
  have h' := call_read (m := m) h
  refine wpAny_Call_Name_kw (ld_glob I hg hm (PySem.W.callWith_S2 (h₀ := X.base) I.ok.mod.kin hk (thn (ha.run pos pins s σ H _ I h') fun us s1 ⟨vs, H1, I1, r, q⟩ => ⟨I1.kIn, run_fnW F hgd hr hb hx I1 r q⟩) he hst) hdb)
end
end Ev

namespace Ev
variable [Wd]
open PySem PySem.Spec PyProof.Rows L2
open PySem.W.Z (ltB leB eqB ltB_iff leB_iff eqB_iff)
section
variable {prog : Program} {w : World} {A : Around} {E : Value → Shared → Prop} {s : Shared}
/-- a tuple's items, put into a new list -/
theorem coll_tup {l : Addr} {ob : Obj} {its : List Value} {n : Nat} {Q : List Value → Shared → Prop} (ho : s.heap.get? l = some ob) (hc : ob.cls = .type "tuple") (hd : ob.data = .seq its.toArray n) (hz : its.length ≤ sizeLine)
    (hQ : Q its { s with heap := (s.heap.push (seqObj "list" #[] 0)).update s.heap.objs.size (Obj.mapSeq (· ++ its.toArray)) }) : wpAny (model prog w) A (collect (.ref l)) Q E s := by
  unfold collect; refine wpAny_bind (wpAny_runValue (codeAny_builtin PySem.F.entry_proto_collect ?_)); rw [Around.under_plainId PySem.F.plain_proto_collect _]
  show wpAny _ A.in1 (newList [] >>= fun z => again (.builtin "list.__iadd__" ⟨[z, .ref l], []⟩)) _ _ s
  refine wpAny_bind (wpAny_newObj_type ?_); refine wpAny_pure ⟨plainId_quiet PySem.F.plain_list_iadd _, codeAny_builtin PySem.F.entry_list_iadd ?_⟩; rw [Around.under_plainId PySem.F.plain_list_iadd _]
  show wpAny _ A.in1 (Builtin.List.listExtendWith (.ref s.heap.objs.size) (.ref l) (.ref s.heap.objs.size)) _ _ _
  have n1 : (s.heap.push { cls := .type "list", data := .seq ([] : List Value).toArray }).get? s.heap.objs.size = some { cls := .type "list", data := .seq #[] 0 } := Heap.get?_push_size _ rfl
  have n2 := Heap.get?_update_self (Obj.mapSeq (· ++ its.toArray)) n1 rfl
  let s2 : Shared := { s with heap := (s.heap.push { cls := .type "list", data := .seq ([] : List Value).toArray }).update s.heap.objs.size (Obj.mapSeq (· ++ its.toArray)) }
  have fin' : wpAny (model prog w) A (match Value.ref s.heap.objs.size with
      | Value.ref a => do
        match (← load a).data with
          | Data.seq xs _ => pure xs.toList
          | _ => unsupported "internal:collect"
      | _ => unsupported "internal:collect") Q E s2 := by
    show wpAny _ A (load s.heap.objs.size >>= _) _ _ _
    refine wpAny_bind (wpAny_load n2 (wpAny_pure ?_))
    have e : ((#[] : Array Value) ++ its.toArray).toList = its := by simp
    show Q ((#[] : Array Value) ++ its.toArray).toList s2
    rw [e]; exact hQ
  refine wpAny_mono (wpAny_extend_seq (hsz := by rw [List.size_toArray]; exact hz) (A := A) (R := fun r s' => r = .ok (.ret (.ref s.heap.objs.size)) ∧ s' = s2) (s := { s with heap := s.heap.push { cls := .type "list", data := .seq ([] : List Value).toArray } }) _ l _ 0 (.inr rfl) n1 (Heap.get?_push_of_some _ ho) hc hd ⟨rfl, rfl⟩) (fun fin s' h => ?_) (fun e s' h => ?_)
  · cases fin with
    | done f =>
      obtain ⟨e, rfl⟩ := h
      cases e
      exact fin'
    | again c => exact ⟨h.1, codeAny_mono h.2 fun r s3 hr => by
        obtain ⟨rfl, rfl⟩ := hr
        exact fin'⟩
  · exact absurd h.1 (by intro z; cases z)
/-- sorted(t), t a tuple of ints -/
theorem sorted_tupI {l : Addr} {ob : Obj} {its : List Value} {n : Nat} {ns : List Int} {Q : Value → Shared → Prop} (ho : s.heap.get? l = some ob) (hc : ob.cls = .type "tuple") (hd : ob.data = .seq its.toArray n) (hI : IntsAre its ns) (h64 : its.length < 64)
    (hQ : ∀ (out : Array Value) (ms : List Int), IntsAre out.toList ms → ms.Perm ns → ms.Pairwise (· ≤ ·) → Q (.ref (s.heap.objs.size + 1)) { s with heap := sortedAll s.heap its out }) : wpAny (model prog w) A (call (.builtin "sorted") [.ref l]) Q E s := by
  refine Calls.call_function_entry kind_sorted plain_sorted entry_sorted (args_sorted1 _) ?_; unfold Builtin.«sorted»
  refine wpAny_bind (m := checkCount "sorted" 1 1 _) (wpAny_pure (wpAny_bind (coll_tup ho hc hd (Nat.le_trans (Nat.le_of_lt h64) (by rw [sizeLine_eq]; decide)) (wpAny_bind (wpAny_newList ?_)))))
  have k1 : ((s.heap.push (seqObj "list" #[] 0)).update s.heap.objs.size (Obj.mapSeq (· ++ its.toArray))).objs.size = s.heap.objs.size + 1 := by rw [Heap.size_update, size_push']
  have k2 : (((s.heap.push (seqObj "list" #[] 0)).update s.heap.objs.size (Obj.mapSeq (· ++ its.toArray))).push (seqObj "list" its.toArray 0)).get? (s.heap.objs.size + 1) = some (seqObj "list" its.toArray 0) := by rw [← k1]; exact Heap.get?_push_size _ rfl
  show wpAny _ _ _ _ _ { s with heap := ((s.heap.push (seqObj "list" #[] 0)).update s.heap.objs.size (Obj.mapSeq (· ++ its.toArray))).push (seqObj "list" its.toArray 0) }
  rw [k1]
  exact wpAny_bind (wpAny_holding (wpAny_call_entry slot_list_sort ⟨_, k2, rfl⟩ entry_list_sort (list_sort_tree k2 hI h64 fun out ms b1 b2 b3 => ⟨_, rfl, wpAny_pure ⟨_, rfl, hQ out ms b1 b2 b3⟩⟩) (args_list_sort _)))
end
section
variable {X : Cx}
def rSortTI (K : PySem.W.Frag) : List V → Hp → VK → Prop := fun vs H Q => ∃ (a : Addr) (ns : List Int), vs = [V.ref a] ∧ SqT K H a (ns.map V.int) ∧ ns.length < 64 ∧ ∀ (ms : List Int) (p : Addr), ms.Perm ns → ms.Pairwise (· ≤ ·) → H p = none → Q (.ref p) (upd H p (.lst (ms.map V.int)))
theorem cr_sortTI : CallR X (.builtin "sorted") (rSortTI X.K) := by
  intro pins s σ H vs us Q I r h
  obtain ⟨a, ns, rfl, hs, h64, q⟩ := h
  obtain ⟨its, rv, ⟨o, ho, hc, n, hd⟩, hz⟩ := I.tuple hs
  rw [Vals.ref1 r]
  have hi := rv.ints
  refine sorted_tupI ho hc hd hi (by rw [hi.length]; exact h64) fun out ms h1 h2 h3 => ?_
  obtain ⟨ep, he'⟩ := PyProof.Rows.sortedAll_at s.heap its out
  have hlen : (ms.map V.int).length ≤ sizeLine := by rw [List.length_map, h2.length_eq, sizeLine_eq]; omega
  exact ⟨.ref _, upd H (s.heap.objs.size + 1) (.lst (ms.map V.int)), I.laid (t' := s.toks) (fun _ _ => PyProof.Rows.sortedAll_old) (Nat.le_succ _) ⟨hlen, out.toList, ep, vals_of_ints h1, he'⟩, rfl, q ms _ h2 h3 (I.hok.fresh (Nat.le_succ _))⟩
/-- sorted of a list or a tuple of ints -/
theorem cr_sortLT : CallR X (.builtin "sorted") (fun vs H Q => rSortedI X.K vs H Q ∨ rSortTI X.K vs H Q) := by
  intro pins s σ H vs us Q I r h
  rcases h with h | h
  · exact cr_sortedI pins s σ H vs us Q I r h
  · exact cr_sortTI pins s σ H vs us Q I r h
def sortP : PyData → Option PyData
  | .list l => sortedP (.list l)
  | .tuple l => (intsL l).bind fun ns => match Nat.blt ns.length 64 with | true => some (.list ((srtI ns).map .int)) | false => none
  | _ => none
theorem f_sort : CallF X.K (fun vs H Q => rSortedI X.K vs H Q ∨ rSortTI X.K vs H Q) sortP := by
  intro TT A H dx d x Q e t rx k
  cases dx with
  | list l => exact .inl (f_sorted TT A H (.list l) d x Q e t rx k)
  | tuple l =>
    obtain ⟨a', vs, e1, h1, r1⟩ := rx.tup
    unfold sortP at e
    dsimp only at e
    cases hn : intsL l with
    | none => rw [hn] at e; cases e
    | some ns =>
      rw [hn] at e
      have e2 : (match Nat.blt ns.length 64 with | true => some (PyData.list ((srtI ns).map .int)) | false => none) = some d := e
      have ev := intsL_rs hn r1
      subst ev
      split at e2
      · rename_i hl
        cases e2
        refine .inr ⟨a', ns, by rw [e1], sqT_mono hid_le h1, blt_lt hl, fun ms q pm sr hq => ?_⟩
        have := srtI_eq pm sr
        subst this
        have z := new_list t (rs_intsL (K := X.K) (H := hid A H) (srtI ns)) hq
        exact k _ _ z.1 z.2
      · cases e2
  | _ => cases e
end
end Ev

namespace Ev
variable [Wd]
open PySem PySem.Spec PyProof.Rows L2
open PySem.W.Z (ltB leB eqB ltB_iff leB_iff eqB_iff)
section
variable {X : Cx} {C : CT} {W : WX} {a b c o i : Expr} {ma mb mc : SG → Res PyData} {pos p ap cp apos cpos : Pos}
/-! d.get(k, x), d.get(k) -/
def dGetP (d k x : PyData) : Option PyData := match d with
  | .dict l => (match keyOf k with | some _ => some (match dLook k l with | some v => v | none => x) | none => none)
  | _ => none
def isDic : PyData → Bool
  | .dict l => !(isTok l)
  | _ => false
def mGet2 (ma mb mc : SG → Res PyData) (sg : SG) : Res PyData := (ma sg).bind fun d => match isDic d with
  | true => (mb sg).bind fun k => (mc sg).bind fun x => Res.of (dGetP d k x)
  | false => .bad
def mGet1 (ma mb : SG → Res PyData) (sg : SG) : Res PyData := (ma sg).bind fun d => match isDic d with
  | true => (mb sg).bind fun k => Res.of (dGetP d k .none)
  | false => .bad
theorem e_get2 (hu : X.A.units + 1 < cLine) (ha : PE X a (TB X.K C W ma)) (hb : PE X b (T X.K C W mb)) (hc : PE X c (T X.K C W mc)) (m : M2 X a "get" ap b c cp) : PE X (.Call (.Attribute a "get" ap) [b, c] [] cp) (T X.K C W (mGet2 ma mb mc)) :=
  pe_imp (pe_dget2 hu ha hb hc m) fun σ H Q ⟨sg, A, rl, o⟩ => by
    refine ⟨sg, A, rl, o.bind.mono fun d H1 s1 o1 x rx => ?_⟩
    cases d with
    | dict l =>
      have nt : isTok l = false := by
        cases nt : isTok l with
        | false => rfl
        | true =>
          have hd : isDic (.dict l) = false := by show (!isTok l) = false; rw [nt]; rfl
          rw [hd] at o1; exact o1.elim
      have hd : isDic (.dict l) = true := by show (!isTok l) = true; rw [nt]; rfl
      rw [hd] at o1
      obtain ⟨ad, vs, e1, h1, r1⟩ := rx.dict nt
      refine ⟨ad, e1, .inl ⟨vs, h1⟩, sg, A, rl.mono s1, (Out.bind (f := fun k => (mc sg).bind fun x => Res.of (dGetP (.dict l) k x)) o1).mono fun k H2 s2 o2 y ry => ⟨sg, A, (rl.mono s1).mono s2, o2.bind.mono fun z H3 s3 o3 w rw => ?_⟩⟩
      obtain ⟨d', e, k'⟩ := o3.of
      have e' : (match keyOf k with | some _ => some (match dLook k l with | some v => v | none => z) | none => none) = some d' := e
      cases hk : keyOf k with
      | none => rw [hk] at e'; cases e'
      | some q =>
        rw [hk] at e'
        have e2 := Option.some.inj e'
        have s23 := s2.trans s3
        have r3 := r1.mono (hid_sm s23.e)
        refine ⟨valV vs q, ?_, ?_⟩
        · rw [key_val hk ry]
          exact dget_rd (s23.e.rd h1)
        · have zz := look_ok hk r3
          cases hl : dLook k l with
          | some v =>
            rw [hl] at zz e2
            obtain ⟨v', z1, z2⟩ := zz
            have e2 : v = d' := e2
            subst e2
            rw [z1]
            exact k' H3 (Sm.refl _) v' z2
          | none =>
            rw [hl] at zz e2
            have e2 : z = d' := e2
            subst e2
            have zz : valV vs q = none := zz
            rw [zz]
            exact k' H3 (Sm.refl _) w rw
    | _ => exact o1.elim
theorem e_get1 (hu : X.A.units + 1 < cLine) (ha : PE X a (TB X.K C W ma)) (hb : PE X b (T X.K C W mb)) (m : M1 X a "get" ap b cp) : PE X (.Call (.Attribute a "get" ap) [b] [] cp) (T X.K C W (mGet1 ma mb)) :=
  pe_imp (pe_dget1 hu ha hb m) fun σ H Q ⟨sg, A, rl, o⟩ => by
    refine ⟨sg, A, rl, o.bind.mono fun d H1 s1 o1 x rx => ?_⟩
    cases d with
    | dict l =>
      have nt : isTok l = false := by
        cases nt : isTok l with
        | false => rfl
        | true =>
          have hd : isDic (.dict l) = false := by show (!isTok l) = false; rw [nt]; rfl
          rw [hd] at o1; exact o1.elim
      have hd : isDic (.dict l) = true := by show (!isTok l) = true; rw [nt]; rfl
      rw [hd] at o1
      obtain ⟨ad, vs, e1, h1, r1⟩ := rx.dict nt
      refine ⟨ad, e1, .inl ⟨vs, h1⟩, sg, A, rl.mono s1, Out.bind (f := fun k => Res.of (dGetP (.dict l) k .none)) o1 |>.mono fun k H2 s2 o2 y ry => ?_⟩
      obtain ⟨d', e, k'⟩ := o2.of
      have e' : (match keyOf k with | some _ => some (match dLook k l with | some v => v | none => .none) | none => none) = some d' := e
      cases hk : keyOf k with
      | none => rw [hk] at e'; cases e'
      | some q =>
        rw [hk] at e'
        have e2 := Option.some.inj e'
        have r3 := r1.mono (hid_sm s2.e)
        refine ⟨valV vs q, ?_, ?_⟩
        · rw [key_val hk ry]
          exact dget_rd (s2.e.rd h1)
        · have zz := look_ok hk r3
          cases hl : dLook k l with
          | some v =>
            rw [hl] at zz e2
            obtain ⟨v', z1, z2⟩ := zz
            have e2 : v = d' := e2
            subst e2
            rw [z1]
            exact k' H2 (Sm.refl _) v' z2
          | none =>
            rw [hl] at zz e2
            have e2 : PyData.none = d' := e2
            subst e2
            have zz : valV vs q = none := zz
            rw [zz]
            exact k' H2 (Sm.refl _) _ R.none'
    | _ => exact o1.elim
end
end Ev

namespace Ev
variable [Wd]
open PySem PySem.Spec PyProof.Rows L2
open PySem.W.Z (ltB leB eqB ltB_iff leB_iff eqB_iff)
/-! {} as a dict of one's own; d[k] = v -/
def mDn (_ : SG) : Res Sl := .ok (.d [])
def dicAt (sg : SG) (i : Nat) : Option (List (PyData × PyData)) := match sg[i]? with | some (some (.d l)) => some l | _ => none
theorem dicAt_eq {sg : SG} {i : Nat} {l : List (PyData × PyData)} (h : dicAt sg i = some l) : sg[i]? = some (some (.d l)) := by
  unfold dicAt at h
  split at h
  · rename_i e; cases h; exact e
  · cases h
def mDput (i : Nat) (mk mv : SG → Res PyData) (sg : SG) : Res Fl := match dicAt sg i with
  | some l => (mv sg).bind fun v => (mk sg).bind fun k => match keyOf k with
    | some _ => match few (l.length + 1) with | true => .ok (.nx (put sg i (.d (dPut l k v)))) | false => .bad
    | none => .bad
  | none => .bad
/-- an owned thing gets a new content -/
theorem rel_wr {K : PySem.W.Frag} {C : CT} {A A0 : Ow} {H Hi : Hp} {sg : SG} {σ : L2.St} {i : Nat} {a : Addr} {s : Sl} {u o : HO} (rl : Rel K C A H sg σ) (b : Bod C.tabs A0 Hi σ.length A H) (hs : σ[i]? = some (some (.ref a))) (ha : A a = some i) (hu : H a = some u) (mu1 : mu u) (mo : mu o) (q : SlR K C A (upd H a o) i s (.ref a)) :
    Rel K C A (upd H a o) (put sg i s) σ ∧ Bod C.tabs A0 Hi σ.length A (upd H a o) ∧ Ex (hid A H) (hid A (upd H a o)) := by
  have hi : i < σ.length := by
    rw [List.getElem?_eq_some_iff] at hs; exact hs.1
  have hA : (A a).isSome = true := by rw [ha]; rfl
  have hh := hid_upd (H := H) (o := o) hA
  have hia : Hi a = none := b.new a i ha hi
  have tr : Trk A (upd H a o) := fun c hc => by
    by_cases hca : c = a
    · exact ⟨o, by rw [hca]; exact upd_same, mo⟩
    · obtain ⟨o', z, k⟩ := rl.trk c hc
      exact ⟨o', by rw [upd_ne hca]; exact z, k⟩
  refine ⟨?_, ⟨b.t0, b.sm.wr hia hu mu1, b.ext, b.new⟩, by rw [hh]; exact Ex.refl _⟩
  have z := rl.upd (A' := A) (H' := upd H a o) i q (fun j b u hj _ e1 e2 _ => ⟨e1, by rw [upd_ne (fun z => by rw [z, ha] at e1; exact hj (Option.some.inj e1).symm)]; exact e2⟩) (by rw [hh]; exact Ex.refl _) tr (fun p hp => TabS.upd hu mu1 (rl.tab p hp))
  rw [set_back hs] at z
  exact z
section
variable {X : Cx} {C : CT} {E : XK} {W : WX} {e a b c i : Expr} {mk mv ma : SG → Res PyData} {pos p pos' : Pos} {x : Str}
theorem c_dnew : PE X (.Dict [] [] pos) (TC X.K C W mDn) := pe_imp pe_dnewK fun σ H Q ⟨sg, A, rl, o⟩ p hp => o H (Sm.refl _) p [] hp Rk.nil
theorem s_dput {n : Nat} (hu : X.A.units + 1 < cLine) (hN : X.N[n]? = some x) (hv : Vis X.env.scope x) (hd : (x == ("__debug__" : Str)) = false) (hcd : (x == ("__classdict__" : Str)) = false) (hk : PE X i (T X.K C (WE E) mk)) (he : PE X e (T X.K C (WE E) mv))
    (hs : swapsWith e (some (.Subscript (.Name x p) i pos')) pos.line X.env = pure false) : PS X (.Assign [.Subscript (.Name x p) i pos'] e pos) (TSt X.K C E (mDput n mk mv)) :=
  ps_imp (ps_dput hu (pe_var hN hv hd hcd) hk he hs) fun D σ H ⟨sg, A, A0, Hi, rl, b, o⟩ => by
    unfold mDput at o
    split at o
    · rename_i l how
      obtain ⟨ad, vs, h1, h2, h3, h4⟩ := rl.dic n l (dicAt_eq how)
      refine ⟨sg, A, rl, (SOut.bind (σ := σ) b o).mono fun d H1 s1 o1 v rv => ?_⟩
      refine ⟨.ref ad, h1, sg, A, rl.mono s1, (SOut.bind (σ := σ) (b.mono s1) o1).mono fun k H2 s2 o2 y ry => ?_⟩
      split at o2
      · rename_i q hq
        split at o2
        · rename_i hf
          have s12 := s1.trans s2
          have h3' := s12.g _ _ h3
          have hA : (A ad).isSome = true := by rw [h2]; rfl
          refine ⟨ad, upd H2 ad (.dK (putK vs q v)), rfl, ?_, ?_⟩
          · rw [key_val hq ry]
            refine DPut.k h3' ?_
            have := few_le hf
            rw [h4.length]; omega
          · obtain ⟨z1, z2, z3⟩ := rel_wr (s := .d (dPut l k d)) (o := .dK (putK vs q v)) (rl.mono s12) (b.mono s12) h1 h2 h3' trivial trivial ⟨ad, _, rfl, h2, upd_same, by
              rw [hid_upd hA]
              exact put_okD hq (rv.mono (hid_sm s2)) (h4.mono (hid_sm s12))⟩
            exact o2 σ A _ z1 rfl z2 (Tq.wr h3' trivial) z3
        · exact o2.elim
      · exact o2.elim
    · exact o.elim
end
/-! sorted(d), the keys ints -/
def keysI : List (PyData × PyData) → Option (List Int)
  | [] => some []
  | p :: l => match p.1 with | .int i => (match keysI l with | some r => some (i :: r) | none => none) | _ => none
theorem keysI_rk {K : PySem.W.Frag} {H : Hp} : ∀ {l : List (PyData × PyData)} {ns : List Int} {vs : List (Key × V)}, keysI l = some ns → Rk K H l vs → vs.map (·.1) = ns.map Sum.inl
  | [], ns, vs, h, r => by
    cases h
    rw [r.nil_inv]; rfl
  | p :: l, ns, vs, h, r => by
    obtain ⟨q, v, t, rfl, h1, h2, h3⟩ := r.cons_inv
    obtain ⟨a, d⟩ := p
    cases a with
    | int i =>
      have h : (match keysI l with | some r => some (i :: r) | none => none) = some ns := h
      cases hl : keysI l with
      | none => simp [hl] at h
      | some r' =>
        simp [hl] at h
        subst h
        cases h1
        rw [List.map_cons, keysI_rk hl h3]; rfl
    | _ => cases h
section
variable {X : Cx}
theorem ints_keys {P : Program} {w : World} : ∀ {acc : List Value} {vs : List (Key × Value)} {ns : List Int}, vs.map (·.1) = ns.map Sum.inl → acc.length = vs.length → (∀ (j : Nat) (v : Value), acc[j]? = some v → ∃ (k : Key) (x : Value), vs[j]? = some (k, x) ∧ (mixKind P w).is k v = true) → IntsAre acc ns
  | [], [], [], _, _, _ => .nil
  | [], [], _ :: _, h, _, _ => by simp at h
  | [], _ :: _, _, _, h, _ => by simp at h
  | _ :: _, [], _, _, h, _ => by simp at h
  | _ :: _, _ :: _, [], h, _, _ => by simp at h
  | u :: acc, p :: vs, n :: ns, h, hl, k => by
    have h' : p.1 = Sum.inl n ∧ vs.map (·.1) = ns.map Sum.inl := by simpa using h
    obtain ⟨q, x, e1, e2⟩ := k 0 u (by simp)
    have e1 : p = (q, x) := by simpa using e1
    subst e1
    have e3 : q = Sum.inl n := h'.1
    subst e3
    have e2 : Value.isInt n u = true := e2
    obtain ⟨t, rfl⟩ := Value.isInt_shape e2
    exact .cons n t (ints_keys h'.2 (by simpa using hl) fun j v e => k (j + 1) v (by simpa using e))
def rSortDk : List V → Hp → VK → Prop := fun vs H Q => ∃ (a : Addr) (kws : List (Key × V)) (ns : List Int), vs = [V.ref a] ∧ Rd H a (.dK kws) ∧ kws.map (·.1) = ns.map Sum.inl ∧ ns.length < 64 ∧ ∀ (ms : List Int) (p : Addr), ms.Perm ns → ms.Pairwise (· ≤ ·) → H p = none → Q (.ref p) (upd H p (.lst (ms.map V.int)))
theorem cr_sortDk (hc : X.calm = true) : CallR X (.builtin "sorted") rSortDk := by
  intro pins s σ H vs us Q I r h
  obtain ⟨a, kws, ns, rfl, e, hk, h64, q⟩ := h
  rw [Vals.ref1 r]
  obtain ⟨z, hd, vs, rel, dd⟩ := dk_rd I.hok e
  obtain ⟨o, es, ep, dd'⟩ := dd
  have da : s.heap.DictAt (mixKind X.prog X.w) a vs ep := ⟨o, es, dd'⟩
  have hlen : vs.length = ns.length := by
    rw [← rel.length]
    have := congrArg List.length hk
    simpa using this
  have hkeys : vs.map (·.1) = ns.map Sum.inl := by
    rw [← hk]
    clear hk hlen dd' da z e q r
    induction rel with
    | nil => rfl
    | cons h _ ih => rw [List.map_cons, List.map_cons, ih, h.1]
  refine Calls.call_function_entry kind_sorted plain_sorted entry_sorted (args_sorted1 _) ?_
  unfold Builtin.«sorted»
  refine wpAny_bind (m := checkCount "sorted" 1 1 _) (wpAny_pure (wpAny_bind (PySem.W.kdu_collect (A := X.A.in1) (PySem.W.kdl_dict hd) (I.ok.hd hc) da (by rw [← rel.length]; exact z) fun h' tk acc keep hit => ?_)))
  have hI : IntsAre acc.toList ns := ints_keys (P := X.prog) (w := X.w) hkeys (by rw [Array.length_toList]; exact hit.1) fun j v ej => hit.2 j v (by rw [← Array.getElem?_toList]; exact ej)
  have hal : acc.toList.length = ns.length := hI.length
  refine wpAny_bind (wpAny_newList ?_ (by rw [hal, sizeLine_eq]; omega))
  have k2 : (h'.push (seqObj "list" acc.toList.toArray 0)).get? h'.objs.size = some (seqObj "list" acc.toList.toArray 0) := Heap.get?_push_size _ rfl
  have I2 : Inv X pins σ H { s with heap := h', toks := tk } := I.kept keep
  refine wpAny_bind (wpAny_holding (wpAny_call_entry slot_list_sort ⟨_, k2, rfl⟩ entry_list_sort (list_sort_tree k2 hI (by rw [hal]; exact h64) fun out ms b1 b2 b3 => ⟨_, rfl, wpAny_pure ⟨_, rfl, ?_⟩⟩) (args_list_sort _)))
  have old : ∀ b u, h'.get? b = some u → (sortedHeap (h'.push (seqObj "list" acc.toList.toArray 0)) h'.objs.size acc.toList out).get? b = some u := fun b u hb' => by
    have hlt := Heap.lt_size hb'
    rw [sortedHeap_old (Nat.ne_of_lt hlt) (by rw [size_push']; exact Nat.lt_succ_of_lt hlt), Heap.get?_push_of_some _ hb']
  obtain ⟨ep', he'⟩ := sortedHeap_at (out := out) (vs := acc.toList) k2
  have hlen2 : (ms.map V.int).length ≤ sizeLine := by rw [List.length_map, b2.length_eq, sizeLine_eq]; omega
  exact ⟨.ref _, upd H h'.objs.size (.lst (ms.map V.int)), I2.laid (t' := tk) old (Nat.le_refl _) ⟨hlen2, out.toList, ep', vals_of_ints b1, he'⟩, rfl, q ms _ b2 b3 (I2.hok.fresh (Nat.le_refl _))⟩
end
end Ev

namespace Ev
variable [Wd]
open PySem PySem.Spec PyProof.Rows L2
open PySem.W.Z (ltB leB eqB ltB_iff leB_iff eqB_iff)
/-! {k: v for t in it if ..}, keys ints or texts -/
def dcGo (t : Tg) (mt : SG → Res Bool) (mk mv : SG → Res PyData) (sg : SG) (acc : List (PyData × PyData)) : List PyData → Res (List (PyData × PyData))
  | [] => .ok acc
  | d :: r => match setT t d sg with
    | some sg' => (noX (mt sg')).bind fun b => match b with
      | true => (noX (mk sg')).bind fun k => match keyOf k with
        | some _ => (noX (mv sg')).bind fun v => dcGo t mt mk mv sg (dPut acc k v) r
        | none => .bad
      | false => dcGo t mt mk mv sg acc r
    | none => .bad
def mDc (t : Tg) (mi : SG → Res (List PyData)) (mt : SG → Res Bool) (mk mv : SG → Res PyData) (vs : List Nat) (sg : SG) : Res PyData := (mi sg).bind fun l => match few l.length with
  | true => (dcGo t mt mk mv (wipeS sg vs) [] l).bind fun kvs => .ok (.dict kvs)
  | false => .bad
theorem dcGo_noexn {t : Tg} {mt : SG → Res Bool} {mk mv : SG → Res PyData} {sg : SG} : ∀ {l : List PyData} {acc : List (PyData × PyData)} {c : Nat} {d : PyData}, dcGo t mt mk mv sg acc l ≠ .exn c d
  | [], acc, c, d, h => by cases h
  | x :: r, acc, c, d, h => by
    unfold dcGo at h
    split at h
    · cases hb : mt _ with
      | ok b =>
        rw [hb] at h
        cases b with
        | false => exact dcGo_noexn h
        | true =>
          cases hk : mk _ with
          | ok k =>
            simp only [noX, Res.bind] at h
            rw [hk] at h
            simp only [noX, Res.bind] at h
            split at h
            · cases hv : mv _ with
              | ok v => rw [hv] at h; exact dcGo_noexn h
              | exn _ _ => rw [hv] at h; cases h
              | bad => rw [hv] at h; cases h
              | ask n f => rw [hv] at h; cases h
            · cases h
          | exn _ _ => simp only [noX, Res.bind] at h; rw [hk] at h; cases h
          | bad => simp only [noX, Res.bind] at h; rw [hk] at h; cases h
          | ask n f => simp only [noX, Res.bind] at h; rw [hk] at h; cases h
      | exn _ _ => rw [hb] at h; cases h
      | bad => rw [hb] at h; cases h
      | ask n f => rw [hb] at h; cases h
    · cases h
theorem dcGo_noask {t : Tg} {mt : SG → Res Bool} {mk mv : SG → Res PyData} {sg : SG} : ∀ {l : List PyData} {acc : List (PyData × PyData)} {c : Int} {d : Int → Res (List (PyData × PyData))}, dcGo t mt mk mv sg acc l ≠ .ask c d
  | [], acc, c, d, h => by cases h
  | x :: r, acc, c, d, h => by
    unfold dcGo at h
    split at h
    · cases hb : mt _ with
      | ok b =>
        rw [hb] at h
        cases b with
        | false => exact dcGo_noask h
        | true =>
          cases hk : mk _ with
          | ok k =>
            simp only [noX, Res.bind] at h
            rw [hk] at h
            simp only [noX, Res.bind] at h
            split at h
            · cases hv : mv _ with
              | ok v => rw [hv] at h; exact dcGo_noask h
              | exn _ _ => rw [hv] at h; cases h
              | bad => rw [hv] at h; cases h
              | ask n f => rw [hv] at h; cases h
            · cases h
          | exn _ _ => simp only [noX, Res.bind] at h; rw [hk] at h; cases h
          | bad => simp only [noX, Res.bind] at h; rw [hk] at h; cases h
          | ask n f => simp only [noX, Res.bind] at h; rw [hk] at h; cases h
      | exn _ _ => rw [hb] at h; cases h
      | bad => rw [hb] at h; cases h
      | ask n f => rw [hb] at h; cases h
    · cases h
section
variable {X : Cx} {C : CT} {W : WX} {e a b tg iter elt kx vx : Expr} {ifs : List Expr} {mt : SG → Res Bool} {mi : SG → Res (List PyData)} {mk mv : SG → Res PyData} {pos p pos' : Pos}
theorem dc_ok {K : PySem.W.Frag} {W' : WX} {t : Tg} {vs : List Nat} (hsub : ∀ i ∈ t.ix, i ∈ vs) {σ : L2.St} {H1 : Hp} {sg : SG} {A : Ow} (rl : Rel K C A H1 sg σ) {l : List PyData} {res : List (PyData × PyData)} (hf : few l.length = true) (hys : dcGo t mt mk mv (wipeS sg vs) [] l = .ok res) {J : It} (hJ : ItOk K H1 (hid A H1) J l) {Q : VK}
    (k : ∀ H' kvs D, Sm C.tabs H1 H' → H1 D = none → H' D = some (.dK kvs) → Rk K (hid (own1 A D σ.length) H') res kvs → Q (.ref D) H') (D : Addr) (hD : H1 D = none) :
    ∃ W : Nat → Nat → Hp → Prop, (∃ m, W 0 m (upd H1 D (.dK []))) ∧ ∀ i m H, W i m H →
      (J.stop i H ∧ Q (.ref D) H) ∨ (J.go i H ∧ ∃ Nx : Hp → Prop, (∀ H', Nx H' → ∃ m', m' < m ∧ W (i + 1) m' H') ∧ ∀ x H', J.yld i H x H' → gT K t x (wipe σ vs) H' fun σ2 H2 => wipe σ2 vs = wipe σ vs ∧ TP K C W' mt σ2 H2 fun b H3 =>
        if b = true then T K C W' mk σ2 H3 fun y H4 => T K C W' mv σ2 H4 fun z H5 => ∃ kvs k, y = kV k ∧ H5 D = some (.dK kvs) ∧ kvs.length < sizeLine ∧ Nx (upd H5 D (.dK (putK kvs k z))) else Nx H3) := by
  have hfl := few_le hf
  let Pv : Nat → Hp → Prop := fun i H => Sm C.tabs H1 H ∧ Trk (own1 A D σ.length) H ∧ ∃ (kvs : List (Key × V)) (acc : List (PyData × PyData)), H D = some (.dK kvs) ∧ Rk K (hid (own1 A D σ.length) H) acc kvs ∧ dcGo t mt mk mv (wipeS sg vs) acc (l.drop i) = .ok res ∧ kvs.length ≤ i
  refine ⟨fun i m H => m = l.length - i ∧ i ≤ l.length ∧ Pv i H, ⟨l.length, rfl, Nat.zero_le _, Sm.new hD, trk_own1 rl.trk hD, [], [], upd_same .., Rk.nil, hys, Nat.le_refl _⟩, ?_⟩
  rintro i m H ⟨rfl, hi, s1, tr, kvs, acc, hDv, hr, hrest, hdl⟩
  by_cases hlt : i < l.length
  · refine .inr ⟨hJ.go i H s1 hlt, Pv (i + 1), fun H' p' => ⟨l.length - (i + 1), by omega, rfl, hlt, p'⟩, fun x H' y => ?_⟩
    have hli : l[i]? = some l[i] := by simp [hlt]
    obtain ⟨s2', rx⟩ := hJ.yld (own1 A D σ.length) i H x H' l[i] s1 (hid_own1_sm hD s1) tr hli y
    have s2 := s2' C.tabs
    have hdrop : l.drop i = l[i] :: l.drop (i + 1) := List.drop_eq_getElem_cons hlt
    rw [hdrop] at hrest
    unfold dcGo at hrest
    have rl2 : Rel K C (own1 A D σ.length) H' (wipeS sg vs) (wipe σ vs) := rel_own1 (rel_wipe rl vs) hD (s1.trans s2) (tr.mono s2.e)
    split at hrest
    · rename_i sg' hset
      obtain ⟨b, hb, hrest⟩ := noX_ok hrest
      refine gT_ok hset rx rl2 fun σ' hσ rl' => ⟨wipe_same (by rw [← rl'.len, ← rl.len, setT_keep hset, wipeS_len]) fun j hj => hσ j fun z => hj (hsub j z), ?_⟩
      refine tp_ok rl' hb fun H3 s3 => ?_
      have tr3 := (tr.mono s2.e).mono s3.e
      have sH : Sm C.tabs H H3 := s2.trans s3
      cases b with
      | true =>
        rw [if_pos rfl]
        obtain ⟨kd, hkd, hrest⟩ := noX_ok hrest
        split at hrest
        · rename_i kk hkk
          obtain ⟨vd, hvd, hrest⟩ := noX_ok hrest
          refine t_ok (rl'.mono s3) hkd fun H4 s4 u ru => t_ok ((rl'.mono s3.w).mono s4.w) hvd fun H5 s5 v rv => ?_
          have sH5 := (sH.trans s4).trans s5
          have tr5 := (tr3.mono s4.e).mono s5.e
          refine ⟨kvs, kk, key_val hkk ru, sH5.g _ _ hDv, by omega, (s1.trans sH5).wr hD (sH5.g _ _ hDv) trivial, fun a h => ?_, putK kvs kk v, dPut acc kd vd, upd_same .., ?_, hrest, ?_⟩
          · by_cases ha : a = D
            · exact ⟨.dK (putK kvs kk v), by rw [ha]; exact upd_same .., trivial⟩
            · obtain ⟨o, q, k⟩ := tr5 a h
              exact ⟨o, by rw [upd_ne ha]; exact q, k⟩
          · rw [hid_own1_upd]
            exact put_okD hkk rv (hr.mono (hid_sm sH5))
          · have := length_putK kvs kk v; omega
        · cases hrest
      | false =>
        rw [if_neg (by decide)]
        exact ⟨s1.trans sH, tr3, kvs, acc, sH.g _ _ hDv, hr.mono (hid_sm sH), hrest, by omega⟩
    · cases hrest
  · have e : i = l.length := by omega
    subst e
    rw [List.drop_length] at hrest
    cases hrest
    exact .inl ⟨hJ.stop H s1, k H kvs D s1 hD hDv hr⟩
/-- what was just made is locked for good -/
theorem pe_born {t : TE} (h : PE X e t) : PE X e (fun σ H Q => t σ H fun v H' => ∃ d u, v = .ref d ∧ H' d = some u ∧ Mut (some u) ∧ ∀ od, Q v (upd H' d (.frz od u))) :=
  ⟨fun pins s σ H Q I q => thn (h.run pins s σ H _ I q) fun u s1 ⟨v, H1, I1, r, d, w, e, hd, mu, k⟩ => by
    obtain ⟨od, I2⟩ := I1.lock hd mu
    exact ⟨v, _, I2, r, k od⟩⟩
theorem born_dict {K : PySem.W.Frag} {A : Ow} {TT : List (Addr × Str)} {H1 H' : Hp} {D : Addr} {n : Nat} {kvs : List (Key × V)} {res : List (PyData × PyData)} (t : Trk A H1) (sm : Sm TT H1 H') (h0 : H1 D = none) (h1 : H' D = some (.dK kvs)) (r : Rk K (hid (own1 A D n) H') res kvs) (od : Obj) :
    Sm TT H1 (upd H' D (.frz od (.dK kvs))) ∧ R K (hid A (upd H' D (.frz od (.dK kvs)))) (.dict res) (.ref D) := by
  have hA : (A D).isSome = false := t.new h0
  refine ⟨sm.wr h0 h1 trivial, R.dict_of ⟨D, od, kvs, rfl, by unfold hid; rw [if_neg (by rw [hA]; decide)]; exact upd_same, r.mono (Exs.w ⟨fun a o e _ => ?_⟩)⟩⟩
  by_cases ha : a = D
  · subst ha
    unfold hid own1 at e
    simp at e
  · rw [hid_own1 ha] at e
    unfold hid at e ⊢
    split at e
    · cases e
    · rename_i z
      rw [if_neg z, upd_ne ha]; exact e
theorem e_dc {W' : WX} {t : Tg} {scope : Scope} {own : List (Str × Nat)} (hc : X.calm = true) (hN : X.N.Nodup) (hi : PI X tg iter (TIt X.K C W true mi)) (ok : BlkOk X.N X.env.scope scope own)
    (hg : ∀ (s : Shared) (H : Hp) (Z : Addr) (cl : List (Str × Addr)) (fp : List Addr), PG (X.blk s H scope (compEnvC scope cl Z X.env) fp) tg (gT X.K t))
    (ht : ∀ (s : Shared) (H : Hp) (Z : Addr) (cl : List (Str × Addr)) (fp : List Addr), PTs (X.blk s H scope (compEnvC scope cl Z X.env) fp) ifs (TP X.K C W' mt))
    (hk : ∀ (s : Shared) (H : Hp) (Z : Addr) (cl : List (Str × Addr)) (fp : List Addr), PE (X.blk s H scope (compEnvC scope cl Z X.env) fp) kx (T X.K C W' mk))
    (hv : ∀ (s : Shared) (H : Hp) (Z : Addr) (cl : List (Str × Addr)) (fp : List Addr), PE (X.blk s H scope (compEnvC scope cl Z X.env) fp) vx (T X.K C W' mv))
    (hs : ∀ x, foldedSetIterable iter X.env x = pure x) (hsub : ∀ i ∈ t.ix, i ∈ own.map (·.2)) :
    PE X (.DictComp kx vx [⟨tg, iter, ifs, 0⟩] scope pos) (T X.K C W (mDc t mi mt mk mv (own.map (·.2)))) :=
  pe_imp (pe_born (pe_dc hc hN hi ok hg ht hk hv hs)) fun σ H Q ⟨sg, A, rl, o⟩ => by
    refine ⟨sg, A, rl, o.bind.mono fun l H1 s1 o1 J hJ D hD => ?_⟩
    have hJ' : ItOk X.K H1 (hid A H1) J l := hJ
    split at o1
    · rename_i hf
      cases hys : dcGo t mt mk mv (wipeS sg (own.map (·.2))) [] l with
      | ok res =>
        rw [hys] at o1
        exact dc_ok (Q := fun v H' => ∃ d u, v = .ref d ∧ H' d = some u ∧ Mut (some u) ∧ ∀ od, Q v (upd H' d (.frz od u))) hsub (rl.mono s1) hf hys hJ' (fun H' kvs D' sm h0 h1 rk => ⟨D', .dK kvs, rfl, h1, trivial, fun od => let ⟨z1, z2⟩ := born_dict (rl.mono s1).trk sm h0 h1 rk od; o1 _ z1 _ z2⟩) D hD
      | exn c d => exact absurd hys dcGo_noexn
      | ask n f => exact absurd hys dcGo_noask
      | bad => rw [hys] at o1; exact o1.elim
    · exact o1.elim
end
end Ev

namespace Ev
variable [Wd]
open PySem PySem.Spec PyProof.Rows L2
open PySem.W.Z (ltB leB eqB ltB_iff leB_iff eqB_iff)
def sortP2 (d : PyData) : Option PyData := match d with
  | .dict l => (keysI l).bind fun ns => match Nat.blt ns.length 64 with | true => some (.list ((srtI ns).map .int)) | false => none
  | d => sortP d
section
variable {X : Cx}
theorem cr_sortAll (hc : X.calm = true) : CallR X (.builtin "sorted") (fun vs H Q => (rSortedI X.K vs H Q ∨ rSortTI X.K vs H Q) ∨ rSortDk vs H Q) := by
  intro pins s σ H vs us Q I r h
  rcases h with h | h
  · exact cr_sortLT pins s σ H vs us Q I r h
  · exact cr_sortDk hc pins s σ H vs us Q I r h
theorem f_sortAll : CallF X.K (fun vs H Q => (rSortedI X.K vs H Q ∨ rSortTI X.K vs H Q) ∨ rSortDk vs H Q) sortP2 := by
  intro TT A H dx d x Q e t rx k
  cases dx with
  | dict l =>
    have nt : isTok l = false := by
      unfold isTok
      split
      · cases e
      · rfl
    obtain ⟨a', vs, e1, h1, r1⟩ := rx.dict nt
    have e : ((keysI l).bind fun ns => match Nat.blt ns.length 64 with | true => some (PyData.list ((srtI ns).map .int)) | false => none) = some d := e
    cases hn : keysI l with
    | none => rw [hn] at e; cases e
    | some ns =>
      rw [hn] at e
      have e2 : (match Nat.blt ns.length 64 with | true => some (PyData.list ((srtI ns).map .int)) | false => none) = some d := e
      split at e2
      · rename_i hl
        cases e2
        refine .inr ⟨a', vs, ns, by rw [e1], h1, keysI_rk hn r1, blt_lt hl, fun ms q pm sr hq => ?_⟩
        have := srtI_eq pm sr
        subst this
        have z := new_list t (rs_intsL (K := X.K) (H := hid A H) (srtI ns)) hq
        exact k _ _ z.1 z.2
      · cases e2
  | none => exact .inl (f_sort TT A H .none d x Q e t rx k)
  | bool b => exact .inl (f_sort TT A H (.bool b) d x Q e t rx k)
  | int b => exact .inl (f_sort TT A H (.int b) d x Q e t rx k)
  | str b => exact .inl (f_sort TT A H (.str b) d x Q e t rx k)
  | list b => exact .inl (f_sort TT A H (.list b) d x Q e t rx k)
  | tuple b => exact .inl (f_sort TT A H (.tuple b) d x Q e t rx k)
end
/-! while -/
def whGo (mt : SG → Res Bool) (ms : SG → Res Fl) : Nat → SG → Res Fl
  | 0, _ => .bad
  | n + 1, sg => (mt sg).bind fun b => match b with
    | true => (ms sg).bind fun f => match f with
      | .nx sg' => whGo mt ms n sg'
      | .rt d => .ok (.rt d)
    | false => .ok (.nx sg)
section
variable {X : Cx} {C : CT} {E : XK} {e : Expr} {sts : List Stmt} {mt : SG → Res Bool} {ms : SG → Res Fl} {pos : Pos}
theorem wh_ok {K : PySem.W.Frag} {n : Nat} {D : Ends} {σ : L2.St} {H : Hp} (h : TSt K C E (whGo mt ms n) D σ H) : tWhile (TP K C (WE E) mt) (TSt K C E ms) D σ H := by
  obtain ⟨sg, A, A0, Hi, rl, b, o⟩ := h
  let W : Nat → L2.St → Hp → Prop := fun m σ' H' => σ'.length = σ.length ∧ ∃ sg' A', Rel K C A' H' sg' σ' ∧ Bod C.tabs A0 Hi σ.length A' H' ∧ Ex (hid A H) (hid A' H') ∧ SOut K C E A0 Hi D σ.length A' H' (whGo mt ms m sg')
  refine ⟨W, ⟨n, rfl, sg, A, rl, b, Ex.refl _, o⟩, ?_⟩
  rintro m σ' H' ⟨hl, sg', A', r', b', sm, o2⟩
  cases m with
  | zero => exact o2.elim
  | succ m =>
    have o2 : SOut K C E A0 Hi D σ.length A' H' ((mt sg').bind fun b => match b with
      | true => (ms sg').bind fun f => match f with
        | .nx sg' => whGo mt ms m sg'
        | .rt d => .ok (.rt d)
      | false => .ok (.nx sg')) := o2
    rw [← hl] at o2 b'
    refine ⟨sg', A', r', (SOut.bind (σ := σ') b' o2).mono fun bb H1 s1 o3 => ?_⟩
    cases bb with
    | true =>
      rw [if_pos rfl]
      refine ⟨W m, fun σ2 H2 p => ⟨m, Nat.lt_succ_self _, p⟩, ?_⟩
      have r1 := r'.mono s1
      have b1 := b'.mono s1
      refine ⟨sg', A', A0, Hi, r1, b1, ?_⟩
      have o3 : SOut K C E A0 Hi D σ'.length A' H1 ((ms sg').bind fun f => match f with
        | .nx sg' => whGo mt ms m sg'
        | .rt d => .ok (.rt d)) := o3
      refine SOut.then o3 (fun H3 sg3 s3 o4 => ?_) fun H3 d o4 => o4
      refine fun σ4 A4 H4 r4 l4 b4 q4 s4 => ⟨l4.trans hl, sg3, A4, r4, ?_, ((sm.trans (hid_sm s1.e)).trans (hid_sm s3.e)).trans s4, ?_⟩
      · rw [← hl]; exact b4
      · rw [← hl]; exact o4.from s4 q4
    | false =>
      rw [if_neg (by decide)]
      exact o3 σ' A' H1 (r'.mono s1) rfl (b'.mono s1) (Tq.refl _) (Ex.refl _)
theorem s_while (n : Nat) (hp : PassesOwn (model X.prog X.w) X.A X.env X.xe) (hc : PT X e (TP X.K C (WE E) mt)) (hb : PSs X sts (TSt X.K C E ms)) : PS X (.While e sts [] pos) (TSt X.K C E (whGo mt ms n)) :=
  ps_imp (ps_while hp hc hb) fun D σ H h => wh_ok h
end
/-! name += e, name -= e, ints -/
def mAug (i : Nat) (f : Int → Int → Int) (me : SG → Res PyData) (sg : SG) : Res Fl := match sg[i]? with
  | some (some (.v (.int a))) => (me sg).bind fun d => match d with
    | .int b => .ok (.nx (put sg i (.v (.int (f a b)))))
    | _ => .bad
  | _ => .bad
section
variable {X : Cx} {C : CT} {E : XK} {e : Expr} {me : SG → Res PyData} {pos pos' : Pos}
theorem s_aug {i : Nat} {x : Str} {op : Operator} {f : Int → Int → Int} (hN : X.N.Nodup) (hi : X.N[i]? = some x) (hx : Loc X.env.scope x) (he : PE X e (T X.K C (WE E) me)) (ho : PIp X op (ipI f)) (hf : X.fn x = true ∨ X.env.scope.names.lookup x = some .local) :
    PS X (.AugAssign (.Name x pos') op e pos) (TSt X.K C E (mAug i f me)) :=
  ps_imp (ps_aug hN hi hx he ho hf) fun D σ H ⟨sg, A, A0, Hi, rl, b, o⟩ => by
    unfold mAug at o
    split at o
    · rename_i a ea
      obtain ⟨v, e1, q⟩ := rl.val i _ ea
      unfold R at q
      subst q
      refine ⟨_, e1, sg, A, rl, (SOut.bind (σ := σ) b o).mono fun d H1 s1 o1 y ry => ?_⟩
      split at o1
      · rename_i c
        unfold R at ry
        subst ry
        exact ⟨a, c, rfl, rfl, o1 _ A H1 (rel_set (rl.mono s1) i R.int') (by simp) (b.mono s1) (Tq.refl _) (Ex.refl _)⟩
      · exact o1.elim
    · exact o.elim
end
inductive A2 where
  | add | sub
def A2.f : A2 → Int → Int → Int
  | .add => fun i j => i + j
  | .sub => fun i j => i - j
def A2.is : A2 → Operator → Bool
  | .add, .Add => true
  | .sub, .Sub => true
  | _, _ => false
theorem A2.ok {X : Cx} {a : A2} {op : Operator} (h : a.is op = true) : PIp X op (ipI a.f) := by
  cases a <;> cases op <;> first | (cases h; done) | skip
  · exact ip_add
  · exact ip_sub
theorem few_two {a b : Expr} {env : Env} {cpos : Pos} (h : notStar a = true) (h2 : notStar b = true) : ((backTo cpos (starEach [a, b] env)).all (fun x => !x.1) && (backToKw cpos (keywordEach [] env)).all (fun x => x.1.isSome) && decide (([a, b] : List Expr).length + ([] : List Keyword).length + (if ([] : List Keyword).isEmpty then 0 else 1) < 30)) = true := by
  rw [star_cons h, star_cons h2]; rfl
/-! a test: a if c else b -/
def mIteT (mc ma mb : SG → Res Bool) (sg : SG) : Res Bool := (mc sg).bind fun k => match k with | true => ma sg | false => mb sg
theorem p_iteX {X : Cx} {C : CT} {W : WX} {c a b : Expr} {pos : Pos} {mc ma mb : SG → Res Bool} (hc : PT X c (TP X.K C W mc)) (ha : PT X a (TP X.K C W ma)) (hb : PT X b (TP X.K C W mb)) : PT X (.IfExp c a b pos) (TP X.K C W (mIteT mc ma mb)) := by
  refine ⟨fun pins s σ H Q I ⟨sg, A, rl, o⟩ => ?_⟩
  rw [arm_isTrue_IfExp]
  refine wpAny_bind (thn (hc.run pins s σ H (fun k H1 => Out X.K C A (fun cx dx H' => W cx dx σ H') H1 (match k with | true => ma sg | false => mb sg) (fun d H' => Q d H') ∧ Rel X.K C A H1 sg σ) I ⟨sg, A, rl, o.bind.mono fun k H1 s1 o1 => ⟨o1, rl.mono s1⟩⟩) fun k s1 ⟨H1, I1, o1, rl1⟩ => ?_)
  cases k with
  | true => rw [if_pos rfl]; exact ha.run pins s1 σ H1 Q I1 ⟨sg, A, rl1, o1⟩
  | false => rw [if_neg (by decide)]; exact hb.run pins s1 σ H1 Q I1 ⟨sg, A, rl1, o1⟩
end Ev

namespace Ev
variable [Wd]
open PySem PySem.Spec PyProof.Rows L2
open PySem.W.Z (ltB leB eqB ltB_iff leB_iff eqB_iff)
open PySem.W (EachIs AllAlike Sortable dataLe dataLt alike alikeAll)
/-! rows: tuples of ints, each with an item at least -/
def tupI (r : List Int) : PyData := .tuple (r.map .int)
def rowOf : PyData → Option (List Int)
  | .tuple l => (match l with | [] => none | _ => intsL l)
  | _ => none
def rowsL : List PyData → Option (List (List Int))
  | [] => some []
  | d :: l => match rowOf d with
    | some r => (match rowsL l with | some rs => some (r :: rs) | none => none)
    | none => none
theorem intsL_eq : ∀ {l : List PyData} {ns : List Int}, intsL l = some ns → l = ns.map .int
  | [], ns, h => by cases h; rfl
  | d :: l, ns, h => by
    cases d with
    | int i =>
      unfold intsL at h
      cases hl : intsL l with
      | none => simp [hl] at h
      | some r' =>
        simp [hl] at h
        subst h
        rw [intsL_eq hl]; rfl
    | _ => cases h
theorem rowOf_eq {d : PyData} {r : List Int} (h : rowOf d = some r) : d = tupI r ∧ r ≠ [] := by
  unfold rowOf at h
  split at h
  · split at h
    · cases h
    · rename_i l hne
      have e := intsL_eq h
      refine ⟨by rw [e]; rfl, fun z => ?_⟩
      subst z
      exact hne e
  · cases h
theorem rowsL_eq : ∀ {l : List PyData} {rs : List (List Int)}, rowsL l = some rs → l = rs.map tupI ∧ ∀ r ∈ rs, r ≠ []
  | [], rs, h => by cases h; exact ⟨rfl, fun _ h => by cases h⟩
  | d :: l, rs, h => by
    unfold rowsL at h
    split at h
    · rename_i r e
      split at h
      · rename_i rs' e2
        cases h
        obtain ⟨h1, h2⟩ := rowOf_eq e
        obtain ⟨h3, h4⟩ := rowsL_eq e2
        refine ⟨by rw [h1, h3]; rfl, fun x hx => ?_⟩
        rcases List.mem_cons.mp hx with rfl | hx
        · exact h2
        · exact h4 x hx
      · cases h
    · cases h
def ltR : List Int → List Int → Bool
  | [], [] => false
  | [], _ :: _ => true
  | _ :: _, [] => false
  | x :: xs, y :: ys => match ltB x y with
    | true => true
    | false => match eqB x y with | true => ltR xs ys | false => false
theorem ltR_iff : ∀ a b : List Int, ltR a b = decide (a < b)
  | [], [] => by simp [ltR]
  | [], _ :: _ => by simp [ltR]
  | _ :: _, [] => by simp [ltR]
  | x :: xs, y :: ys => by
    unfold ltR
    rw [ltB_eq, eqB_eq, ltR_iff xs ys]
    rw [show decide (x :: xs < y :: ys) = decide (x < y ∨ x = y ∧ xs < ys) from by simp [List.cons_lt_cons_iff]]
    by_cases h : x < y
    · simp [h]
    · by_cases e : x = y
      · subst e; simp
      · have e' : (x == y) = false := beq_eq_false_iff_ne.mpr e
        simp [h, e, e']
def leR (a b : List Int) : Bool := !(ltR b a)
theorem leR_iff (a b : List Int) : leR a b = decide (a ≤ b) := by
  unfold leR
  rw [ltR_iff]
  by_cases h : b < a
  · have : ¬ a ≤ b := fun r => List.not_lt.mpr r h
    simp [h, this]
  · have : a ≤ b := List.not_lt.mp h
    simp [h, this]
def insR (i : List Int) : List (List Int) → List (List Int)
  | [] => [i]
  | j :: l => match leR i j with | true => i :: j :: l | false => j :: insR i l
def srtR : List (List Int) → List (List Int)
  | [] => []
  | i :: l => insR i (srtR l)
theorem insR_perm (i : List Int) : ∀ l : List (List Int), (insR i l).Perm (i :: l)
  | [] => .refl _
  | j :: l => by
    unfold insR
    split
    · exact .refl _
    · exact ((insR_perm i l).cons j).trans (.swap i j l)
theorem insR_mem {i k : List Int} {l : List (List Int)} (h : k ∈ insR i l) : k = i ∨ k ∈ l := by
  have := (insR_perm i l).mem_iff.mp h
  simpa using this
theorem insR_srt (i : List Int) : ∀ l : List (List Int), l.Pairwise (· ≤ ·) → (insR i l).Pairwise (· ≤ ·)
  | [], _ => by simp [insR]
  | j :: l, h => by
    unfold insR
    rw [List.pairwise_cons] at h
    split
    · rename_i q
      rw [leR_iff, decide_eq_true_eq] at q
      refine List.pairwise_cons.mpr ⟨fun k hk => ?_, List.pairwise_cons.mpr h⟩
      rcases List.mem_cons.mp hk with rfl | hk
      · exact q
      · exact List.le_trans q (h.1 k hk)
    · rename_i q
      rw [leR_iff, decide_eq_false_iff_not] at q
      have q' : j ≤ i := (List.le_total i j).resolve_left q
      refine List.pairwise_cons.mpr ⟨fun k hk => ?_, insR_srt i l h.2⟩
      rcases insR_mem hk with rfl | hk
      · exact q'
      · exact h.1 k hk
theorem srtR_perm : ∀ l : List (List Int), (srtR l).Perm l
  | [] => .refl _
  | i :: l => (insR_perm i (srtR l)).trans ((srtR_perm l).cons i)
theorem srtR_srt : ∀ l : List (List Int), (srtR l).Pairwise (· ≤ ·)
  | [] => List.Pairwise.nil
  | i :: l => insR_srt i _ (srtR_srt l)
theorem srtR_eq {l ns : List (List Int)} (p : ns.Perm l) (s : ns.Pairwise (· ≤ ·)) : ns = srtR l :=
  List.Perm.eq_of_pairwise (fun x y _ _ h1 h2 => List.le_antisymm h1 h2) s (srtR_srt l) (p.trans (srtR_perm l).symm)
theorem dataLe_tups : dataLe (β := V × List Int) false (fun b => tupI b.2) = fun p q => decide (p.2 ≤ q.2) := by
  have e := PySem.W.dataLe_rows (β := V × List Int) fun b => b.2
  rw [← e]
  funext p q
  show (!dataLt (tupI q.2) (tupI p.2)) = (!dataLt (.list (q.2.map .int)) (.list (p.2.map .int)))
  unfold tupI
  rw [PySem.W.dataLt_list, PySem.W.dataLt_tuple]
section
variable {X : Cx}
theorem shp_ints : ∀ (n : Nat) (r : List Int), shps n (r.map .int) = true
  | _, [] => by simp [shps]
  | n, x :: r => by
    show (shp n (.int x) && shps n (r.map .int)) = true
    rw [shp_ints n r]
    cases n <;> rfl
theorem nods_ints (r : List Int) : nods (r.map .int) = true := shps_nods (shp_ints 1 r)
theorem nod_tupI (r : List Int) : nod (tupI r) = true := by
  unfold tupI nod
  exact nods_ints r
theorem nods_rows : ∀ rs : List (List Int), nods (rs.map tupI) = true
  | [] => rfl
  | r :: rs => by
    show (nod (tupI r) && nods (rs.map tupI)) = true
    rw [nod_tupI, nods_rows rs]; rfl
theorem each_row {pins : List (Addr × Obj)} {σ : L2.St} {H G : Hp} {s : Shared} (I : Inv X pins σ H s) (g : Ex G H) : ∀ {rs : List (List Int)} {xs : List V} {us : List Value}, Rs X.K G (rs.map tupI) xs → Vals xs us →
    EachIs (fun u (b : V × List Int) => RelV b.1 u ∧ R X.K G (tupI b.2) b.1) us (xs.zip rs) ∧ EachIs (fun u (b : V × List Int) => ∃ as, Reads s.heap u (tupI b.2) as) us (xs.zip rs) ∧ (xs.zip rs).map (·.2) = rs
  | [], xs, us, r, v => by
    rw [r.nil_inv] at v ⊢
    cases v
    exact ⟨.nil, .nil, rfl⟩
  | q :: rs, xs, us, r, v => by
    obtain ⟨x, t, rfl, r1, r2⟩ := r.cons_inv
    cases v with
    | cons v1 v2 =>
      obtain ⟨h1, h2, h3⟩ := each_row I g r2 v2
      exact ⟨.cons ⟨v1, r1⟩ h1, .cons (Dp.reads I _ _ _ (R.dp (nod_tupI q) (r1.mono g)) v1) h2, by rw [List.zip_cons_cons, List.map_cons, h3]⟩
theorem each_back {K : PySem.W.Frag} {G : Hp} : ∀ {bs : List (V × List Int)} {us : List Value}, EachIs (fun u (b : V × List Int) => RelV b.1 u ∧ R K G (tupI b.2) b.1) us bs → Vals (bs.map (·.1)) us ∧ Rs K G ((bs.map (·.2)).map tupI) (bs.map (·.1))
  | [], us, h => by cases h; exact ⟨.nil, Rs.nil⟩
  | b :: bs, us, h => by
    cases h with
    | cons h1 h2 =>
      obtain ⟨a, c⟩ := each_back h2
      exact ⟨.cons h1.1 a, Rs.cons h1.2 c⟩
theorem alike_rows : ∀ xs ys : List Int, alikeAll (xs.map .int) (ys.map .int) = true := PySem.W.alike_ints
def rSortRw (K : PySem.W.Frag) : List V → Hp → VK → Prop := fun vs H Q => ∃ (a : Addr) (xs : List V) (rs : List (List Int)) (G : Hp), vs = [V.ref a] ∧ SqL K H a xs ∧ Ex G H ∧ Rs K G (rs.map tupI) xs ∧ (∀ r ∈ rs, r ≠ []) ∧ rs.length ≤ 100000 ∧
  ∀ (ys : List V) (p : Addr), Rs K G ((srtR rs).map tupI) ys → H p = none → Q (.ref p) (upd H p (.lst ys))
theorem cr_sortRw (hu : X.A.units + 65 < cLine) : CallR X (.builtin "sorted") (rSortRw X.K) := by
  intro pins s σ H vs us Q I r h
  obtain ⟨a, xs, rs, G, rfl, hs, g, hr, hne, hl, q⟩ := h
  obtain ⟨its, rv, hlist, _⟩ := I.list hs
  rw [Vals.ref1 r]
  obtain ⟨e1, e2, e3⟩ := each_row I g hr rv
  have hlen : (xs.zip rs).length = rs.length := by
    have := congrArg List.length e3
    simpa using this
  refine PySem.W.sorted_data (enc := fun b : V × List Int => tupI b.2) hlist.isList e1 e2 (AllAlike.of fun b b' => ?_) (.inl fun d hd => ?_) (by rw [hlen, sizeLine_eq]; omega) (fun b _ => ?_) fun out ho eo => ?_
  · show alikeAll (b.2.map .int) (b'.2.map .int) = true
    exact PySem.W.alike_ints _ _
  · obtain ⟨b, hb, rfl⟩ := List.mem_map.mp hd
    have hb2 : b.2 ∈ rs := by rw [← e3]; exact List.mem_map.mpr ⟨b, hb, rfl⟩
    cases hz : b.2 with
    | nil => exact absurd hz (hne _ hb2)
    | cons i t => exact ⟨.int i, t.map .int, rfl⟩
  · have : (tupI b.2).depth = 1 := by
      unfold tupI
      simp [PyData.depth, PySem.W.depth_ints]
    show X.A.units + 2 + (tupI b.2).depth < cLine
    omega
  · rw [dataLe_tups] at eo
    obtain ⟨v1, v2⟩ := each_back eo
    have pm : (((xs.zip rs).mergeSort fun p q => decide (p.2 ≤ q.2)).map (·.2)).Perm rs := by
      have := (List.mergeSort_perm (xs.zip rs) fun p q => decide (p.2 ≤ q.2)).map (·.2)
      rw [e3] at this
      exact this
    have sr : (((xs.zip rs).mergeSort fun p q => decide (p.2 ≤ q.2)).map (·.2)).Pairwise (· ≤ ·) := by
      rw [List.pairwise_map]
      have := List.pairwise_mergeSort (le := fun (p q : V × List Int) => decide (p.2 ≤ q.2)) (fun a b c h1 h2 => by simp at *; exact List.le_trans h1 h2) (fun a b => by simp; exact List.le_total _ _) (xs.zip rs)
      exact this.imp fun h => by simpa using h
    rw [srtR_eq pm sr] at v2
    obtain ⟨ep, he'⟩ := PyProof.Rows.sortedAll_at s.heap its (List.toArray out)
    have hlen2 : (((xs.zip rs).mergeSort fun p q => decide (p.2 ≤ q.2)).map (·.1)).length ≤ sizeLine := by
      rw [List.length_map, List.length_mergeSort, hlen, sizeLine_eq]; omega
    exact ⟨.ref _, upd H (s.heap.objs.size + 1) (.lst _), I.laid (t' := s.toks) (fun _ _ => PyProof.Rows.sortedAll_old) (Nat.le_succ _) ⟨hlen2, out, ep, v1, by simpa using he'⟩, rfl, q _ _ v2 (I.hok.fresh (Nat.le_succ _))⟩

def maxR (r : List Int) : List (List Int) → List Int
  | [] => r
  | q :: l => maxR (match ltR r q with | true => q | false => r) l
theorem ltD (a b : List Int) : dataLt (tupI a) (tupI b) = ltR a b := by
  unfold tupI
  rw [PySem.W.dataLt_tuple, ltR_iff]
  exact PySem.W.dataLt_ints a b
theorem maxD_rows : ∀ (l : List (List Int)) (r : List Int), PySem.W.maxD (tupI r) (l.map tupI) = tupI (maxR r l)
  | [], r => rfl
  | q :: l, r => by
    show PySem.W.maxD (if dataLt (tupI r) (tupI q) then tupI q else tupI r) (l.map tupI) = tupI (maxR (match ltR r q with | true => q | false => r) l)
    rw [ltD, ← maxD_rows l]
    cases ltR r q <;> rfl
theorem maxR_mem : ∀ (l : List (List Int)) (r : List Int), maxR r l ∈ r :: l
  | [], r => by simp [maxR]
  | q :: l, r => by
    have h := maxR_mem l (match ltR r q with | true => q | false => r)
    unfold maxR
    rcases List.mem_cons.mp h with h | h
    · rw [h]
      cases ltR r q <;> simp
    · exact List.mem_cons_of_mem _ (List.mem_cons_of_mem _ h)
theorem plain_ints : ∀ r : List Int, PyData.plainAll (r.map .int) = true
  | [] => rfl
  | x :: r => by
    show (PyData.plain (.int x) && PyData.plainAll (r.map .int)) = true
    rw [plain_ints r]; rfl
theorem plain_tupI (r : List Int) : (tupI r).plain = true := plain_ints r
theorem depth_tupI (r : List Int) : (tupI r).depth = 1 := by
  unfold tupI
  simp [PyData.depth, PySem.W.depth_ints]
theorem depth_rows : ∀ rs : List (List Int), PyData.depthAll (rs.map tupI) ≤ 1
  | [] => by simp [PyData.depthAll]
  | r :: rs => by
    have := depth_rows rs
    simp only [List.map_cons, PyData.depthAll, depth_tupI]
    omega
theorem Rs.dpAll {K : PySem.W.Frag} {H : Hp} {ds : List PyData} {vs : List V} (n : nods ds = true) (r : Rs K H ds vs) : DpAll K H vs ds := Rs.dp n r
def rMaxRw (K : PySem.W.Frag) : List V → Hp → VK → Prop := fun vs H Q => ∃ (a : Addr) (xs : List V) (r : List Int) (rs : List (List Int)) (G : Hp), vs = [V.ref a] ∧ SqL K H a xs ∧ Ex G H ∧ Rs K G ((r :: rs).map tupI) xs ∧ ∀ x, R K G (tupI (maxR r rs)) x → Q x H
theorem cr_maxRw (hc : X.calm = true) (hu : X.A.units + 65 < cLine) : CallR X (.builtin "max") (rMaxRw X.K) := by
  intro pins s σ H vs us Q I r h
  obtain ⟨a, xs, r0, rs, G, rfl, hs, g, hr, q⟩ := h
  obtain ⟨its, rv, hlist, _⟩ := I.list hs
  rw [Vals.ref1 r]
  obtain ⟨as, hra⟩ := Dp.readsAll I _ _ _ (Rs.dpAll (nods_rows (r0 :: rs)) (hr.mono g)) rv
  have hd := depth_rows (r0 :: rs)
  refine PySem.W.max_list_data (I.ok.hd hc) hlist.isList (by simpa using hra) ⟨fun x hx y hy => ?_, fun x hx => ?_⟩ (by show X.A.units + 1 + PyData.depthAll ((r0 :: rs).map tupI) < cLine; omega) fun i v h' tk bs hv hread keep => ?_
  · obtain ⟨p, _, rfl⟩ := List.mem_map.mp (show x ∈ (r0 :: rs).map tupI from hx)
    obtain ⟨p', _, rfl⟩ := List.mem_map.mp (show y ∈ (r0 :: rs).map tupI from hy)
    exact PySem.W.alike_ints _ _
  · obtain ⟨p, _, rfl⟩ := List.mem_map.mp (show x ∈ (r0 :: rs).map tupI from hx)
    intro z; cases z
  · have hv' : its[i]? = some v := by simpa using hv
    rw [show PySem.W.maxD (tupI r0) (rs.map tupI) = tupI (maxR r0 rs) from maxD_rows rs r0] at hread
    have hi : i < its.length := by
      rw [List.getElem?_eq_some_iff] at hv'; exact hv'.1
    have hx : ∃ x, xs[i]? = some x ∧ RelV x v := by
      have hl := rv.length
      have : xs[i]? = some xs[i] := by simp [hl, hi]
      obtain ⟨u, hu, ru⟩ := rv.get this
      rw [hv'] at hu
      cases hu
      exact ⟨_, this, ru⟩
    obtain ⟨x, hx, rx⟩ := hx
    have hrow : ∃ p, ((r0 :: rs).map tupI)[i]? = some (tupI p) ∧ R X.K G (tupI p) x := by
      have hl2 : i < ((r0 :: rs).map tupI).length := by
        have := hr.length
        rw [← this, rv.length]; exact hi
      have hl3 : i < (r0 :: rs).length := by simpa using hl2
      have e : ((r0 :: rs).map tupI)[i]? = some (tupI ((r0 :: rs)[i]'hl3)) := by rw [List.getElem?_map, List.getElem?_eq_getElem hl3]; rfl
      obtain ⟨x', h1, h2⟩ := hr.get e
      rw [hx] at h1
      cases h1
      exact ⟨_, e, h2⟩
    obtain ⟨p, _, hp⟩ := hrow
    obtain ⟨bs2, hp2⟩ := Dp.reads I _ _ _ (R.dp (nod_tupI p) (hp.mono g)) rx
    have e : tupI p = tupI (maxR r0 rs) := PySem.SeqAt.plain_unique _ _ _ _ _ (plain_tupI p) (PySem.W.reads_keeps keep hp2) hread
    exact ⟨x, H, I.kept keep, rx, q x (by rw [← e]; exact hp)⟩
end
/-! sorted, max of lists of ints or rows -/
def sortP3 (d : PyData) : Option PyData := match d with
  | .list l => (match intsL l with
    | some ns => some (.list ((srtI ns).map .int))
    | none => match rowsL l with
      | some rs => (match Nat.ble rs.length 100000 with | true => some (.list ((srtR rs).map tupI)) | false => none)
      | none => none)
  | d => sortP2 d
def maxP2 (d : PyData) : Option PyData := match d with
  | .list l => (match intsL l with
    | some _ => maxP (.list l)
    | none => match rowsL l with
      | some (r :: rs) => some (tupI (maxR r rs))
      | _ => none)
  | d => maxP d
section
variable {X : Cx}
theorem cr_sort3 (hc : X.calm = true) (hu : X.A.units + 65 < cLine) : CallR X (.builtin "sorted") (fun vs H Q => ((rSortedI X.K vs H Q ∨ rSortTI X.K vs H Q) ∨ rSortDk vs H Q) ∨ rSortRw X.K vs H Q) := by
  intro pins s σ H vs us Q I r h
  rcases h with h | h
  · exact cr_sortAll hc pins s σ H vs us Q I r h
  · exact cr_sortRw hu pins s σ H vs us Q I r h
theorem f_sort3 : CallF X.K (fun vs H Q => ((rSortedI X.K vs H Q ∨ rSortTI X.K vs H Q) ∨ rSortDk vs H Q) ∨ rSortRw X.K vs H Q) sortP3 := by
  intro TT A H dx d x Q e t rx k
  cases dx with
  | list l =>
    have e : (match intsL l with
      | some ns => some (PyData.list ((srtI ns).map .int))
      | none => match rowsL l with
        | some rs => (match Nat.ble rs.length 100000 with | true => some (PyData.list ((srtR rs).map tupI)) | false => none)
        | none => none) = some d := e
    cases hn : intsL l with
    | some ns =>
      rw [hn] at e
      refine .inl (f_sortAll TT A H (.list l) d x Q ?_ t rx k)
      show sortedP (.list l) = some d
      show (intsL l).map (fun ns => PyData.list ((srtI ns).map .int)) = some d
      rw [hn]; exact e
    | none =>
      rw [hn] at e
      dsimp only at e
      cases hr : rowsL l with
      | none => rw [hr] at e; cases e
      | some rs =>
        rw [hr] at e
        dsimp only at e
        split at e
        · rename_i hl
          cases e
          obtain ⟨e1, e2⟩ := rowsL_eq hr
          obtain ⟨a', vs, e3, h1, r1⟩ := rx.list
          subst e1
          refine .inr ⟨a', vs, rs, hid A H, by rw [e3], SqL.of h1, hid_le, r1, e2, Nat.le_of_ble_eq_true hl, fun ys p hy hp => ?_⟩
          have z := new_list t hy hp
          exact k _ _ z.1 z.2
        · cases e
  | none => exact .inl (f_sortAll TT A H .none d x Q e t rx k)
  | bool b => exact .inl (f_sortAll TT A H (.bool b) d x Q e t rx k)
  | int b => exact .inl (f_sortAll TT A H (.int b) d x Q e t rx k)
  | str b => exact .inl (f_sortAll TT A H (.str b) d x Q e t rx k)
  | dict b => exact .inl (f_sortAll TT A H (.dict b) d x Q e t rx k)
  | tuple b => exact .inl (f_sortAll TT A H (.tuple b) d x Q e t rx k)
theorem cr_max3 (hc : X.calm = true) (hu : X.A.units + 65 < cLine) : CallR X (.builtin "max") (fun vs H Q => rMax X.K vs H Q ∨ rMaxRw X.K vs H Q) := by
  intro pins s σ H vs us Q I r h
  rcases h with h | h
  · exact cr_max hc pins s σ H vs us Q I r h
  · exact cr_maxRw hc hu pins s σ H vs us Q I r h
theorem f_max3 : CallF X.K (fun vs H Q => rMax X.K vs H Q ∨ rMaxRw X.K vs H Q) maxP2 := by
  intro TT A H dx d x Q e t rx k
  cases dx with
  | list l =>
    have e : (match intsL l with
      | some _ => maxP (.list l)
      | none => match rowsL l with
        | some (r :: rs) => some (tupI (maxR r rs))
        | _ => none) = some d := e
    cases hn : intsL l with
    | some ns =>
      rw [hn] at e
      exact .inl (f_max TT A H (.list l) d x Q e t rx k)
    | none =>
      rw [hn] at e
      cases hr : rowsL l with
      | none => rw [hr] at e; cases e
      | some rs =>
        rw [hr] at e
        have e : (match (some rs : Option (List (List Int))) with
          | some (r :: rs) => some (tupI (maxR r rs))
          | _ => none) = some d := e
        split at e
        · rename_i _ r rs' hq
          cases e
          have hq : rs = r :: rs' := Option.some.inj hq
          subst hq
          obtain ⟨e1, e2⟩ := rowsL_eq hr
          obtain ⟨a', vs, e3, h1, r1⟩ := rx.list
          subst e1
          exact .inr ⟨a', vs, r, rs', hid A H, by rw [e3], SqL.of h1, hid_le, r1, fun y hy => k _ H (Sm.refl H) hy⟩
        · cases e
  | none => exact .inl (f_max TT A H .none d x Q e t rx k)
  | bool b => exact .inl (f_max TT A H (.bool b) d x Q e t rx k)
  | int b => exact .inl (f_max TT A H (.int b) d x Q e t rx k)
  | str b => exact .inl (f_max TT A H (.str b) d x Q e t rx k)
  | dict b => exact .inl (f_max TT A H (.dict b) d x Q e t rx k)
  | tuple b => exact .inl (f_max TT A H (.tuple b) d x Q e t rx k)
end
/-! max, min of two or three ints -/
inductive MM where
  | max | min
def MM.nm : MM → Str
  | .max => "max"
  | .min => "min"
def MM.b (m : MM) (i j : Int) : Int := match m with
  | .max => (match ltB i j with | true => j | false => i)
  | .min => (match ltB j i with | true => j | false => i)
def mMM (f : MM) (ma : SG → Res (List PyData)) (sg : SG) : Res PyData := (ma sg).bind fun l => match intsL l with
  | some [i, j] => .ok (.int (f.b i j))
  | some [i, j, k] => .ok (.int (f.b (f.b i j) k))
  | _ => .bad
section
variable {X : Cx} {C : CT} {W : WX} {es : List Expr} {ma : SG → Res (List PyData)} {pos p : Pos}
def rMM (f : MM) : List V → Hp → VK → Prop := fun vs H Q => (∃ i j, vs = [.int i, .int j] ∧ Q (.int (f.b i j)) H) ∨ ∃ i j k, vs = [.int i, .int j, .int k] ∧ Q (.int (f.b (f.b i j) k)) H
theorem cr_mm (hc : X.calm = true) (f : MM) : CallR X (.builtin (match f with | .max => "max" | .min => "min")) (rMM f) := by
  intro pins s σ H vs us Q I r h
  cases f with
  | max =>
    rcases h with ⟨i, j, rfl, q⟩ | ⟨i, j, k, rfl, q⟩
    · refine call_max2 hc pins s σ H _ us Q I r ⟨i, j, rfl, ?_⟩
      have e : (if j > i then j else i) = MM.max.b i j := by
        unfold MM.b
        rw [ltB_eq]
        by_cases h : i < j <;> simp [h]
      rw [e]; exact q
    · refine call_max3Nu hc pins s σ H _ us Q I r ⟨_, _, _, .int (MM.max.b (MM.max.b i j) k), rfl, ?_, q⟩
      have e : ∀ i j : Int, nuMax2 (.int i) (.int j) = some (.int (MM.max.b i j)) := fun i j => by
        unfold MM.b
        rw [ltB_eq]
        by_cases h : i < j <;> simp [nuMax2, nuLt, nuCB, h]
      unfold nuMax3
      rw [e]
      exact e _ _
  | min =>
    rcases h with ⟨i, j, rfl, q⟩ | ⟨i, j, k, rfl, q⟩
    · refine call_min2 hc pins s σ H _ us Q I r ⟨i, j, rfl, ?_⟩
      have e : (if j < i then j else i) = MM.min.b i j := by
        show _ = (match ltB j i with | true => j | false => i)
        by_cases h : j < i
        · rw [if_pos h, ltB_eq, decide_eq_true h]
        · rw [if_neg h, ltB_eq, decide_eq_false h]
      rw [e]; exact q
    · refine call_min3Nu hc pins s σ H _ us Q I r ⟨_, _, _, .int (MM.min.b (MM.min.b i j) k), rfl, ?_, q⟩
      have e : ∀ i j : Int, nuMin2 (.int i) (.int j) = some (.int (MM.min.b i j)) := fun i j => by
        show _ = some (V.int (match ltB j i with | true => j | false => i))
        by_cases h : j < i
        · rw [ltB_eq, decide_eq_true h]; simp [nuMin2, nuLt, nuCB, h]
        · rw [ltB_eq, decide_eq_false h]; simp [nuMin2, nuLt, nuCB, h]
      unfold nuMin3
      rw [e]
      exact e _ _
theorem e_mm (hc : X.calm = true) (f : MM) {e : Expr} (hg : Gl X f.nm) (hm : X.mg f.nm = none) (ha : PA X (e :: es) (TL X.K C W ma)) (he : starEach (e :: es) X.env = (false, eval e X.env) :: starEach es X.env) (hpl : (backTo pos (starEach es X.env)).any (·.1) = false) :
    PE X (.Call (.Name f.nm p) (e :: es) [] pos) (T X.K C W (mMM f ma)) := by
  have k : ∀ σ H Q, T X.K C W (mMM f ma) σ H Q → tCB (rMM f) (TL X.K C W ma) σ H Q := fun σ H Q ⟨sg, A, rl, o⟩ => by
    refine ⟨sg, A, rl, o.bind.mono fun l H1 s1 o1 vs rv => ?_⟩
    cases hi : intsL l with
    | none => rw [hi] at o1; exact o1.elim
    | some ns =>
      rw [hi] at o1
      have ev := intsL_rs hi rv
      subst ev
      match ns, o1 with
      | [i, j], o1 => exact .inl ⟨i, j, rfl, o1 H1 (Sm.refl _) _ R.int'⟩
      | [i, j, k], o1 => exact .inr ⟨i, j, k, rfl, o1 H1 (Sm.refl _) _ R.int'⟩
      | [], o1 => exact o1.elim
      | [_], o1 => exact o1.elim
      | _ :: _ :: _ :: _ :: _, o1 => exact o1.elim
  cases f with
  | max => exact pe_imp (pe_callB (cr_mm hc .max) hg hm (by decide +kernel) ha (by decide) (by decide) he hpl) k
  | min => exact pe_imp (pe_callB (cr_mm hc .min) hg hm (by decide +kernel) ha (by decide) (by decide) he hpl) k
end
inductive B2 where
  | sorted | min | max
def B2.nm : B2 → Str
  | .sorted => "sorted"
  | .min => "min"
  | .max => "max"
def B2.f : B2 → PyData → Option PyData
  | .sorted => sortP3
  | .min => minP
  | .max => maxP2
section
variable {X : Cx} {C : CT} {W : WX} {a : Expr} {ma : SG → Res PyData} {pos p : Pos}
theorem B2.ok (hc : X.calm = true) (hu : X.A.units + 65 < cLine) (b : B2) (hg : Gl X b.nm) (hm : X.mg b.nm = none) (ha : PE X a (TB X.K C W ma)) (hs : notStar a = true) : PE X (.Call (.Name b.nm p) [a] [] pos) (T X.K C W (m1 b.f ma)) := by
  have hs' := star_cons (es := []) (env := X.env) hs
  cases b
  · exact e_blt (cr_sort3 hc hu) f_sort3 hg hm (by decide +kernel) (by decide) (by decide) ha hs'
  · exact e_blt (cr_min hc) f_min hg hm (by decide +kernel) (by decide) (by decide) ha hs'
  · exact e_blt (cr_max3 hc hu) f_max3 hg hm (by decide +kernel) (by decide) (by decide) ha hs'
end
end Ev

namespace Ev
variable [Wd]
open PySem PySem.Spec PyProof.Rows L2
open PySem.W.Z (ltB leB eqB ltB_iff leB_iff eqB_iff)

/-! a draw -/
def spT : Sp := fun vs H Q _ => ∃ (n : Int) (T : Nat), vs = [.ref Wd.d, .int n] ∧ 0 < n ∧ n ≤ 100000 ∧ H Wd.d = some (drO T) ∧ T < 900000 ∧ Wd.aux H ∧ ∀ r : Int, 0 ≤ r → r < n → Q (.int r) (drn H T)
def askN (n : Int) : Res PyData := match leB 1 n && leB n 100000 with
  | true => .ask n fun r => .ok (.int r)
  | false => .bad
def askP : PyData → Res PyData
  | .int n => askN n
  | _ => .bad
def isTokD : PyData → Bool
  | .dict l => isTok l
  | _ => false
def mDrw (i : Nat) (ma : SG → Res PyData) (sg : SG) : Res PyData := match sg[i]? with
  | some (some (.v d)) => match isTokD d with
    | true => (ma sg).bind askP
    | false => .bad
  | _ => .bad
section
variable {X : Cx} {C : CT} {E : XK} {W : WX} {e a : Expr} {ma : SG → Res PyData} {pos p q : Pos} {k i : Nat} {f : Addr} {fd : FuncData} {ps : List Str} {x y : Str}
theorem R.tok {K : PySem.W.Frag} {H : Hp} {d : PyData} {v : V} (h : isTokD d = true) (r : R K H d v) : v = .ref Wd.d ∧ (∃ T, H Wd.d = some (drO T)) ∧ Wd.aux H := by
  cases d with
  | dict l =>
    unfold R at r
    rcases r with ⟨z, _⟩ | ⟨_, r⟩
    · have h' : isTok l = true := h
      rw [h'] at z; cases z
    · exact r
  | _ => cases h
theorem e_drw (F : FnG X.prog X.w X.K X.mg X.base false k f fd ps spT) (hr : Room k X.A) (hg : Gl X x) (hm : X.mg x = some (.ref f)) (hk : PySem.W.keepIn X.K (.ref f) = true) (hb : Binds X.K fd ps []) (hx : Passes (CX X.prog X.w) X (fun _ _ _ => False)) (hdb : (x == ("__debug__" : Str)) = false)
    (hN : X.N[i]? = some y) (hv : Vis X.env.scope y) (hd : (y == ("__debug__" : Str)) = false) (hcd : (y == ("__classdict__" : Str)) = false) (ha : PE X a (T X.K C W ma)) (hs : notStar a = true) :
    PE X (.Call (.Name x p) [.Name y q, a] [] pos) (T X.K C W (mDrw i ma)) :=
  pe_imp (pe_callG F (fun z => by cases z) hr hg hm hk hb hx (pa_cons (pe_var hN hv hd hcd) (pa_cons ha pa_nil (star_cons hs)) (star_cons rfl)) hdb (star_cons rfl) (noStars (es := [_]) (by rw [List.all_cons, hs]; rfl))) fun σ H Q ⟨sg, A, rl, o⟩ => by
    unfold mDrw at o
    split at o
    · rename_i d e
      split at o
      · rename_i ht
        obtain ⟨v, e1, q⟩ := rl.val i d e
        obtain ⟨rfl, _, hax⟩ := R.tok ht q
        have hax : Wd.aux H := hid_le.aux hax
        refine ⟨_, e1, sg, A, rl, o.bind.mono fun z H1 s1 o1 u ru => ?_⟩
        cases z with
        | int n =>
          unfold R at ru
          subst ru
          have o2 : Out X.K C A (fun cx dx H' => W cx dx σ H') H1 (askN n) (fun d H' => ∀ v, R X.K (hid A H') d v → Q v H') := o1
          unfold askN at o2
          split at o2
          · obtain ⟨⟨n0, n1⟩, T, hT, hlt, k⟩ := o2
            exact ⟨n, T, rfl, n0, n1, hT, hlt, s1.ex.aux hax, fun r r0 r1 => k r r0 r1 _ (Sm.refl _) _ R.int'⟩
          · exact o2.elim
        | _ => exact o1.elim
      · exact o.elim
    · exact o.elim
end
end Ev

namespace Ev
variable [Wd]
open PySem PySem.Spec PyProof.Rows L2
open PySem.W.Z (ltB leB eqB ltB_iff leB_iff eqB_iff)

/-! walks over dicts -/
theorem key_R {K : PySem.W.Frag} {H : Hp} {d : PyData} {q : Key} (h : keyOf d = some q) : R K H d (kV q) := by
  cases d <;> first | (cases h; done) | skip
  · cases h; exact R.int'
  · cases h; exact R.str'
theorem Rk.at' {K : PySem.W.Frag} {H : Hp} : ∀ {l : List (PyData × PyData)} {vs : List (Key × V)}, Rk K H l vs → ∀ {i : Nat} {p : PyData × PyData} {k : Key} {v : V}, l[i]? = some p → vs[i]? = some (k, v) → keyOf p.1 = some k ∧ R K H p.2 v
  | [], vs, h, i, p, k, v, e, _ => by simp at e
  | q :: l, vs, h, 0, p, k, v, e, e2 => by
    obtain ⟨q', v', t, rfl, h1, h2, _⟩ := h.cons_inv
    simp at e e2
    subst e
    obtain ⟨rfl, rfl⟩ := e2
    exact ⟨h1, h2⟩
  | q :: l, vs, h, i + 1, p, k, v, e, e2 => by
    obtain ⟨q', v', t, rfl, h1, h2, h3⟩ := h.cons_inv
    exact h3.at' (i := i) (by simpa using e) (by simpa using e2)
def kysL (l : List (PyData × PyData)) : List PyData := l.map (·.1)
def vlsL (l : List (PyData × PyData)) : List PyData := l.map (·.2)
def itsL (l : List (PyData × PyData)) : List PyData := l.map fun p => .tuple [p.1, p.2]
def dctP (f : List (PyData × PyData) → List PyData) : PyData → Option (List PyData)
  | .dict l => match isTok l with | true => none | false => some (f l)
  | _ => none
theorem dctP_inv {f : List (PyData × PyData) → List PyData} {d : PyData} {r : List PyData} (h : dctP f d = some r) : ∃ l, d = .dict l ∧ isTok l = false ∧ r = f l := by
  cases d with
  | dict l =>
    have h' : (match isTok l with | true => none | false => some (f l)) = some r := h
    cases e : isTok l with
    | true => rw [e] at h'; cases h'
    | false =>
      rw [e] at h'
      exact ⟨l, rfl, e, (Option.some.inj h').symm⟩
  | _ => cases h
def mDct (f : List (PyData × PyData) → List PyData) (m : SG → Res PyData) (sg : SG) : Res (List PyData) := (m sg).bind fun d => Res.of (dctP f d)
def notBare : Expr → Bool
  | .Call (.Name _ _) [] [] _ => false
  | _ => true
theorem attr_base {e : Expr} {y : Str} {env : Env} {w : Sem Value} (h : notBare e = true) : attributeBase e y env w = w := by
  unfold attributeBase
  split
  · cases h
  · rfl
section
variable {K : PySem.W.Frag} {Hf Hs : Hp} {a : Addr} {o : Obj} {vs : List (Key × V)} {l : List (PyData × PyData)}
theorem map_at {α β : Type} {f : α → β} {l : List α} {i : Nat} {y : β} (h : (l.map f)[i]? = some y) : ∃ x, l[i]? = some x ∧ y = f x := by
  rw [List.getElem?_map] at h
  cases e : l[i]? with
  | none => rw [e] at h; cases h
  | some x => rw [e] at h; exact ⟨x, rfl, (Option.some.inj h).symm⟩
theorem itk_ok (h : Hf a = some (.frz o (.dK vs))) (r : Rk K Hs l vs) : ItOk K Hf Hs (Itk a o vs) (kysL l) where
  go i H s hi := by
    have : (kysL l).length = l.length := List.length_map _
    exact ⟨s.g _ _ h, by rw [r.length]; omega⟩
  stop H s := ⟨s.g _ _ h, by rw [r.length]; show _ ≤ (l.map _).length; rw [List.length_map]; exact Nat.le_refl _⟩
  yld := by
    rintro A i H x H' d s s2 t hd ⟨rfl, k, v, e, rfl⟩
    obtain ⟨p, hp, rfl⟩ := map_at hd
    exact ⟨fun _ => Sm.refl _, key_R (r.at' hp e).1⟩
theorem itv_ok (h : Hf a = some (.frz o (.dK vs))) (r : Rk K Hs l vs) : ItOk K Hf Hs (Itd a o vs) (vlsL l) where
  go i H s hi := by
    have : (vlsL l).length = l.length := List.length_map _
    exact ⟨s.g _ _ h, by rw [r.length]; omega⟩
  stop H s := ⟨s.g _ _ h, by rw [r.length]; show _ ≤ (l.map _).length; rw [List.length_map]; exact Nat.le_refl _⟩
  yld := by
    rintro A i H x H' d s s2 t hd ⟨rfl, k, e⟩
    obtain ⟨p, hp, rfl⟩ := map_at hd
    exact ⟨fun _ => Sm.refl _, (r.at' hp e).2.mono s2⟩
theorem iti_ok (h : Hf a = some (.frz o (.dK vs))) (r : Rk K Hs l vs) : ItOk K Hf Hs (Iti a o vs) (itsL l) where
  go i H s hi := by
    have : (itsL l).length = l.length := List.length_map _
    exact ⟨s.g _ _ h, by rw [r.length]; omega⟩
  stop H s := ⟨s.g _ _ h, by rw [r.length]; show _ ≤ (l.map _).length; rw [List.length_map]; exact Nat.le_refl _⟩
  yld := by
    rintro A i H x H' d s s2 t hd ⟨q, k, v, e, rfl, hq, rfl⟩
    obtain ⟨p, hp, rfl⟩ := map_at hd
    exact pair_new t (key_R (r.at' hp e).1) ((r.at' hp e).2.mono s2) hq
end
section
variable {X : Cx} {C : CT} {W : WX} {e a b tg : Expr} {m ma mb : SG → Res PyData} {pos p apos cpos : Pos} {full : Bool}
theorem dct_imp {f : List (PyData × PyData) → List PyData} {σ : L2.St} {H : Hp} {Q : It → Hp → Prop} (h : TIt X.K C W full (mDct f m) σ H Q) : T X.K C W m σ H fun x H1 => ∃ d o vs l A, x = .ref d ∧ hid A H1 d = some (.frz o (.dK vs)) ∧ Rk X.K (hid A H1) l vs ∧ ∀ J, ItOk X.K (if full then H1 else hid A H1) (hid A H1) J (f l) → Q J H1 := by
  obtain ⟨sg, A, rl, o⟩ := h
  refine ⟨sg, A, rl, o.bind.mono fun d H1 s1 o1 v q => ?_⟩
  obtain ⟨r, e, k⟩ := o1.of
  obtain ⟨l, rfl, nt, rfl⟩ := dctP_inv e
  obtain ⟨ad, od, vs, e1, h1, h2⟩ := (R.dict_iff nt).mp q
  exact ⟨ad, od, vs, l, A, e1, h1, h2, k H1 (Sm.refl _)⟩
theorem lf_g {A : Ow} {H : Hp} {d : Addr} {o : HO} (h : hid A H d = some o) [Nt o] [Nd o] : (if full then H else hid A H) d = some o := by
  cases full with
  | true => exact hid_le.g _ _ h
  | false => exact h
theorem i_kys (h : PE X e (T X.K C W m)) : PI X tg e (TIt X.K C W full (mDct kysL m)) :=
  pi_imp (pi_keys h) fun σ H Q q => by
    obtain ⟨sg, A, rl, o⟩ := dct_imp q
    refine ⟨sg, A, rl, o.mono fun d H1 s1 k v rv => ?_⟩
    obtain ⟨ad, od, vs, l, A', e1, h1, h2, k'⟩ := k v rv
    exact ⟨ad, od, e1, .inl ⟨vs, hid_le.g _ _ h1, k' _ (itk_ok (lf_g h1) h2)⟩⟩
theorem i_vls (h : PE X e (T X.K C W m)) (hl : (apos.endLine == cpos.line) = true) (hb : attributeBase e "values" X.env (eval e X.env) = eval e X.env) : PI X tg (.Call (.Attribute e "values" apos) [] [] cpos) (TIt X.K C W full (mDct vlsL m)) :=
  pi_imp (pi_values h hb hl) fun σ H Q q => by
    obtain ⟨sg, A, rl, o⟩ := dct_imp q
    refine ⟨sg, A, rl, o.mono fun d H1 s1 k v rv => ?_⟩
    obtain ⟨ad, od, vs, l, A', e1, h1, h2, k'⟩ := k v rv
    exact ⟨ad, od, vs, e1, hid_le.g _ _ h1, k' _ (itv_ok (lf_g h1) h2)⟩
theorem i_its {elts : List Expr} {kk : Nat} {tpos : Pos} (h : PE X e (T X.K C W m)) (hl : (apos.endLine == cpos.line) = true) (hb : attributeBase e "items" X.env (eval e X.env) = eval e X.env) : PI X (.Tuple elts kk tpos) (.Call (.Attribute e "items" apos) [] [] cpos) (TIt X.K C W full (mDct itsL m)) :=
  pi_imp (pi_items h hb hl) fun σ H Q q => by
    obtain ⟨sg, A, rl, o⟩ := dct_imp q
    refine ⟨sg, A, rl, o.mono fun d H1 s1 k v rv => ?_⟩
    obtain ⟨ad, od, vs, l, A', e1, h1, h2, k'⟩ := k v rv
    exact ⟨ad, od, vs, e1, hid_le.g _ _ h1, k' _ (iti_ok (lf_g h1) h2)⟩
end
end Ev

namespace Ev
variable [Wd]
open PySem PySem.Spec PyProof.Rows L2
open PySem.W.Z (ltB leB eqB ltB_iff leB_iff eqB_iff)

/-! l[k] = v, l a list of our own -/
def setAt (l : List PyData) (k v : PyData) : Option (List PyData) := match k with
  | .int j => match leB 0 j && ltB j (l.length : Nat) with
    | true => some (l.set j.toNat v)
    | false => none
  | _ => none
def mLset (i : Nat) (mk mv : SG → Res PyData) (sg : SG) : Res Fl := match ownAt sg i with
  | some l => (mv sg).bind fun v => (mk sg).bind fun k => match setAt l k v with
    | some l' => .ok (.nx (put sg i (.o l')))
    | none => .bad
  | none => .bad
theorem Rs.set {K : PySem.W.Frag} {H : Hp} {d : PyData} {v : V} (h : R K H d v) : ∀ {l : List PyData} {vs : List V} (j : Nat), Rs K H l vs → Rs K H (l.set j d) (vs.set j v)
  | [], vs, j, r => by rw [r.nil_inv]; exact Rs.nil
  | x :: l, vs, 0, r => by
    obtain ⟨u, t, rfl, h1, h2⟩ := r.cons_inv
    exact Rs.cons h h2
  | x :: l, vs, j + 1, r => by
    obtain ⟨u, t, rfl, h1, h2⟩ := r.cons_inv
    exact Rs.cons h1 (Rs.set h j h2)
section
variable {X : Cx} {C : CT} {E : XK} {W : WX} {e i : Expr} {mk mv : SG → Res PyData} {pos p pos' : Pos} {x : Str}
theorem s_lset {n : Nat} (hN : X.N[n]? = some x) (hv : Vis X.env.scope x) (hd : (x == ("__debug__" : Str)) = false) (hcd : (x == ("__classdict__" : Str)) = false) (hk : PE X i (T X.K C (WE E) mk)) (he : PE X e (T X.K C (WE E) mv))
    (hs : swapsWith e (some (.Subscript (.Name x p) i pos')) pos.line X.env = pure false) (ha : ∀ v, assign (.Subscript (.Name x p) i pos') X.env v = (do
      let ov ← holding [v] (eval (.Name x p) X.env)
      let iv ← holding [v, ov] (eval i X.env)
      standAt pos'
      holding [v, ov, iv] (setItem ov iv v)
      release [v, ov, iv] [])) : PS X (.Assign [.Subscript (.Name x p) i pos'] e pos) (TSt X.K C E (mLset n mk mv)) :=
  ps_imp (ps_asg he (pg_sub (pe_var hN hv hd hcd) hk set_list ha) hs (by rfl) (by rfl)) fun D σ H ⟨sg, A, A0, Hi, rl, b, o⟩ => by
    unfold mLset at o
    split at o
    · rename_i l how
      obtain ⟨ad, vs, h1, h2, h3, h4⟩ := rl.own n l (ownAt_eq how)
      refine ⟨sg, A, rl, (SOut.bind (σ := σ) b o).mono fun d H1 s1 o1 v rv => ?_⟩
      refine ⟨.ref ad, h1, sg, A, rl.mono s1, (SOut.bind (σ := σ) (b.mono s1) o1).mono fun k H2 s2 o2 y ry => ?_⟩
      split at o2
      · rename_i l' hset
        unfold setAt at hset
        split at hset
        · rename_i j
          split at hset
          · rename_i hj
            cases hset
            simp only [Bool.and_eq_true, leB_iff, ltB_iff] at hj
            have s12 := s1.trans s2
            have h3' := s12.g _ _ h3
            have r4 := h4.mono (hid_sm s12.ex)
            have hl := h4.length
            unfold R at ry
            subst ry
            refine ⟨ad, vs, j, j.toNat, rfl, rfl, h3', ?_, ?_⟩
            · unfold ixN
              rw [if_pos hj.1, if_pos (by rw [hl]; exact hj.2)]
            · obtain ⟨z1, z2, z3⟩ := rel_grow (rl.mono s12) (b.mono s12) h1 h2 h3' (Rs.set (rv.mono (hid_sm s2.ex)) j.toNat r4)
              exact o2 σ A _ z1 rfl z2 (Tq.wr h3' trivial) z3
          · cases hset
        · cases hset
      · exact o2.elim
    · exact o.elim
/-! len of the caller's list -/
def mLenS (i : Nat) (sg : SG) : Res PyData := match sg[i]? with
  | some (some (.s n)) => .ok (.int (n : Nat))
  | _ => .bad
theorem e_lenS {n : Nat} {q : Pos} (hg : Gl X "len") (hm : X.mg "len" = none) (hN : X.N[n]? = some x) (hv : Vis X.env.scope x) (hd : (x == ("__debug__" : Str)) = false) (hcd : (x == ("__classdict__" : Str)) = false) :
    PE X (.Call (.Name "len" p) [.Name x q] [] pos) (T X.K C W (mLenS n)) :=
  pe_imp (pe_callB call_len_seq hg hm (by decide +kernel) (pa_cons (pe_var hN hv hd hcd) pa_nil (star_cons rfl)) (by decide) (by decide) (star_cons rfl) rfl) fun σ H Q ⟨sg, A, rl, o⟩ => by
    unfold mLenS at o
    split at o
    · rename_i k e
      obtain ⟨v, e1, a, xs, rfl, h1, rfl⟩ := rl.slot n _ e
      refine ⟨_, e1, a, xs, rfl, .inl (sqL_mono hid_le h1), o H (Sm.refl H) _ R.int'⟩
    · exact o.elim
end
end Ev

/-! slices with a step -/
namespace HT
open PySem PySem.Spec PyProof.Rows L2
section
variable {prog : Program} {w : World} {A : Around} {E : Value → Shared → Prop} {s : Shared}
theorem sliceApplied_st {sl : Addr} {vl vu vs : Value} {lo hi st : Option Int} {n : Nat} {Q : Int × Int × Nat → Shared → Prop} (hs : s.heap.IsSliceOf sl vl vu vs) (pl : IsPart vl lo) (pu : IsPart vu hi) (ps : IsPart vs st) (h0 : st ≠ some 0)
    (h : Q ((Builtin.Slice.sliceAdjust lo hi (st.getD 1) (n : Int)).1, st.getD 1, Builtin.Slice.slicePlaces (Builtin.Slice.sliceAdjust lo hi (st.getD 1) (n : Int)).1 (Builtin.Slice.sliceAdjust lo hi (st.getD 1) (n : Int)).2 (st.getD 1)) s) : wpAny (model prog w) A (Builtin.Slice.sliceApplied (.ref sl) (pure (n : Int))) Q E s := by
  obtain ⟨os, hos, hcs, hds⟩ := id hs
  unfold Builtin.Slice.sliceApplied Builtin.Slice.sliceFields
  refine wpAny_bind (wpAny_bind (wpAny_field hos hds (x := vl) rfl (wpAny_bind (wpAny_field hos hds (x := vu) rfl (wpAny_bind (wpAny_field hos hds (x := vs) rfl (wpAny_pure ?_)))))))
  refine wpAny_bind (slicePart_ ps ?_)
  have hz : ¬ ((st.getD 1 == 0) = true) := by
    intro z
    have z := eq_of_beq z
    cases st with
    | none => cases z
    | some c => exact h0 (by rw [show c = 0 from z])
  show wpAny _ _ (if (st.getD 1 == 0) = true then _ else _) _ _ s
  rw [if_neg hz]
  refine wpAny_bind (slicePart_ pl (wpAny_bind (slicePart_ pu (wpAny_bind (wpAny_pure ?_)))))
  exact wpAny_pure h
/-- the places of a tuple's slice with a step -/
def stepIx (n : Nat) (lo hi st : Option Int) : List Nat :=
  (List.range (Builtin.Slice.slicePlaces (Builtin.Slice.sliceAdjust lo hi (st.getD 1) (n : Int)).1 (Builtin.Slice.sliceAdjust lo hi (st.getD 1) (n : Int)).2 (st.getD 1))).map fun (k : Nat) => ((Builtin.Slice.sliceAdjust lo hi (st.getD 1) (n : Int)).1 + (k : Int) * st.getD 1).toNat
theorem getItem_tuple_st {t sl : Addr} {items : Array Value} {vl vu vs : Value} {lo hi st : Option Int} {Q : Value → Shared → Prop} (ht : IsTup s.heap t items) (hs : s.heap.IsSliceOf sl vl vu vs) (pl : IsPart vl lo) (pu : IsPart vu hi) (ps : IsPart vs st) (h0 : st ≠ some 0) (h1 : st.getD 1 ≠ 1)
    (hsz : (stepIx items.size lo hi st).length ≤ sizeLine)
    (h : Q (.ref s.heap.objs.size) { s with heap := s.heap.push { cls := .type "tuple", data := .seq ((stepIx items.size lo hi st).filterMap (items[·]?)).toArray } }) : wpAny (model prog w) A (getItem (.ref t) (.ref sl)) Q E s := by
  have htake : sizeOk (.seq ((stepIx items.size lo hi st).filterMap (items[·]?)).toArray) := by
    show ((stepIx items.size lo hi st).filterMap (items[·]?)).toArray.size ≤ sizeLine
    rw [List.size_toArray]
    exact Nat.le_trans (List.length_filterMap_le _ _) hsz
  obtain ⟨os, hos, hcs, hds⟩ := id hs
  have hTs : s.TypeIs (.ref sl) "slice" := ⟨os, hos, hcs⟩
  unfold getItem
  try with_reducible refine wpAny_holding ?_
  first | refine wpAny_bind (wpAny_pure ?_) | skip
  refine wpAny_bind (wpAny_sequenceKey ht.typeIs (by decide) ?_)
  refine wpAny_bind (wpAny_callSpecial?_slot (name := Str.ofString "__getitem__") ht.typeIs PyProof.Rows.slot_tuple_getitem
    (wpAny_call_entry PyProof.Rows.slot_tuple_getitem ht.typeIs entry_tuple_getitem ?_ (args_tuple_getitem _ _)))
  show wpAny _ _ (Builtin.Tuple.tupleItemsOf (.ref t) >>= _) _ _ s
  refine wpAny_bind (tupleItemsOf_ ht ?_)
  refine wpAny_bind (wpAny_typeOf hTs ?_)
  rw [if_pos (by decide)]
  refine wpAny_bind (sliceApplied_st hs pl pu ps h0 ?_)
  generalize hb : Builtin.Slice.slicePlaces (Builtin.Slice.sliceAdjust lo hi (st.getD 1) (items.size : Int)).1 (Builtin.Slice.sliceAdjust lo hi (st.getD 1) (items.size : Int)).2 (st.getD 1) = n
  generalize hl : (Builtin.Slice.sliceAdjust lo hi (st.getD 1) (items.size : Int)).1 = L
  have hno : ¬ ((L == 0 && st.getD 1 == 1 && n == items.size) = true) := by
    intro q
    rw [Bool.and_eq_true, Bool.and_eq_true] at q
    exact h1 (eq_of_beq q.1.2)
  show wpAny _ _ (if (L == 0 && st.getD 1 == 1 && n == items.size) = true then _ else _) _ _ s
  rw [if_neg hno]
  have e : ((List.range n).filterMap fun (k : Nat) => items[(L + (k : Int) * st.getD 1).toNat]?) = (stepIx items.size lo hi st).filterMap (items[·]?) := by
    unfold stepIx
    rw [hb, hl, List.filterMap_map]
    rfl
  rw [e]
  first
    | exact wpAny_bind (m := Builtin.Tuple.tupleExact _) (wpAny_newObj_type (wpAny_pure ⟨_, rfl, wpAny_pure h⟩) htake)
    | exact wpAny_bind (m := Builtin.Tuple.tupleExact _) (wpAny_newObj_type (wpAny_bind (wpAny_pure (wpAny_pure ⟨_, rfl, wpAny_pure h⟩))) htake)
    | exact wpAny_bind (wpAny_bind (m := Builtin.Tuple.tupleExact _) (wpAny_newObj_type (wpAny_pure (wpAny_pure ⟨_, rfl, wpAny_pure h⟩)) htake))
    | exact wpAny_bind (wpAny_bind (m := Builtin.Tuple.tupleExact _) (wpAny_newObj_type (wpAny_pure ⟨_, rfl, wpAny_pure h⟩) htake))
end
end HT
namespace L2
open PySem PySem.Spec PyProof.Rows
def SlRS (X : Cx) (r : V → Option Int → Option Int → Option Int → Hp → VK → Prop) : Prop :=
  ∀ (pins : List (Addr × Obj)) (s : Shared) (σ : St) (H : Hp) (x : V) (v vl vu vs : Value) (lo hi st : Option Int) (sl : Addr) (Q : VK), Inv X pins σ H s → RelV x v → s.heap.IsSliceOf sl vl vu vs → IsPart vl lo → IsPart vu hi → IsPart vs st → r x lo hi st H Q →
    ∃ T id, typeLookup (.type T) "__getitem__" = pure (some (.builtin id)) ∧ s.TypeIs v T ∧ wpAny (model X.prog X.w) X.A (getItem v (.ref sl)) (EP X pins σ Q) X.xe s
theorem SlRS.or {X : Cx} {r r' : V → Option Int → Option Int → Option Int → Hp → VK → Prop} (h : SlRS X r) (h' : SlRS X r') : SlRS X (fun x lo hi st H Q => r x lo hi st H Q ∨ r' x lo hi st H Q) := by
  intro pins s σ H x v vl vu vs lo hi st sl Q I rx hs pl pu ps q
  rcases q with q | q
  · exact h pins s σ H x v vl vu vs lo hi st sl Q I rx hs pl pu ps q
  · exact h' pins s σ H x v vl vu vs lo hi st sl Q I rx hs pl pu ps q
def tSlS (r : V → Option Int → Option Int → Option Int → Hp → VK → Prop) (te : TE) (tl th ts : TO) : TE := fun σ H Q => te σ H fun x H1 => tl σ H1 fun l H2 => th σ H2 fun u H3 => ts σ H3 fun t H4 => r x l u t H4 Q
section
variable {X : Cx} {e st : Expr} {te : TE} {lo hi : Option Expr} {tl th ts : TO} {pos p2 : Pos}
theorem pe_sliceS {r : V → Option Int → Option Int → Option Int → Hp → VK → Prop} (hr : SlRS X r) (he : PE X e te) (hl : PO X lo tl) (hu : PO X hi th) (hst : PO X (some st) ts) : PE X (.Subscript e (.Slice lo hi (some st) p2) pos) (tSlS r te tl th ts) := by
  refine ⟨fun pins s σ H Q I h => ?_⟩
  refine Subscript_ (thn (he.run pins s σ H _ I h) fun v s1 ⟨x, H1, I1, r1, q1⟩ => ?_)
  refine wpAny_Slice (thn (hl.run pins s1 σ H1 _ I1 q1) fun vl s2 ⟨l, H2, I2, pl, q2⟩ => thn (hu.run pins s2 σ H2 _ I2 q2) fun vu s3 ⟨u, H3, I3, pu, q3⟩ => thn (hst.run pins s3 σ H3 _ I3 q3) fun vs s4 ⟨t, H4, I4, ps, q4⟩ => ?_)
  have I5 : Inv X pins σ H4 { s4 with heap := s4.heap.push { cls := .type "slice", data := .fields #[vl, vu, vs] } } := I4.kept (t' := s4.toks) fun b ob q => Heap.get?_push_of_some _ q
  obtain ⟨T, id, hT, ht, hg⟩ := hr pins { s4 with heap := s4.heap.push { cls := .type "slice", data := .fields #[vl, vu, vs] } } σ H4 x v vl vu vs l u t s4.heap.objs.size Q I5 r1 (Heap.IsSliceOf.new ..) pl pu ps q4
  show wpAny (model X.prog X.w) X.A (subscriptTail e (.Slice lo hi (some st) p2) v (.ref s4.heap.objs.size)) (EP X pins σ Q) X.xe { s4 with heap := s4.heap.push { cls := .type "slice", data := .fields #[vl, vu, vs] } }
  exact tail_any (ops := [v, .ref s4.heap.objs.size]) ht hT hg (by with_unfolding_all rfl)
theorem vals_pick {xs : List V} {us : List Value} (r : Vals xs us) : ∀ (l : List Nat), Vals (l.filterMap (xs[·]?)) (l.filterMap (us[·]?))
  | [] => .nil
  | i :: l => by
    rw [List.filterMap_cons, List.filterMap_cons]
    cases h : xs[i]? with
    | none =>
      have : us[i]? = none := by
        rw [List.getElem?_eq_none_iff] at h ⊢
        rw [← r.length]; exact h
      rw [this]
      exact vals_pick r l
    | some x =>
      obtain ⟨u, hu, ru⟩ := r.get h
      rw [hu]
      exact .cons ru (vals_pick r l)
/-- the places of a list's slice with a step -/
def listIx (n : Nat) (lo hi st : Option Int) : List Nat := sliceRange (sliceBounds lo hi st n).1 (sliceBounds lo hi st n).2.1 (sliceBounds lo hi st n).2.2
def rSlLS (K : PySem.W.Frag) : V → Option Int → Option Int → Option Int → Hp → VK → Prop := fun x lo hi st H Q => ∃ a xs, x = .ref a ∧ SqL K H a xs ∧ st ≠ some 0 ∧ (listIx xs.length lo hi st).length ≤ sizeLine ∧ ∀ p, H p = none → Q (.ref p) (upd H p (.lst ((listIx xs.length lo hi st).filterMap (xs[·]?))))
theorem sl_listS : SlRS X (rSlLS X.K) := by
  intro pins s σ H x v vl vu vs lo hi st sl Q I rx hs pl pu ps h
  obtain ⟨a, xs, rfl, hx, h0, hz2, q⟩ := h
  cases rx
  obtain ⟨its, r, ht, hz⟩ := I.list hx
  have hlen := r.length
  refine ⟨"list", _, slot_list_getitem.lookup, ht.isList.typeIs, ?_⟩
  refine wpAny_getItem_list_slice ht.isList hs pl pu ps h0 ?_ (by rw [List.size_toArray] <;> omega)
  have e : slicePick its.toArray lo hi st = ((listIx xs.length lo hi st).filterMap (its[·]?)).toArray := by
    unfold slicePick listIx
    rw [List.size_toArray, ← hlen]
    congr 1
    exact congrArg (fun f => List.filterMap f _) (funext fun i => by simp)
  rw [e]
  refine ⟨.ref s.heap.objs.size, _, I.laid (t' := s.toks) (o := .lst ((listIx xs.length lo hi st).filterMap (xs[·]?))) (fun b ob q => Heap.get?_push_of_some _ q) (Nat.le_refl _) ?_, rfl, q _ (I.hok.fresh (Nat.le_refl _))⟩
  exact ⟨Nat.le_trans (List.length_filterMap_le _ _) hz2, _, 0, vals_pick r _, Heap.get?_push_size _ rfl⟩
def rSlTS (K : PySem.W.Frag) : V → Option Int → Option Int → Option Int → Hp → VK → Prop := fun x lo hi st H Q => ∃ a xs, x = .ref a ∧ SqT K H a xs ∧ st ≠ some 0 ∧ st.getD 1 ≠ 1 ∧ (HT.stepIx xs.length lo hi st).length ≤ sizeLine ∧ ∀ p, H p = none → Q (.ref p) (upd H p (.tup ((HT.stepIx xs.length lo hi st).filterMap (xs[·]?))))
theorem sl_tupS : SlRS X (rSlTS X.K) := by
  intro pins s σ H x v vl vu vs lo hi st sl Q I rx hs pl pu ps h
  obtain ⟨a, xs, rfl, hx, h0, h1, hz2, q⟩ := h
  cases rx
  obtain ⟨its, r, ht, hz⟩ := I.tuple hx
  have hlen : its.toArray.size = xs.length := by rw [List.size_toArray]; exact r.length.symm
  refine ⟨"tuple", _, PyProof.Rows.slot_tuple_getitem.lookup, ht.typeIs, ?_⟩
  refine HT.getItem_tuple_st ht hs pl pu ps h0 h1 (by rw [hlen]; exact hz2) ?_
  rw [hlen]
  have e : (HT.stepIx xs.length lo hi st).filterMap (its.toArray[·]?) = (HT.stepIx xs.length lo hi st).filterMap (its[·]?) := by
    exact congrArg (fun f => List.filterMap f _) (funext fun i => by simp)
  rw [e]
  refine ⟨.ref s.heap.objs.size, _, I.laid (t' := s.toks) (o := .tup ((HT.stepIx xs.length lo hi st).filterMap (xs[·]?))) (fun b ob q => Heap.get?_push_of_some _ q) (Nat.le_refl _) ?_, rfl, q _ (I.hok.fresh (Nat.le_refl _))⟩
  exact ⟨Nat.le_trans (List.length_filterMap_le _ _) hz2, _, vals_pick r _, IsTup.new _ _⟩
end
end L2
namespace Ev
variable [Wd]
open PySem PySem.Spec PyProof.Rows L2
open PySem.W.Z (ltB leB eqB ltB_iff leB_iff eqB_iff)
section
variable {X : Cx} {C : CT} {W : WX} {e a b : Expr} {m ma mb me : SG → Res PyData} {pos : Pos} {K : PySem.W.Frag} {H : Hp}
theorem rs_pick {l : List PyData} {vs : List V} (r : Rs K H l vs) : ∀ (is : List Nat), Rs K H (is.filterMap (nth l ·)) (is.filterMap (vs[·]?))
  | [] => .nil
  | i :: is => by
    rw [List.filterMap_cons, List.filterMap_cons, nth_eq]
    cases h : l[i]? with
    | none =>
      have : vs[i]? = none := by
        rw [List.getElem?_eq_none_iff] at h ⊢
        rw [r.length]; exact h
      rw [this]
      exact rs_pick r is
    | some x =>
      obtain ⟨u, hu, ru⟩ := r.get h
      rw [hu]
      exact .cons ru (rs_pick r is)
def stOk (st : Option Int) : Bool := match st with | some i => !eqB i 0 && !eqB i 1 | none => false
theorem stOk_of {st : Option Int} (h : stOk st = true) : st ≠ some 0 ∧ st.getD 1 ≠ 1 := by
  unfold stOk at h
  cases st with
  | none => cases h
  | some i =>
    simp only [Bool.and_eq_true, Bool.not_eq_true'] at h
    refine ⟨fun z => ?_, fun z => ?_⟩
    · cases z
      rw [(eqB_iff 0 0).mpr rfl] at h; cases h.1
    · have z : i = 1 := z
      subst z
      rw [(eqB_iff 1 1).mpr rfl] at h; cases h.2
def slSP (lo hi st : Option Int) : PyData → Option PyData
  | .list l => match stOk st && few (listIx l.length lo hi st).length with | true => some (.list ((listIx l.length lo hi st).filterMap (nth l ·))) | false => none
  | .tuple l => match stOk st && few (HT.stepIx l.length lo hi st).length with | true => some (.tuple ((HT.stepIx l.length lo hi st).filterMap (nth l ·))) | false => none
  | _ => none
def mSlS (ma : SG → Res PyData) (ml mh ms : SG → Res (Option Int)) (sg : SG) : Res PyData := (ma sg).bind fun x => (ml sg).bind fun lo => (mh sg).bind fun hi => (ms sg).bind fun st => Res.of (slSP lo hi st x)
theorem e_slS {lo hi : Option Expr} {st : Expr} {p2 : Pos} {ml mh ms : SG → Res (Option Int)} (ha : PE X a (TB X.K C W ma)) (hl : PO X lo (TI' X.K C W ml)) (hh : PO X hi (TI' X.K C W mh)) (hs : PO X (some st) (TI' X.K C W ms)) : PE X (.Subscript a (.Slice lo hi (some st) p2) pos) (T X.K C W (mSlS ma ml mh ms)) :=
  pe_imp (pe_sliceS (SlRS.or sl_listS sl_tupS) ha hl hh hs) fun σ H Q ⟨sg, A, rl, o⟩ => by
    refine ⟨sg, A, rl, o.bind.mono fun d H1 s1 o1 v rv => ⟨sg, A, rl.mono s1, o1.bind.mono fun lo' H2 s2 o2 => ⟨sg, A, (rl.mono s1).mono s2, o2.bind.mono fun hi' H3 s3 o3 => ⟨sg, A, ((rl.mono s1).mono s2).mono s3, o3.bind.mono fun st' H4 s4 o4 => ?_⟩⟩⟩⟩
    obtain ⟨d', e, k⟩ := o4.of
    have t := ((((rl.mono s1).mono s2).mono s3).mono s4).trk
    have rv3 := ((rv.mono s2.e).mono s3.e).mono s4.e
    unfold slSP at e
    split at e
    · split at e
      · rename_i h
        rw [Bool.and_eq_true] at h
        cases e
        obtain ⟨a', vs, e1, h1, r1⟩ := rv3.list
        rw [← r1.length] at h
        refine .inl ⟨a', vs, e1, SqL.of h1, (stOk_of h.1).1, few_le h.2, fun p hp => ?_⟩
        have z := new_list t (rs_pick r1 (listIx vs.length lo' hi' st')) hp
        rw [r1.length] at z ⊢
        exact k _ z.1 _ z.2
      · cases e
    · split at e
      · rename_i h
        rw [Bool.and_eq_true] at h
        cases e
        obtain ⟨a', vs, e1, h1, r1⟩ := rv3.tup
        rw [← r1.length] at h
        refine .inr ⟨a', vs, e1, sqT_mono hid_le h1, (stOk_of h.1).1, (stOk_of h.1).2, few_le h.2, fun p hp => ?_⟩
        have z := new_tup t (rs_pick r1 (HT.stepIx vs.length lo' hi' st')) hp
        rw [r1.length] at z ⊢
        exact k _ z.1 _ z.2
      · cases e
    · cases e
/-! " ".join(xs) -/
def strsOf : List PyData → Option (List Str)
  | [] => some []
  | d :: l => match d with | .str s => (match strsOf l with | some r => some (s :: r) | none => none) | _ => none
theorem strsOf_rs : ∀ {l : List PyData} {ys : List Str} {vs : List V}, strsOf l = some ys → Rs K H l vs → vs = ys.map V.str
  | [], ys, vs, h, r => by
    cases h
    rw [r.nil_inv]; rfl
  | d :: l, ys, vs, h, r => by
    obtain ⟨v, t, rfl, h1, h2⟩ := r.cons_inv
    cases d with
    | str s =>
      have h : (match strsOf l with | some r => some (s :: r) | none => none) = some ys := h
      cases hl : strsOf l with
      | none => simp [hl] at h
      | some r' =>
        simp [hl] at h
        subst h
        unfold R at h1
        rw [h1, strsOf_rs hl h2]; rfl
    | _ => cases h
def joinB (a : Str) (ys : List Str) : Bool := Nat.ble ((ys.map (·.length)).sum + ys.length * a.length) 16777216
def joinP (a : Str) : PyData → Option PyData
  | .list l => match strsOf l with | some ys => (match joinB a ys with | true => some (.str (Txt.join a ys)) | false => none) | none => none
  | .tuple l => match strsOf l with | some ys => (match joinB a ys with | true => some (.str (Txt.join a ys)) | false => none) | none => none
  | _ => none
theorem e_join {apos p : Pos} {a : Str} {i : Nat} (hb : PE X b (TB X.K C W mb)) (hs : starEach [b] X.env = [(false, eval b X.env)]) (hline : (apos.endLine == pos.line) = true) :
    PE X (.Call (.Attribute (.Constant (.str a) i p) "join" apos) [b] [] pos) (T X.K C W (m1 (joinP a) mb)) :=
  pe_imp (pe_join pe_str hb hs rfl hline) fun σ H Q ⟨sg, A, rl, o⟩ => by
    refine ⟨⟨a, rfl⟩, sg, A, rl, o.bind.mono fun dy H2 s2 o2 y ry => ?_⟩
    obtain ⟨d, e, k⟩ := o2.of
    unfold joinP at e
    split at e
    · rename_i l
      split at e
      · rename_i ys hy
        split at e
        · rename_i hb2
          cases e
          obtain ⟨p, vs, e1, h1, r1⟩ := ry.list
          have e2 := strsOf_rs hy r1
          subst e2
          exact ⟨a, p, ys, rfl, by rw [e1], .inl (SqL.of h1), Nat.le_of_ble_eq_true hb2, k H2 (Sm.refl _) _ R.str'⟩
        · cases e
      · cases e
    · rename_i l
      split at e
      · rename_i ys hy
        split at e
        · rename_i hb2
          cases e
          obtain ⟨p, vs, e1, h1, r1⟩ := ry.tup
          have e2 := strsOf_rs hy r1
          subst e2
          exact ⟨a, p, ys, rfl, by rw [e1], .inr (sqT_mono hid_le h1), Nat.le_of_ble_eq_true hb2, k H2 (Sm.refl _) _ R.str'⟩
        · cases e
      · cases e
    · cases e
end
end Ev

namespace Ev
variable [Wd]
open PySem PySem.Spec PyProof.Rows L2
open PySem.W.Z (ltB leB eqB ltB_iff leB_iff eqB_iff)
/-! try -/
/-- what a suite tells of its exception -/
inductive SX where
  | c (d : PyData)
  | f (cs : List Nat)
inductive SF where
  | r1 (x : SX)
  | rt (xs : List SX)
  | app (i : Nat) (x : SX)
structure HD where
  j : Nat
  bs : List Bool
  n : Nat
  s : SF
def SX.m (n : Nat) : SX → SG → Res PyData
  | .c d => fun _ => .ok d
  | .f cs => mFldx n cs
def sxsM (n : Nat) : List SX → SG → Res (List PyData)
  | [] => mNil
  | x :: xs => mCons (x.m n) (sxsM n xs)
def SF.m (n : Nat) : SF → SG → Res Fl
  | .r1 x => mThen (mRet (x.m n)) mNext
  | .rt xs => mThen (mRet (mTup (sxsM n xs))) mNext
  | .app i x => mThen (mApp i (x.m n)) mNext
def hend (n : Nat) : Res Fl → Res Fl
  | .ok (.nx s) => .ok (.nx (wipeS s [n]))
  | .ok (.rt d) => .ok (.rt d)
  | _ => .bad
def hdl (c : Nat) (d : PyData) (sg : SG) : List HD → Res Fl
  | [] => .exn c d
  | h :: hs => match nthB h.bs c with
    | some true => (match Nat.blt h.n sg.length with | true => hend h.n (h.s.m h.n (put sg h.n (.x c d))) | false => .bad)
    | some false => hdl c d sg hs
    | none => .bad
def tryR (hs : List HD) (sg : SG) : Res Fl → Res Fl
  | .exn c d => hdl c d sg hs
  | .ask n f => .ask n fun r => tryR hs sg (f r)
  | .ok a => .ok a
  | .bad => .bad
def mTry (mb : SG → Res Fl) (hs : List HD) (sg : SG) : Res Fl := tryR hs sg (mb sg)
/-- a body that raises ahead of all that it changes -/
def BO (K : PySem.W.Frag) (C : CT) (W : WX) (A0 : Ow) (Hi : Hp) (D : Ends) (σ : L2.St) (A : Ow) (H : Hp) (r : Res Fl) : Prop := match r with
  | .ok f => SOut K C (fun _ _ _ => False) A0 Hi D σ.length A H (.ok f)
  | .exn c d => ∀ H' cx dx, Sm C.tabs H H' → Trk A H' → XR K C (hid A H') c d cx dx → W cx dx σ H'
  | .bad => False
  | .ask m f => (0 < m ∧ m ≤ 100000) ∧ ∃ T, H Wd.d = some (drO T) ∧ T < 900000 ∧ ∀ r, 0 ≤ r → r < m → BO K C W A0 Hi D σ A (drn H T) (f r)
def TBd (K : PySem.W.Frag) (C : CT) (W : WX) (m : SG → Res Fl) : TS := fun D σ H => ∃ sg A A0 Hi, Rel K C A H sg σ ∧ Bod C.tabs A0 Hi σ.length A H ∧ BO K C W A0 Hi D σ A H (m sg)
section
variable {K : PySem.W.Frag} {C : CT} {W : WX} {E E2 : XK} {A A0 : Ow} {Hi H H1 : Hp} {D : Ends} {σ : L2.St}
theorem SOut.okE {n : Nat} {f : Fl} (o : SOut K C E A0 Hi D n A H (.ok f)) : SOut K C E2 A0 Hi D n A H (.ok f) := by
  cases f <;> exact o
theorem BO.up {m : Res Fl} (o : BO K C W A0 Hi D σ A H m) (s : Sm C.tabs H H1) : BO K C W A0 Hi D σ A H1 m := by
  induction m generalizing H H1 with
  | ok a => exact SOut.from (r := .ok a) o (hid_sm s) s.tq
  | exn c d => exact fun H2 cx dx s2 => o H2 cx dx (s.trans s2)
  | bad => exact o
  | ask n f ih =>
    obtain ⟨o1, T, e, o2, o3⟩ := o
    exact ⟨o1, T, s.ex.at_ _ _ e trivial, o2, fun r h0 h1 => ih r (o3 r h0 h1) (drn_sm e s)⟩
theorem BO.bind {α : Type} {m : Res α} {f : α → Res Fl} (o : BO K C W A0 Hi D σ A H (m.bind f)) : Out K C A (fun cx dx H' => W cx dx σ H') H m fun a H1 => BO K C W A0 Hi D σ A H1 (f a) := by
  induction m generalizing H with
  | ok a => exact fun H1 s => BO.up o s
  | exn c d => exact o
  | bad => exact o
  | ask m f ih =>
    obtain ⟨o1, T, e, o2, o3⟩ := o
    exact ⟨o1, T, e, o2, fun r h0 h1 => ih r (o3 r h0 h1)⟩
end
section
variable {X : Cx} {C : CT} {W : WX} {E : XK} {e a c : Expr} {u w : List Stmt} {me : SG → Res PyData} {mt : SG → Res Bool} {ma mb : SG → Res Fl} {pos p : Pos} {x : Str}
theorem b_ret (he : PE X e (T X.K C W me)) : PSs X [.Return (some e) pos] (TBd X.K C W (mRet me)) :=
  pss_one (ps_imp (ps_ret he) fun D σ H ⟨sg, A, A0, Hi, rl, b, o⟩ => ⟨sg, A, rl, (BO.bind o).mono fun d H1 s1 o1 v q => o1 A H1 v (b.mono s1) (rl.mono s1).trk (Tq.refl _) q⟩)
theorem b_app {i : Nat} {apos epos cpos : Pos} (hN : X.N[i]? = some x) (hv : Vis X.env.scope x) (hd : (x == ("__debug__" : Str)) = false) (hcd : (x == ("__classdict__" : Str)) = false) (ha : PE X a (T X.K C W me))
    (hfew : ((backTo cpos (starEach [a] X.env)).all (fun x => !x.1) && (backToKw cpos (keywordEach [] X.env)).all (fun x => x.1.isSome) && decide (([a] : List Expr).length + ([] : List Keyword).length + (if ([] : List Keyword).isEmpty then 0 else 1) < 30)) = true)
    (hline : (apos.endLine == cpos.line) = true) (hs : starEach [a] X.env = (false, eval a X.env) :: starEach [] X.env) :
    PSs X [.Expr (.Call (.Attribute (.Name x p) "append" apos) [a] [] cpos) epos] (TBd X.K C W (mApp i me)) :=
  pss_one (ps_imp (ps_expr (pe_bm F.plainAttrs_list F.slot_list_append F.type_list_append mt_append (pe_var hN hv hd hcd) (pa_cons ha pa_nil hs) rfl hfew hline hs rfl) rfl) fun D σ H ⟨sg, A, A0, Hi, rl, b, o⟩ => by
    unfold mApp at o
    split at o
    · rename_i l how
      obtain ⟨ad, vs, h1, h2, h3, h4⟩ := rl.own i l (ownAt_eq how)
      refine ⟨.ref ad, h1, .inl ⟨rfl, vs, SqL.of h3⟩, sg, A, rl, (BO.bind o).mono fun d H1 s1 o2 v q => ?_⟩
      split at o2
      · rename_i hf
        refine ⟨ad, vs, v, rfl, rfl, s1.g _ _ h3, ?_, ?_⟩
        · have := few_le hf
          rw [h4.length]; omega
        · obtain ⟨z1, z2, z3⟩ := rel_grow (rl.mono s1) (b.mono s1) h1 h2 (s1.g _ _ h3) ((h4.mono (hid_sm s1)).append (.cons q .nil))
          exact o2 σ A _ z1 rfl z2 (Tq.wr (s1.g _ _ h3) trivial) z3
      · exact o2.elim
    · exact o.elim)
/-- name = e -/
def mPutV (i : Nat) (me : SG → Res PyData) (sg : SG) : Res Fl := match Nat.blt i sg.length with
  | true => (me sg).bind fun d => .ok (.nx (put sg i (.v d)))
  | false => .bad
theorem b_set {i : Nat} {pos' : Pos} (hN : X.N.Nodup) (hi : X.N[i]? = some x) (hx : Loc X.env.scope x) (he : PE X e (T X.K C W me)) (hs : swapsWith e (some (.Name x pos')) pos.line X.env = pure false) (hf : X.fn x = true ∨ X.env.scope.names.lookup x = some .local) :
    PSs X [.Assign [.Name x pos'] e pos] (TBd X.K C W (mPutV i me)) := pss_one (ps_imp (ps_set hN hi hx he hs hf) fun D σ H ⟨sg, A, A0, Hi, rl, b, o⟩ => by
  unfold mPutV at o
  split at o
  · rename_i hi
    exact ⟨sg, A, rl, (BO.bind o).mono fun d H1 s1 o1 v q => o1 _ A H1 (rel_put (s := .v d) (rl.mono s1) (blt_lt hi) q) (by simp) (b.mono s1) (Tq.refl _) (Ex.refl _)⟩
  · exact o.elim)
theorem b_if (hc : PT X c (TP X.K C W mt)) (ha : PSs X u (TBd X.K C W ma)) (hb : PSs X w (TBd X.K C W mb)) : PSs X [.If c u w pos] (TBd X.K C W (mIfS mt ma mb)) :=
  pss_one (ps_imp (ps_if hc ha hb) fun D σ H ⟨sg, A, A0, Hi, rl, b, o⟩ => by
    refine ⟨sg, A, rl, (BO.bind o).mono fun k H1 s1 o1 => ?_⟩
    cases k with
    | true => exact iteT ⟨sg, A, A0, Hi, rl.mono s1, b.mono s1, o1⟩
    | false => exact iteF ⟨sg, A, A0, Hi, rl.mono s1, b.mono s1, o1⟩)
end
inductive All2 {α β : Type} (R : α → β → Prop) : List α → List β → Prop where
  | nil : All2 R [] []
  | cons {a : α} {b : β} {l : List α} {r : List β} : R a b → All2 R l r → All2 R (a :: l) (b :: r)
/-- what is known of a clause: its class, its suite -/
structure HdOk (X : Cx) (C : CT) (nc : Nat) (h : HD) (l : Cl) : Prop where
  cl : l.Ok X
  c : ∀ (c : Nat) b, nthB h.bs c = some b → PySem.W.exmOne X.K (.ref (C.cls c)) l.c = some b
  i : l.i = h.n
  su : ∀ a, l.ts a = TSt X.K C (fun _ _ _ => False) (h.s.m h.n)
section
variable {X : Cx} {C : CT} {E : XK} {body : List Stmt} {pos : Pos} {mb : SG → Res Fl}
theorem try_read {nc : Nat} : ∀ {hs : List HD} {ls : List Cl}, All2 (HdOk X C nc) hs ls → ∀ {sg : SG} {A A0 : Ow} {Hi H : Hp} {D : Ends} {σ : L2.St} {c : Nat} {d : PyData}, Rel X.K C A H sg σ → Bod C.tabs A0 Hi σ.length A H →
    SOut X.K C E A0 Hi D σ.length A H (hdl c d sg hs) → ∀ H' cx dx, Sm C.tabs H H' → Trk A H' → XR X.K C (hid A H') c d cx dx → wTry X.K (WE E) D ls cx dx σ H'
  | [], [], .nil, sg, A, A0, Hi, H, D, σ, c, d, rl, b, o, H', cx, dx, s, t, x => o A H' cx dx (b.mono s) t s.tq x
  | h :: hs, l :: ls, .cons ok rest, sg, A, A0, Hi, H, D, σ, c, d, rl, b, o, H', cx, dx, s, t, x => by
    unfold hdl at o
    have x0 := x
    obtain ⟨rfl, q, v, rfl, hq, rv⟩ := x
    cases hb : nthB h.bs c with
    | none => rw [hb] at o; exact o.elim
    | some k =>
      rw [hb] at o
      refine ⟨k, ok.c c k hb, fun z a na => ?_, fun z => ?_⟩
      · subst z
        have o : SOut X.K C E A0 Hi D σ.length A H (match Nat.blt h.n sg.length with | true => hend h.n (h.s.m h.n (put sg h.n (.x c d))) | false => .bad) := o
        split at o
        · rename_i hlt
          have s3 : Sm C.tabs H' (upd H' a (ExK (.ref (C.cls c)) (some q) a)) := Sm.new na
          have hee : (A a).isSome = false := t.new na
          rw [ok.su a, ok.i]
          have xr : SlR X.K C A (upd H' a (ExK (.ref (C.cls c)) (some q) a)) h.n (.x c d) (.ref a) := ⟨a, q, v, rfl, by unfold hid; rw [if_neg (by rw [hee]; decide)]; exact upd_same, (hid_sm s3).g _ _ hq, rv.mono (hid_sm s3)⟩
          have rl2 := rel_put (i := h.n) ((rl.mono s.w).mono s3.w) (blt_lt hlt) xr
          have len : (σ.set h.n (some (V.ref a))).length = σ.length := by simp
          refine ⟨_, A, A0, Hi, rl2, by rw [len]; exact (b.mono s.w).mono s3.w, ?_⟩
          rw [len]
          have ex : Ex (hid A H) (hid A (upd H' a (ExK (.ref (C.cls c)) (some q) a))) := hid_sm (s.trans s3)
          have tq := (s.trans s3).tq
          cases hm : h.s.m h.n (put sg h.n (.x c d)) with
          | ok f =>
            rw [hm] at o
            cases f with
            | nx sg' =>
              intro σ' A' H3 r l' b' q' e'
              exact o (σ'.set h.n none) A' H3 (rel_wipe r [h.n]) (by simp [l']) b' (tq.trans q') (ex.trans e')
            | rt dd => exact fun A' H3 v b' t' q' r => o A' H3 v b' t' (tq.trans q') r
          | exn _ _ => rw [hm] at o; exact o.elim
          | bad => rw [hm] at o; exact o.elim
          | ask _ _ => rw [hm] at o; exact o.elim
        · exact o.elim
      · subst z
        exact try_read rest rl b o H' _ _ s t x0
theorem s_try {hs : List HD} {l0 : Cl} {ls : List Cl} {nc : Nat} (hst : X.stack = X.env :: X.outer) (hf : X.env.frame = some X.env.locals) (hN : X.N.Nodup) (tk : Takes X (WE E)) (hh : All2 (HdOk X C nc) hs (l0 :: ls))
    (hb : ∀ (W : WX) (pn : List (Addr × Obj)) (xe : Value → Shared → Prop), Takes (X.tr pn xe) W → PassesOwn (model X.prog X.w) X.A X.env xe → PSs (X.tr pn xe) body (TBd X.K C W mb)) :
    PS X (.Try body (l0.h :: ls.map Cl.h) [] [] pos) (TSt X.K C E (mTry mb hs)) := by
  have hl : ∀ l ∈ l0 :: ls, l.Ok X := by
    have key : ∀ {hs : List HD} {ls : List Cl}, All2 (HdOk X C nc) hs ls → ∀ l ∈ ls, l.Ok X := by
      intro hs ls h
      induction h with
      | nil => intro l hl; cases hl
      | cons h _ ih =>
        intro l hl
        rcases List.mem_cons.mp hl with rfl | hl
        · exact h.cl
        · exact ih l hl
    exact key hh
  refine ps_imp (ps_tryN hst hf hN l0 ls hl tk hb) fun D σ H ⟨sg, A, A0, Hi, rl, b, o⟩ => ?_
  refine ⟨sg, A, A0, Hi, rl, b, ?_⟩
  unfold mTry at o
  have key : ∀ (m : Res Fl) {H : Hp}, Rel X.K C A H sg σ → Bod C.tabs A0 Hi σ.length A H → SOut X.K C E A0 Hi D σ.length A H (tryR hs sg m) → BO X.K C (wTry X.K (WE E) D (l0 :: ls)) A0 Hi D σ A H m := by
    intro m
    induction m with
    | ok a => exact fun _ _ o => SOut.okE o
    | exn c d => exact fun rl b o => try_read hh rl b o
    | bad => exact fun _ _ o => o
    | ask n f ih =>
      intro H rl b o
      obtain ⟨o1, T, e, o2, o3⟩ := o
      exact ⟨o1, T, e, o2, fun r h0 h1 => ih r (rl.mono (drn_sw e)) (b.mono (drn_sw e)) (o3 r h0 h1)⟩
  exact key _ rl b o
/-! the suites -/
theorem su_c {X' : Cx} {d : PyData} {n : Nat} {e : Expr} {W : WX} (h : PE X' e (T X'.K C W fun _ => .ok d)) : PE X' e (T X'.K C W ((SX.c d).m n)) := h
end
/-! t = xs.pop() -/
def lastP : List PyData → Option (List PyData × PyData)
  | [] => none
  | x :: l => match l with | [] => some ([], x) | _ :: _ => (match lastP l with | some (i, y) => some (x :: i, y) | none => none)
theorem lastP_eq : ∀ {l i : List PyData} {y : PyData}, lastP l = some (i, y) → l = i ++ [y]
  | [], i, y, h => by cases h
  | x :: [], i, y, h => by cases h; rfl
  | x :: z :: l, i, y, h => by
    have h' : (match lastP (z :: l) with | some (i, y) => some (x :: i, y) | none => none) = some (i, y) := h
    cases hl : lastP (z :: l) with
    | none => simp [hl] at h'
    | some p =>
      obtain ⟨i', y'⟩ := p
      simp [hl] at h'
      obtain ⟨rfl, rfl⟩ := h'
      rw [lastP_eq hl]; rfl
def mPopA (n : Nat) (t : Tg) (sg : SG) : Res Fl := match ownAt sg n with
  | some l => (match lastP l with
    | some (i, d) => (match setT t d (put sg n (.o i)) with | some sg' => .ok (.nx sg') | none => .bad)
    | none => .bad)
  | none => .bad
theorem Rs.snoc {K : PySem.W.Frag} {H : Hp} : ∀ {i : List PyData} {y : PyData} {vs : List V}, Rs K H (i ++ [y]) vs → ∃ us v, vs = us ++ [v] ∧ Rs K H i us ∧ R K H y v
  | [], y, vs, h => by
    obtain ⟨v, r, rfl, h1, h2⟩ := h.cons_inv
    rw [h2.nil_inv]
    exact ⟨[], v, rfl, .nil, h1⟩
  | x :: i, y, vs, h => by
    obtain ⟨v, r, rfl, h1, h2⟩ := (show Rs K H (x :: (i ++ [y])) vs from h).cons_inv
    obtain ⟨us, w, rfl, k1, k2⟩ := Rs.snoc h2
    exact ⟨v :: us, w, rfl, .cons h1 k1, k2⟩
section
variable {X : Cx} {C : CT} {E : XK} {tg : Expr} {pos p : Pos} {x : Str}
theorem s_popA {n : Nat} {t : Tg} {apos cpos : Pos} (hN : X.N[n]? = some x) (hv : Vis X.env.scope x) (hd : (x == ("__debug__" : Str)) = false) (hcd : (x == ("__classdict__" : Str)) = false) (hline : (apos.endLine == cpos.line) = true)
    (hg : PG X tg (gT X.K t)) (hs : swapsWithSole [tg] (.Call (.Attribute (.Name x p) "pop" apos) [] [] cpos) pos.line X.env = pure false) (hw : swappedStores [tg] (.Call (.Attribute (.Name x p) "pop" apos) [] [] cpos) X.env = pure none) (h1 : (assignEach [tg] X.env).map (·.2) = [assign tg X.env]) :
    PS X (.Assign [tg] (.Call (.Attribute (.Name x p) "pop" apos) [] [] cpos) pos) (TSt X.K C E (mPopA n t)) :=
  ps_imp (ps_asg (pe_bm0 F.plainAttrs_list F.slot_list_pop F.type_list_pop mt_pop (pe_var hN hv hd hcd) rfl hline) hg hs hw h1) fun D σ H ⟨sg, A, A0, Hi, rl, b, o⟩ => by
    unfold mPopA at o
    split at o
    · rename_i l how
      split at o
      · rename_i i d hl
        split at o
        · rename_i sg' hset
          obtain ⟨ad, vs, h1, h2, h3, h4⟩ := rl.own n l (ownAt_eq how)
          rw [lastP_eq hl] at h4
          obtain ⟨us, v, rfl, k1, k2⟩ := Rs.snoc h4
          refine ⟨.ref ad, h1, .inl ⟨rfl, _, SqL.of h3⟩, ad, us ++ [v], v, rfl, rfl, h3, by simp, ?_⟩
          have e : (us ++ [v]).dropLast = us := by simp
          rw [e]
          obtain ⟨z1, z2, z3⟩ := rel_grow rl b h1 h2 h3 k1
          have hA : (A ad).isSome = true := by rw [h2]; rfl
          refine gT_ok hset (by rw [hid_upd hA]; exact k2) z1 fun σ' hσ' r' => ?_
          have hl' : σ'.length = σ.length := by rw [← r'.len, ← z1.len, setT_keep hset]
          exact o σ' A _ r' hl' z2 (Tq.wr h3 trivial) z3
        · exact o.elim
      · exact o.elim
    · exact o.elim
end
/-! tuple(range(n)), tuple(range(a, b)) -/
def rgT : PyData → Option PyData
  | .int i => match leB 0 i && leB i 100000 with | true => some (.tuple (rgP 0 i.toNat)) | false => none
  | _ => none
section
variable {X : Cx} {C : CT} {W : WX} {a b : Expr} {ma mb : SG → Res PyData} {p q pos pos' : Pos}
theorem e_trg (hc : X.calm = true) (hg : Gl X "tuple") (hm : X.mg "tuple" = none) (hg2 : Gl X "range") (hm2 : X.mg "range" = none) (ha : PE X a (TB X.K C W ma)) (hs : notStar a = true) :
    PE X (.Call (.Name "tuple" p) [.Call (.Name "range" q) [a] [] pos'] [] pos) (T X.K C W (m1 rgT ma)) :=
  pe_imp (pe_tupRg hc hg hm (prg_1 hg2 hm2 ha (star_cons hs)) rfl) fun σ H Q ⟨sg, A, rl, o⟩ => by
    refine ⟨sg, A, rl, o.bind.mono fun dx H1 s1 o1 x rx => ?_⟩
    obtain ⟨l, e, k⟩ := o1.of
    unfold rgT at e
    split at e
    · rename_i i
      split at e
      · rename_i h
        cases e
        simp only [Bool.and_eq_true, leB_iff] at h
        refine ⟨i, rx.int, RgOk.of_le (by omega) (by omega) (by omega) (by omega), fun l hl => ?_⟩
        have e2 : rgV 0 i = (List.range' 0 i.toNat).map fun (i : Nat) => V.int (i : Int) := by
          unfold rgV
          rw [List.range_eq_range']
          simp
        rw [e2]
        have z := new_tup (rl.mono s1).trk (rgP_rs (K := X.K) (H := hid A H1) i.toNat 0) hl
        exact k _ z.1 _ z.2
      · cases e
    · cases e
end
end Ev

namespace Ev
open PySem PySem.Spec PyProof.Rows L2
theorem de_new {P : Program} {w : World} {H : Hp} {h : Heap} {a : Addr} {kws : List (Option Int × V)} {vs : List (Option Int × Value)} (z : kws.length ≤ sizeLine) (hd : (a == sysModules) = false) (r : KV kws vs) (d : h.DictOf (nnKind P w) a vs) : ∃ es, NN a es kws ∧ ObjOk P w H h a (DE a es) := by
  obtain ⟨o, es, ep, e1, e2, e3, e4, e5, e6⟩ := d
  exact ⟨es, ⟨z, hd, P, w, vs, r, e4, e5, e6⟩, ⟨o, ep, e1, e2, e3⟩, ⟨o, e1⟩, fun h1 h2 ⟨o', ep', q1, q2, q3⟩ k => ⟨o', ep', k o' q1, q2, q3⟩⟩
/-- as it is, or locked -/
def LRd (H : Hp) (a : Addr) (es : Array DictEntry) : Prop := H a = some (DE a es) ∨ ∃ o, H a = some (.frz o (DE a es))
section
variable {X : Cx} {pins : List (Addr × Obj)} {σ : L2.St} {H : Hp} {s : Shared} {a : Addr} {es : Array DictEntry} {kws : List (Option Int × V)}
theorem lk_of (I : Inv X pins σ H s) (e : LRd H a es) (n : NN a es kws) : kws.length ≤ sizeLine ∧ (a == sysModules) = false ∧ ∃ vs, KV kws vs ∧ s.heap.DictOf (nnKind X.prog X.w) a vs := by
  have x : ∃ o ep, s.heap.get? a = some o ∧ o.ExactDict ∧ o.data = .dict es ep := by
    rcases e with e | ⟨o, e⟩
    · exact (show ObjOk X.prog X.w H s.heap a (.ext _) from I.hok a _ e).1
    · exact (show ObjOk X.prog X.w H s.heap a (.ext _) from (I.hok a _ e).2).1
  obtain ⟨o, ep, e1, e2, e3⟩ := x
  obtain ⟨z, hd, P, w, vs, r, k, p, nd⟩ := n
  exact ⟨z, hd, vs, r, o, es, ep, e1, e2, e3, k, nn_pairs p, nd⟩
end
def tLNew : TE := fun _ H Q => ∀ p es, H p = none → NN p es [] → Q (.ref p) (upd H p (DE p es))
section
variable {X : Cx} {o e f i : Expr} {td ty tx : TE} {pos apos cpos : Pos}
theorem pe_lnew : PE X (.Dict [] [] pos) tLNew := ⟨fun pins s σ H Q I h => wpAny_Dict_empty (by
  have hb := I.big
  obtain ⟨es, n, ok⟩ := de_new (P := X.prog) (w := X.w) (H := upd H s.heap.objs.size (DE s.heap.objs.size #[])) (h := s.heap.push { cls := .type "dict", data := .dict #[] }) (a := s.heap.objs.size) (kws := []) (vs := []) (Nat.zero_le _) (beq_eq_false_iff_ne.mpr (Nat.ne_of_gt hb)) .nil ⟨_, #[], 0, Heap.get?_push_size _ rfl, ⟨rfl, rfl, rfl⟩, rfl, (fun e he => by simp at he), .nil, .nil⟩
  exact ⟨.ref s.heap.objs.size, _, I.laid (a := s.heap.objs.size) (o := DE s.heap.objs.size es) (t' := s.toks) (fun _ _ q => Heap.get?_push_of_some _ q) (Nat.le_refl _) ok, rfl, h _ _ (I.hok.fresh (Nat.le_refl _)) n⟩)⟩
/-- d.setdefault(y, z) -/
def tLSetd (td ty tx : TE) : TE := fun σ H Q => td σ H fun x H1 => ∃ a, x = .ref a ∧ (∃ es kws, H1 a = some (DE a es) ∧ NN a es kws) ∧ ty σ H1 fun y H2 => tx σ H2 fun z H3 => ∃ (es : Array DictEntry) (kws : List (Option Int × V)) (k : Option Int), H3 a = some (DE a es) ∧ NN a es kws ∧ y = nV k ∧ kws.length < sizeLine ∧
  (∀ v, valV kws k = some v → Q v H3) ∧ (valV kws k = none → ∀ es', NN a es' (putK kws k z) → Q z (upd H3 a (DE a es')))
theorem pe_lsetd (ho : PE X o td) (he : PE X e ty) (hf : PE X f tx) (m : M2 X o "setdefault" apos e f cpos) : PE X (.Call (.Attribute o "setdefault" apos) [e, f] [] cpos) (tLSetd td ty tx) := by
  refine ⟨fun pins s σ H Q I h => ?_⟩
  refine wpAny_Call_method m.base m.few m.line PySem.F.plainAttrs_dict PySem.F.slot_dict_setdefault PySem.F.type_dict_setdefault (thn (ho.run pins s σ H _ I h) fun u s1 ⟨x, H1, I1, rx, a, ex, ⟨es0, kws0, d, n0⟩, q1⟩ => ?_)
  subst ex
  obtain rfl : u = Value.ref a := rx
  obtain ⟨z0, hd0, vs0, rel0, dd0⟩ := lk_of I1 (.inl d) n0
  refine ⟨dd0.typeIs, dd0.mapOf.noDict, ?_⟩
  rw [m.trees]
  refine Calls.callWith_builtin rfl (Calls.evalArgs_plain (Calls.spliced_cons (thn (he.run pins s1 σ H1 _ I1 q1) fun iv s2 ⟨y, H2, I2, ry, q2⟩ =>
    Calls.spliced_cons (thn (hf.run pins s2 σ H2 _ I2 q2) fun fv s3 ⟨z, H3, I3, rz, es, kws, k, ea, n, ey, hl, q3, q4⟩ => Calls.spliced_nil ?_))))
  subst ey
  obtain ⟨zz, hd, vs, rel, dd⟩ := lk_of I3 (.inl ea) n
  have hz : vs.length ≤ sizeLine := by
    rw [← rel.length]
    exact zz
  refine call_meetsIn PySem.F.slot_dict_setdefault dd.typeIs PySem.F.entry_dict_setdefault (PySem.F.args_dict_setdefault_3 _ _ _) (kt_meets_setdefault (nnKind X.prog X.w) a (nn_of ry) hd fv) ⟨vs, dd, hz, fun v hv => ?_, fun hn h' dd' hs => ?_⟩
  · have q := rel.val k
    rw [hv] at q
    cases q0 : valV kws k with
    | none =>
      rw [q0] at q
      exact (show False from q).elim
    | some v0 =>
      rw [q0] at q
      exact ⟨v0, _, I3.tok _, q, q3 v0 q0⟩
  · have q := rel.val k
    rw [hn] at q
    cases q0 : valV kws k with
    | some v0 =>
      rw [q0] at q
      exact (show False from q).elim
    | none =>
      have hl2 : (putK kws k z).length ≤ sizeLine := by
        have := length_putK kws k z
        omega
      have he : ∃ q, h'.get? a = some q := let ⟨q, _, _, hq, _⟩ := dd'; ⟨q, hq⟩
      obtain ⟨es', n', _⟩ := de_new (P := X.prog) (w := X.w) (H := H3) hl2 hd (rel.put k rz) dd'
      obtain ⟨es', n', ok⟩ : ∃ es', NN a es' (putK kws k z) ∧ ObjOk X.prog X.w (upd H3 a (DE a es')) h' a (DE a es') := by
        obtain ⟨o, es2, ep, e1, e2, e3, e4, e5, e6⟩ := dd'
        exact ⟨es2, ⟨hl2, hd, X.prog, X.w, _, rel.put k rz, e4, e5, e6⟩, ⟨o, ep, e1, e2, e3⟩, ⟨o, e1⟩, fun h1 h2 ⟨o', ep', q1, q2, q3⟩ k => ⟨o', ep', k o' q1, q2, q3⟩⟩
      exact ⟨z, _, d_write (t' := s3.toks + 1) I3 (by rw [ea]; exact True.intro) hs he ok, rz, q4 q0 es' n'⟩
/-- k in d -/
def rLIn : V → V → Hp → VK → Prop := fun x y H Q => ∃ (k : Option Int) (a : Addr) (es : Array DictEntry) (kws : List (Option Int × V)), x = nV k ∧ y = .ref a ∧ LRd H a es ∧ NN a es kws ∧ Q (.bl (valV kws k).isSome) H
theorem or_lin : OpR X (compareOp .In) rLIn := by
  intro pins s σ H x y v u Q I rx ry h
  obtain ⟨k, a, es, kws, rfl, rfl, ha, n, q⟩ := h
  cases ry
  obtain ⟨zz, hd, vs, rel, dd⟩ := lk_of I ha n
  refine wpAny_in_of (nn_of rx) hd dd.mapOf ?_
  rw [← (rel.val k).isSome_eq]
  exact ⟨.bl (valV kws k).isSome, H, I.tok _, rfl, q⟩
/-- d[k] -/
def tLGet (td ty : TE) : TE := fun σ H Q => td σ H fun x H1 => ty σ H1 fun y H2 => ∃ a es kws k v, x = .ref a ∧ LRd H2 a es ∧ NN a es kws ∧ y = nV k ∧ valV kws k = some v ∧ Q v H2
theorem pe_lget (ho : PE X o td) (hi : PE X i ty) (hs : NoSl i) : PE X (.Subscript o i pos) (tLGet td ty) := by
  refine ⟨fun pins s σ H Q I h => ?_⟩
  refine subD_of PySem.F.slot_dict_getitem.lookup hs (thn (ho.run pins s σ H _ I h) fun u s1 ⟨x, H1, I1, rx, q1⟩ => thn (hi.run pins s1 σ H1 _ I1 q1) fun iv s2 ⟨y, H2, I2, ry, a, es, kws, k, v, ex, ha, n, ey, hv, q2⟩ => ?_)
  subst ex ey
  obtain rfl : u = Value.ref a := rx
  obtain ⟨zz, hd, vs, rel, dd⟩ := lk_of I2 ha n
  refine ⟨dd.typeIs, ?_⟩
  obtain ⟨w', hw, rw'⟩ := RelO.some_of (v := v) (o := valueAt vs k) (by rw [← hv]; exact rel.val k)
  exact wpAny_getItem_of (nn_of ry) dd.mapOf hw ⟨v, H2, I2.tok _, rw', q2⟩
/-! walks over the keys -/
def ItkN (d : Addr) (o : Obj) (es : Array DictEntry) (kws : List (Option Int × V)) : It where
  go i H := H d = some (.frz o (DE d es)) ∧ i < kws.length
  yld i H v H' := H' = H ∧ ∃ k x, kws[i]? = some (k, x) ∧ v = nV k
  stop i H := H d = some (.frz o (DE d es)) ∧ kws.length ≤ i
theorem frzN {pins : List (Addr × Obj)} {σ : L2.St} {H : Hp} {s : Shared} {d : Addr} {o : Obj} {es : Array DictEntry} {kws : List (Option Int × V)} (I : Inv X pins σ H s) (h : H d = some (.frz o (DE d es))) (n : NN d es kws) :
    (d == sysModules) = false ∧ s.heap.get? d = some o ∧ o.ExactDict ∧ ∃ (ep : Nat) (vs : List (Option Int × Value)), o.data = .dict es ep ∧ es.size = kws.length ∧ KV kws vs ∧ s.heap.DictAt (nnKind X.prog X.w) d vs ep := by
  obtain ⟨hd, hx⟩ := I.hok d _ h
  obtain ⟨o', ep, e1, e2, e3⟩ := (show ObjOk X.prog X.w H s.heap d (.ext _) from hx).1
  rw [hd] at e1
  cases e1
  obtain ⟨z, hs, P, w, vs, r, k, p, nd⟩ := n
  refine ⟨hs, hd, e2, ep, vs, e3, ?_, r, o, es, hd, e2, e3, k, nn_pairs p, nd⟩
  have l1 := p.length
  have l2 : kws.length = vs.length := Paired.length r
  rw [Array.length_toList] at l1
  omega
theorem kvn_get {kws : List (Option Int × V)} {vs : List (Option Int × Value)} {i : Nat} {k : Option Int} {v : V} (r : KV kws vs) (h : kws[i]? = some (k, v)) : ∃ u, vs[i]? = some (k, u) := by
  induction r generalizing i with
  | nil => simp at h
  | @cons p q kws vs a _ ih =>
    cases i with
    | zero =>
      simp at h
      subst h
      obtain ⟨q1, q2⟩ := q
      have a1 : k = q1 := a.1
      subst a1
      exact ⟨q2, rfl⟩
    | succ i => exact ih (by simpa using h)
theorem turn_keysN {P : Program} {w : World} {K : PySem.W.Frag} {tg : Expr} {d : Addr} {o : Obj} {es : Array DictEntry} {ep : Nat} {kws : List (Option Int × V)} (n : NN d es kws) (it : Addr) (hod : o.data = .dict es ep) : Turn P w K tg (ItkN d o es kws) [it] it (fun i h => h.IsKeyIter it d i kws.length ep) where
  mem := by simp
  obj := fun i h st b hb => by
    have e : b = it := by simpa using hb
    subst e
    obtain ⟨oi, e, c, dd⟩ := st
    exact ⟨oi, e, fun v z => by rw [dd] at z; cases z⟩
  keep := fun i h h' st k => st.at fun oi e => k it (by simp) oi e
  item := by
    intro X hP hw hK hc i pins s σ H E I hf st hg
    subst hP hw hK
    obtain ⟨hd, hi⟩ := hg
    obtain ⟨f0, f1, f2, f3, f4, f5⟩ := hf it (by simp)
    obtain ⟨hs, hgd, hx, ep', vs, hdt, hsz, kv, hm⟩ := frzN I hd n
    obtain ⟨_, rfl⟩ := dict_ep hod hdt
    obtain ⟨⟨k, v⟩, hkv⟩ : ∃ p, kws[i]? = some p := ⟨kws[i], List.getElem?_eq_getElem hi⟩
    obtain ⟨u, hu⟩ := kvn_get kv hkv
    have hl : kws.length = vs.length := Paired.length kv
    rw [hl] at st
    refine wpAny_pyNext_dict_item st hm hu fun key h' hkey st' sb => ?_
    have I1 : Inv X pins σ H { s with heap := h' } := I.turned (t' := s.toks) (fun b ob hb e => (sb.2 b hb).trans e) f0 f1 f3 f4 f5
    obtain ⟨oi, e, c, dd⟩ := id st'
    refine ⟨key, rfl, go_of (s := { s with heap := h' }) e c dd (by decide) ⟨nV k, H, I1, nn_rel (show nnIs k key = true from hkey), ⟨rfl, k, v, hkv, rfl⟩, ?_, fun b hb => (hf b hb).1⟩⟩
    show h'.IsKeyIter it d (i + 1) kws.length _
    rw [hl]
    exact st'
  done := by
    intro X hP hw hK hc i pins s σ H E I hf st hg
    subst hP hw hK
    obtain ⟨hd, hi⟩ := hg
    obtain ⟨f0, f1, f2, f3, f4, f5⟩ := hf it (by simp)
    obtain ⟨hs, hgd, hx, ep', vs, hdt, hsz, kv, hm⟩ := frzN I hd n
    obtain ⟨_, rfl⟩ := dict_ep hod hdt
    exact next_key_end (I.ok.hd hc) st hgd hdt hsz hi fun h' eb => ⟨rfl, I.turned (t' := s.toks) (fun b ob hb e => eb b ob hb e) f0 f1 f3 f4 f5⟩
  self := fun A i s Q E st h => wpAny_pyIter_keyiter st h
def iKeysN (td : TE) : TI := fun σ H R => td σ H fun x H1 => ∃ d o es kws, x = .ref d ∧ H1 d = some (.frz o (DE d es)) ∧ NN d es kws ∧ R (ItkN d o es kws) H1
theorem pi_keysN {tg : Expr} (he : PE X e td) : PI X tg e (iKeysN td) := by
  refine ⟨fun pins s σ H R I h => ?_⟩
  refine thn (he.run pins s σ H _ I h) fun u s1 ⟨x, H1, I1, rx, d, o, es, kws, ex, hd, n, q⟩ => ?_
  subst ex
  obtain rfl : u = Value.ref d := rx
  obtain ⟨hs, hgd, hx, ep, vs, hdt, hsz, kv, hm⟩ := frzN I1 hd n
  refine iter_keys hs hgd hx hdt (pi_one (tk := s1.toks) I1 _ (turn_keysN n _ hdt) ⟨_, Heap.get?_push_size _ rfl, rfl, ?_⟩ q)
  rw [hsz] <;> rfl
end
end Ev

namespace Ev
variable [Wd]
open PySem PySem.Spec PyProof.Rows L2
open PySem.W.Z (ltB leB eqB ltB_iff leB_iff eqB_iff)
/-! dicts of lists under whole numbers and None -/
def nnEq : Option Int → Option Int → Bool
  | none, b => match b with | none => true | some _ => false
  | some i, b => match b with | none => false | some j => eqB i j
theorem nnEq_iff {a b : Option Int} : nnEq a b = true ↔ a = b := by
  cases a <;> cases b <;> simp [nnEq, eqB_iff]
/-- the list under k, an empty one if there is none -/
def nDef (q : Option Int) (k : PyData) : List (PyData × List PyData) → List (PyData × List PyData)
  | [] => [(k, [])]
  | p :: l => match keyN p.1 with
    | some q' => (match nnEq q' q with | true => p :: l | false => p :: nDef q k l)
    | none => p :: nDef q k l
def nApp (q : Option Int) (x : PyData) : List (PyData × List PyData) → Option (List (PyData × List PyData))
  | [] => none
  | p :: l => match keyN p.1 with
    | some q' => (match nnEq q' q with
      | true => (match few (p.2.length + 1) with | true => some ((p.1, p.2 ++ [x]) :: l) | false => none)
      | false => (match nApp q x l with | some r => some (p :: r) | none => none))
    | none => none
def nGet (q : Option Int) : List (PyData × PyData) → Option PyData
  | [] => none
  | p :: l => match keyN p.1 with
    | some q' => (match nnEq q' q with | true => some p.2 | false => nGet q l)
    | none => none
section
variable {K : PySem.W.Frag} {A : Ow} {H : Hp} {j : Nat}
theorem rnl_len : ∀ {l : List (PyData × List PyData)} {r : List (Option Int × V)}, RnL K A H j l r → r.length = l.length
  | [], _, h => by rw [show _ = [] from h]; rfl
  | p :: l, r, h => by
    obtain ⟨q, b, us, t, e, _, _, _, _, _, k⟩ := h
    rw [e, List.length_cons, List.length_cons, rnl_len k]
theorem rnl_mem : ∀ {l : List (PyData × List PyData)} {r : List (Option Int × V)}, RnL K A H j l r → ∀ x ∈ r, ∃ b us, x.2 = .ref b ∧ A b = some j ∧ H b = some (.lst us)
  | [], _, h, x, hx => by rw [show _ = [] from h] at hx; cases hx
  | p :: l, r, h, x, hx => by
    obtain ⟨q, b, us, t, e, _, k2, k3, _, _, k⟩ := h
    rw [e] at hx
    rcases List.mem_cons.mp hx with rfl | hx
    · exact ⟨b, us, rfl, k2, k3⟩
    · exact rnl_mem k x hx
/-- the key is there -/
theorem rnl_found {q : Option Int} {k : PyData} (hk : keyN k = some q) : ∀ {l : List (PyData × List PyData)} {r : List (Option Int × V)} {v : V}, RnL K A H j l r → valV r q = some v → nDef q k l = l ∧ ∃ b us, v = .ref b ∧ A b = some j ∧ H b = some (.lst us)
  | [], _, v, h, e => by rw [show _ = [] from h] at e; cases e
  | p :: l, r, v, h, e => by
    obtain ⟨q', b, us, t, rfl, k1, k2, k3, k4, k5, k6⟩ := h
    unfold nDef
    rw [k1]
    cases hq : nnEq q' q with
    | true =>
      have hqq := nnEq_iff.mp hq
      refine ⟨by simp only [hq], b, us, ?_, k2, k3⟩
      unfold valV at e
      rw [List.find?_cons, show decide (q' = q) = true from decide_eq_true hqq] at e
      exact (Option.some.inj e).symm
    | false =>
      have hne : q' ≠ q := fun z => by rw [nnEq_iff.mpr z] at hq; cases hq
      have e' : valV t q = some v := by
        unfold valV at e ⊢
        rw [List.find?_cons, show decide (q' = q) = false from decide_eq_false hne] at e
        exact e
      obtain ⟨z1, z2⟩ := rnl_found hk k6 e'
      exact ⟨by simp only [hq]; rw [z1], z2⟩
theorem rnl_none {q : Option Int} {k : PyData} (hk : keyN k = some q) {p : Addr} (hp : A p = some j) (hl : H p = some (.lst [])) : ∀ {l : List (PyData × List PyData)} {r : List (Option Int × V)}, RnL K A H j l r → (∀ x ∈ r, x.2 ≠ .ref p) → valV r q = none → RnL K A H j (nDef q k l) (r ++ [(q, .ref p)]) ∧ putK r q (.ref p) = r ++ [(q, .ref p)]
  | [], _, h, _, e => by
    rw [show _ = [] from h]
    exact ⟨⟨q, p, [], [], rfl, hk, hp, hl, .nil, (fun x hx => by cases hx), rfl⟩, rfl⟩
  | p' :: l, r, h, hn, e => by
    obtain ⟨q', b, us, t, rfl, k1, k2, k3, k4, k5, k6⟩ := h
    have hne : q' ≠ q := fun z => by
      unfold valV at e
      rw [List.find?_cons, show decide (q' = q) = true from decide_eq_true z] at e
      cases e
    have e' : valV t q = none := by
      unfold valV at e ⊢
      rw [List.find?_cons, show decide (q' = q) = false from decide_eq_false hne] at e
      exact e
    obtain ⟨z1, z2⟩ := rnl_none hk hp hl k6 (fun x hx => hn x (List.mem_cons_of_mem _ hx)) e'
    unfold nDef
    rw [k1]
    have hq : nnEq q' q = false := by
      cases hq : nnEq q' q with
      | true => exact absurd (nnEq_iff.mp hq) hne
      | false => rfl
    simp only [hq]
    refine ⟨⟨q', b, us, t ++ [(q, .ref p)], rfl, k1, k2, k3, k4, fun x hx => ?_, z1⟩, ?_⟩
    · rcases List.mem_append.mp hx with hx | hx
      · exact k5 x hx
      · rw [List.mem_singleton] at hx
        subst hx
        exact fun z => hn (q', .ref b) List.mem_cons_self z.symm
    · unfold putK at z2 ⊢
      split at z2
      · rename_i ha
        have : ¬ (t.any fun kv => decide (kv.1 = q)) = true := fun z => by
          rw [List.any_eq_true] at z
          obtain ⟨x, hx, hd⟩ := z
          have hd := of_decide_eq_true hd
          unfold valV at e'
          have hf : t.find? (fun kv => decide (kv.1 = q)) = none := by
            cases hh : t.find? (fun kv => decide (kv.1 = q)) with
            | none => rfl
            | some y => rw [hh] at e'; cases e'
          have := List.find?_eq_none.mp hf x hx
          exact this (decide_eq_true hd)
        exact absurd ha this
      · rename_i ha
        rw [List.any_cons, show decide (q' = q) = false from decide_eq_false hne, Bool.false_or, if_neg ha]
theorem rnl_keepL {A' : Ow} {H' : Hp} (o : ∀ b us, A b = some j → H b = some (.lst us) → A' b = some j ∧ H' b = some (.lst us)) (m : Ex (hid A H) (hid A' H')) : ∀ {l : List (PyData × List PyData)} {r : List (Option Int × V)}, RnL K A H j l r → RnL K A' H' j l r
  | [], _, h => h
  | p :: l, r, h => by
    obtain ⟨q, b, us, t, e, e1, e2, e3, e4, e5, e6⟩ := h
    obtain ⟨k1, k2⟩ := o b _ e2 e3
    exact ⟨q, b, us, t, e, e1, k1, k2, e4.mono m, e5, rnl_keepL o m e6⟩
theorem valV_snoc {r : List (Option Int × V)} {q : Option Int} {v : V} (h : valV r q = none) : valV (r ++ [(q, v)]) q = some v := by
  unfold valV at h ⊢
  have hf : r.find? (fun kv => decide (kv.1 = q)) = none := by
    cases hh : r.find? (fun kv => decide (kv.1 = q)) with
    | none => rfl
    | some y => rw [hh] at h; cases h
  rw [List.find?_append, hf]
  simp
/-- an item more under k -/
theorem rnl_app {q : Option Int} {x : PyData} {v : V} {b : Addr} {us : List V} (rx : R K (hid A H) x v) (hb : H b = some (.lst us)) (hA : A b = some j) : ∀ {l l' : List (PyData × List PyData)} {r : List (Option Int × V)}, RnL K A H j l r → valV r q = some (.ref b) → nApp q x l = some l' → us.length < sizeLine ∧ RnL K A (upd H b (.lst (us ++ [v]))) j l' r
  | [], _, r, h, e, _ => by rw [show r = [] from h] at e; cases e
  | p :: l, l', r, h, e, ha => by
    obtain ⟨q', b', us', t, rfl, k1, k2, k3, k4, k5, k6⟩ := h
    have hid_eq : hid A (upd H b (.lst (us ++ [v]))) = hid A H := hid_upd (by rw [hA]; rfl)
    unfold nApp at ha
    rw [k1] at ha
    cases hq : nnEq q' q with
    | true =>
      have hqq := nnEq_iff.mp hq
      have ha : (match few (p.2.length + 1) with | true => some ((p.1, p.2 ++ [x]) :: l) | false => none) = some l' := by simpa [hq] using ha
      split at ha
      · rename_i hf
        cases ha
        have eb : b' = b := by
          unfold valV at e
          rw [List.find?_cons, show decide (q' = q) = true from decide_eq_true hqq] at e
          have := Option.some.inj e
          have : V.ref b' = V.ref b := this
          cases this; rfl
        subst eb
        rw [hb] at k3
        cases k3
        refine ⟨?_, q', b', us ++ [v], t, rfl, k1, k2, upd_same, ?_, k5, ?_⟩
        · have := few_le hf
          rw [k4.length]; omega
        · rw [hid_eq]
          exact k4.append (.cons rx .nil)
        · have key : ∀ {l : List (PyData × List PyData)} {t : List (Option Int × V)}, RnL K A H j l t → (∀ x ∈ t, x.2 ≠ .ref b') → RnL K A (upd H b' (.lst (us ++ [v]))) j l t := by
            intro l
            induction l with
            | nil => intro t h _; exact h
            | cons p l ih =>
              intro t h hn
              obtain ⟨q1, b1, us1, t1, rfl, m1, m2, m3, m4, m5, m6⟩ := h
              have hne : b1 ≠ b' := fun z => hn (q1, .ref b1) List.mem_cons_self (by rw [z])
              exact ⟨q1, b1, us1, t1, rfl, m1, m2, by rw [upd_ne hne]; exact m3, by rw [hid_eq]; exact m4, m5, ih m6 fun x hx => hn x (List.mem_cons_of_mem _ hx)⟩
          exact key k6 k5
      · cases ha
    | false =>
      have hne : q' ≠ q := fun z => by rw [nnEq_iff.mpr z] at hq; cases hq
      have e' : valV t q = some (.ref b) := by
        unfold valV at e ⊢
        rw [List.find?_cons, show decide (q' = q) = false from decide_eq_false hne] at e
        exact e
      have ha : (match nApp q x l with | some r => some (p :: r) | none => none) = some l' := by simpa [hq] using ha
      cases hl : nApp q x l with
      | none => simp [hl] at ha
      | some l2 =>
        simp [hl] at ha
        subst ha
        obtain ⟨z1, z2⟩ := rnl_app rx hb hA k6 e' hl
        have hbb : b' ≠ b := fun z => by
          have hm : ∃ y ∈ t, y.2 = V.ref b := by
            unfold valV at e'
            cases hh : t.find? (fun kv => decide (kv.1 = q)) with
            | none => rw [hh] at e'; cases e'
            | some y =>
              rw [hh] at e'
              exact ⟨y, List.mem_of_find?_eq_some hh, Option.some.inj e'⟩
          obtain ⟨y, hy, ey⟩ := hm
          exact k5 y hy (by rw [ey, z])
        exact ⟨z1, q', b', us', t, rfl, k1, k2, by rw [upd_ne hbb]; exact k3, by rw [hid_eq]; exact k4, k5, z2⟩
end
def llAt (sg : SG) (i : Nat) : Option (List (PyData × List PyData)) := match sg[i]? with | some (some (.ll l)) => some l | _ => none
theorem llAt_eq {sg : SG} {i : Nat} {l : List (PyData × List PyData)} (h : llAt sg i = some l) : sg[i]? = some (some (.ll l)) := by
  unfold llAt at h
  split at h
  · rename_i e; cases h; exact e
  · cases h
def mLn (_ : SG) : Res Sl := .ok (.ll [])
/-- x.setdefault(k, []).append(e) -/
def mSda (n : Nat) (mk mx : SG → Res PyData) (sg : SG) : Res Fl := match llAt sg n with
  | some l => (mk sg).bind fun k => match keyN k with
    | some q => (match few (l.length + 1) with
      | true => (mx (put sg n (.ll (nDef q k l)))).bind fun x => (match nApp q x (nDef q k l) with | some l' => .ok (.nx (put sg n (.ll l'))) | none => .bad)
      | false => .bad)
    | none => .bad
  | none => .bad
section
variable {X : Cx} {C : CT} {E : XK} {W : WX} {e a b c : Expr} {mk mx ma : SG → Res PyData} {pos p pos' : Pos} {x : Str}
theorem c_lnew : PE X (.Dict [] [] pos) (TC X.K C W mLn) := pe_imp pe_lnew fun σ H Q ⟨sg, A, rl, o⟩ p es hp hn => o H (Sm.refl _) p es hp hn
theorem put_put (sg : SG) (n : Nat) (s s' : Sl) : put (put sg n s) n s' = put sg n s' := by
  rw [put_eq, put_eq, put_eq, List.set_set]
theorem s_sda {n : Nat} {p2 p3 apos dpos cpos epos : Pos} (hN : X.N[n]? = some x) (hv : Vis X.env.scope x) (hd : (x == ("__debug__" : Str)) = false) (hcd : (x == ("__classdict__" : Str)) = false) (hk : PE X a (T X.K C (WE E) mk)) (hx : PE X b (T X.K C (WE E) mx))
    (m : M2 X (.Name x p) "setdefault" dpos a (.List [] p2) p3)
    (hbase : attributeBase (.Call (.Attribute (.Name x p) "setdefault" dpos) [a, .List [] p2] [] p3) "append" X.env (eval (.Call (.Attribute (.Name x p) "setdefault" dpos) [a, .List [] p2] [] p3) X.env) = eval (.Call (.Attribute (.Name x p) "setdefault" dpos) [a, .List [] p2] [] p3) X.env)
    (hfew : ((backTo cpos (starEach [b] X.env)).all (fun x => !x.1) && (backToKw cpos (keywordEach [] X.env)).all (fun x => x.1.isSome) && decide (([b] : List Expr).length + ([] : List Keyword).length + (if ([] : List Keyword).isEmpty then 0 else 1) < 30)) = true)
    (hline : (apos.endLine == cpos.line) = true) (hs : starEach [b] X.env = (false, eval b X.env) :: starEach [] X.env) :
    PS X (.Expr (.Call (.Attribute (.Call (.Attribute (.Name x p) "setdefault" dpos) [a, .List [] p2] [] p3) "append" apos) [b] [] cpos) epos) (TSt X.K C E (mSda n mk mx)) :=
  ps_imp (ps_expr (pe_bm F.plainAttrs_list F.slot_list_append F.type_list_append mt_append (pe_lsetd (pe_var hN hv hd hcd) hk (pe_lst pa_nil) m) (pa_cons hx pa_nil hs) hbase hfew hline hs rfl) rfl) fun D σ H ⟨sg, A, A0, Hi, rl, bd, o⟩ => by
    unfold mSda at o
    split at o
    · rename_i l how
      obtain ⟨vv, h1, ad, es, kws, rfl, h2, h3, hn, h4⟩ := rl.slot n _ (llAt_eq how)
      refine ⟨.ref ad, h1, ad, rfl, ⟨es, kws, h3, hn⟩, sg, A, rl, (SOut.bind (σ := σ) bd o).mono fun k H1 s1 o1 y ry => ?_⟩
      split at o1
      · rename_i q hq
        split at o1
        · rename_i hf
          refine ⟨by show 0 ≤ sizeLine; decide, fun pn hp => ?_⟩
          have e3 : H1 ad = some (DE ad es) := s1.g _ _ h3
          have hpa : ad ≠ pn := fun z => by rw [z, hp] at e3; cases e3
          have s2 : Sm C.tabs H1 (upd H1 pn (.lst [])) := Sm.new hp
          have e3' : upd H1 pn (.lst []) ad = some (DE ad es) := by rw [upd_ne hpa]; exact e3
          have hlen : kws.length = l.length := rnl_len h4
          have hey : y = nV q := by
            cases k <;> first | (cases hq; done) | skip
            · cases hq; unfold R at ry; exact ry
            · cases hq; unfold R at ry; exact ry
          have rl1 := (rl.mono s1).mono s2.w
          have bd1 := (bd.mono s1).mono s2.w
          have kp : ∀ {A' : Ow} {H' : Hp}, (∀ b u, A b = some n → H b = some u → mu u → A' b = some n ∧ H' b = some u) → Ex (hid A H) (hid A' H') → RnL X.K A' H' n l kws := fun o m => h4.keep o m
          have hk1 : RnL X.K A (upd H1 pn (.lst [])) n l kws := kp (fun b u q1 q2 mm => ⟨q1, (s1.trans s2.w).ex.at_ b u q2 mm.nt (.inr mm.nd)⟩) (hid_sm (s1.trans s2.w).ex)
          have hni : n < σ.length := by rw [List.getElem?_eq_some_iff] at h1; exact h1.1
          -- the append
          have fin : ∀ {A1 : Ow} {HS : Hp} {es1 : Array DictEntry} {kws1 : List (Option Int × V)} {b' : Addr} {us : List V}, Rel X.K C A1 HS (put sg n (.ll (nDef q k l))) σ → Bod C.tabs A0 Hi σ.length A1 HS → A1 ad = some n → HS ad = some (DE ad es1) → NN ad es1 kws1 → RnL X.K A1 HS n (nDef q k l) kws1 → valV kws1 q = some (.ref b') → A1 b' = some n → HS b' = some (.lst us) →
              SOut X.K C E A0 Hi D σ.length A1 HS ((mx (put sg n (.ll (nDef q k l)))).bind fun x => (match nApp q x (nDef q k l) with | some l' => .ok (.nx (put sg n (.ll l'))) | none => .bad)) →
              tNil σ HS (fun _ _ => True) → Out X.K C A1 (fun cx dx H' => WE E cx dx σ H') HS (mx (put sg n (.ll (nDef q k l)))) fun d H' => ∀ v, R X.K (hid A1 H') d v → rAppend (.ref b') [v] H' fun _ H'' => D.nx σ H'' := by
            intro A1 HS es1 kws1 b' us rel1 bd1 hA1 e1 n1 hk1 hv z3 z4 o1 _
            refine (SOut.bind (σ := σ) bd1 o1).mono fun d H3 s3 o3 w rw' => ?_
            split at o3
            · rename_i l' hl'
              have hk3 : RnL X.K A1 H3 n (nDef q k l) kws1 := hk1.keep (fun b u q1 q2 mm => ⟨q1, s3.ex.at_ b u q2 mm.nt (.inr mm.nd)⟩) (hid_sm s3.ex)
              have z4' : H3 b' = some (.lst us) := s3.g _ _ z4
              obtain ⟨y1, y2⟩ := rnl_app rw' z4' z3 hk3 hv hl'
              refine ⟨b', us, w, rfl, rfl, z4', y1, ?_⟩
              have hA : (A1 b').isSome = true := by rw [z3]; rfl
              have hh := hid_upd (H := H3) (o := .lst (us ++ [w])) hA
              have hne : ad ≠ b' := fun z => by rw [z, z4] at e1; cases e1
              have rel3 := rel1.mono s3
              have tr : Trk A1 (upd H3 b' (.lst (us ++ [w]))) := fun c hc => by
                by_cases hcb : c = b'
                · exact ⟨.lst (us ++ [w]), by rw [hcb]; exact upd_same, trivial⟩
                · obtain ⟨o', z, k⟩ := rel3.trk c hc
                  exact ⟨o', by rw [upd_ne hcb]; exact z, k⟩
              have z := rel3.upd (A' := A1) (H' := upd H3 b' (.lst (us ++ [w]))) n (s := .ll l') (v := .ref ad) ⟨ad, es1, kws1, rfl, hA1, by rw [upd_ne hne]; exact s3.g _ _ e1, n1, y2⟩ (fun j c u hj _ e1 e2 _ => ⟨e1, by rw [upd_ne (fun z => by rw [z, z3] at e1; exact hj (Option.some.inj e1).symm)]; exact e2⟩) (by rw [hh]; exact Ex.refl _) tr (fun p hp => TabS.upd z4' trivial (rel3.tab p hp))
              rw [set_back h1, put_put] at z
              exact o3 σ A1 _ z rfl ⟨bd1.t0, (bd1.mono s3).sm.wr (bd1.new b' n z3 hni) z4' trivial, bd1.ext, bd1.new⟩ (Tq.wr z4' trivial) (by rw [hh]; exact Ex.refl _)
            · exact o3.elim
          refine ⟨es, kws, q, e3', hn, hey, ?_, fun v hv => ?_, fun hv es' hn' => ?_⟩
          · have := few_le hf
            rw [hlen]; omega
          · obtain ⟨z1, b', us, rfl, z3, z4⟩ := rnl_found hq hk1 hv
            have rel1 : Rel X.K C A (upd H1 pn (.lst [])) (put sg n (.ll (nDef q k l))) σ := by
              have z := rl1.upd (A' := A) (H' := upd H1 pn (.lst [])) n (s := .ll (nDef q k l)) (v := .ref ad) ⟨ad, es, kws, rfl, h2, e3', hn, by rw [z1]; exact hk1⟩ (fun j b u hj _ e1 e2 _ => ⟨e1, e2⟩) (Ex.refl _) rl1.trk rl1.tab
              rw [set_back h1] at z
              exact z
            exact ⟨.inl ⟨rfl, us, SqL.of z4⟩, _, A, rel1, fin rel1 bd1 h2 e3' hn (by rw [z1]; exact hk1) hv z3 z4 (o1.from (hid_sm s2.w.ex) s2.tq) trivial⟩
          · let H4 : Hp := upd (upd H1 pn (.lst [])) ad (DE ad es')
            let A4 : Ow := own1 A pn n
            have hA4 : ∀ c, c ≠ pn → A4 c = A c := fun c hc => by show own1 A pn n c = _; unfold own1; rw [if_neg hc]
            have hAp : A4 pn = some n := by show own1 A pn n pn = _; unfold own1; rw [if_pos rfl]
            have hAad : A4 ad = some n := by rw [hA4 _ hpa]; exact h2
            have rlo := rel_own1 (n := n) (rl.mono s1) hp s2.w (trk_own1 (o := .lst []) (n := n) (rl.mono s1).trk hp)
            have bdo := bod_own (i := n) (o := .lst []) (bd.mono s1) hp
            have hh : hid A4 H4 = hid A4 (upd H1 pn (.lst [])) := hid_upd (by rw [hAad]; rfl)
            have ex2 : Ex (hid A H1) (hid A4 H4) := by rw [hh]; exact hid_own1_new hp
            have hpn4 : H4 pn = some (.lst []) := by show upd (upd H1 pn (.lst [])) ad (DE ad es') pn = _; rw [upd_ne (Ne.symm hpa)]; exact upd_same
            have hk4 : RnL X.K A4 H4 n l kws := rnl_keepL (fun c us q1 q2 => by
              have hc1 : H1 c = some (.lst us) := s1.g _ _ q2
              have hcp : c ≠ pn := fun z => by rw [z, hp] at hc1; cases hc1
              have hca : c ≠ ad := fun z => by rw [z, e3] at hc1; cases hc1
              exact ⟨by rw [hA4 _ hcp]; exact q1, by show upd (upd H1 pn (.lst [])) ad (DE ad es') c = _; rw [upd_ne hca, upd_ne hcp]; exact hc1⟩) ((hid_sm s1.ex).trans ex2) h4
            have hno : ∀ x ∈ kws, x.2 ≠ .ref pn := fun x hx => by
              obtain ⟨c, us, e, _, e2⟩ := rnl_mem h4 x hx
              rw [e]
              intro z
              cases z
              have := s1.g _ _ e2
              rw [hp] at this; cases this
            obtain ⟨y1, y2⟩ := rnl_none hq hAp hpn4 hk4 hno hv
            have hadH : upd H1 pn (.lst []) ad = some (DE ad es) := e3'
            have tr4 : Trk A4 H4 := fun c hc => by
              by_cases hca : c = ad
              · exact ⟨DE ad es', by rw [hca]; exact upd_same, DE.mu⟩
              · obtain ⟨o', z, k⟩ := rlo.trk c hc
                exact ⟨o', by show upd (upd H1 pn (.lst [])) ad (DE ad es') c = _; rw [upd_ne hca]; exact z, k⟩
            have rel4 : Rel X.K C A4 H4 (put sg n (.ll (nDef q k l))) σ := by
              have z := rlo.upd (A' := A4) (H' := H4) n (s := .ll (nDef q k l)) (v := .ref ad) ⟨ad, es', _, rfl, hAad, upd_same, hn', by rw [y2]; exact y1⟩ (fun j c u hj _ e1 e2 _ => ⟨e1, by show upd (upd H1 pn (.lst [])) ad (DE ad es') c = _; rw [upd_ne (fun z => by rw [z] at e1; rw [show own1 A pn n ad = some n from hAad] at e1; exact hj (Option.some.inj e1).symm)]; exact e2⟩) (by rw [hh]; exact Ex.refl _) tr4 (fun p hp => TabS.upd hadH DE.mu (rlo.tab p hp))
              rw [set_back h1] at z
              exact z
            have bd4 : Bod C.tabs A0 Hi σ.length A4 H4 := ⟨bdo.t0, bdo.sm.wr (bd.new ad n h2 hni) hadH DE.mu, bdo.ext, bdo.new⟩
            exact ⟨.inl ⟨rfl, [], SqL.of hpn4⟩, _, A4, rel4, fin rel4 bd4 hAad upd_same hn' (by rw [y2]; exact y1) (by rw [y2]; exact valV_snoc hv) hAp hpn4 (o1.from ex2 (s2.tq.trans (Tq.wr hadH DE.mu))) trivial⟩
        · exact o1.elim
      · exact o1.elim
    · exact o.elim
end
/-! locked: read by keys, walked over -/
def frnL (i : Nat) (sg : SG) : SG := match llAt sg i with | some l => put sg i (.lv (l.map fun p => (p.1, .list p.2))) | none => sg
section
variable {K : PySem.W.Frag} {C : CT} {A A0 : Ow} {H Hi : Hp} {sg : SG} {σ : L2.St} {i : Nat} {l : List (PyData × List PyData)}
theorem lk_frz (rl : Rel K C A H sg σ) (b : Bod C.tabs A0 Hi σ.length A H) (how : llAt sg i = some l) :
    ∃ a es, H a = some (DE a es) ∧ ∀ od, Rel K C (drop1 A i) (upd H a (.frz od (DE a es))) (put sg i (.lv (l.map fun p => (p.1, .list p.2)))) σ ∧ Bod C.tabs A0 Hi σ.length (drop1 A i) (upd H a (.frz od (DE a es))) ∧ Ex (hid A H) (hid (drop1 A i) (upd H a (.frz od (DE a es)))) ∧ Tq H (upd H a (.frz od (DE a es))) := by
  obtain ⟨vv, h1, a, es, kws, rfl, h2, h3, hn, h4⟩ := rl.slot i _ (llAt_eq how)
  refine ⟨a, es, h3, fun od => ?_⟩
  have hi : i < σ.length := by rw [List.getElem?_eq_some_iff] at h1; exact h1.1
  have hia : Hi a = none := b.new a i h2 hi
  have sub : ∀ c, (drop1 A i c).isSome = true → (A c).isSome = true := fun c hc => by
    unfold drop1 at hc
    split at hc
    · cases hc
    · exact hc
  have sm0 : Exs (hid A H) (hid (drop1 A i) (upd H a (.frz od (DE a es)))) := ⟨fun c o e _ => by
    unfold hid at e ⊢
    split at e
    · cases e
    · rename_i z
      have hc : c ≠ a := fun q => z (by rw [q, h2]; rfl)
      rw [if_neg fun y => z (sub c y), upd_ne hc]; exact e⟩
  have sm := sm0.w
  have ndd : ∀ {c : Addr}, A c = some i → drop1 A i c = none := fun {c} e => by
    unfold drop1
    rw [e, if_pos rfl]
  have nd := ndd h2
  have key : ∀ {l : List (PyData × List PyData)} {r : List (Option Int × V)}, RnL K A H i l r → RnV K (hid (drop1 A i) (upd H a (.frz od (DE a es)))) (l.map fun p => (p.1, .list p.2)) r := by
    intro l
    induction l with
    | nil => intro r h; exact h
    | cons p l ih =>
      intro r h
      obtain ⟨q, b', us, t, rfl, k1, k2, k3, k4, k5, k6⟩ := h
      have hba : b' ≠ a := fun z => by rw [z, h3] at k3; cases k3
      refine ⟨q, .ref b', t, rfl, k1, R.list_iff.mpr ⟨b', us, rfl, ?_, k4.mono sm⟩, ih k6⟩
      unfold hid
      rw [if_neg (by rw [ndd k2]; decide), upd_ne hba]
      exact k3
  have hs : SlR K C (drop1 A i) (upd H a (.frz od (DE a es))) i (.lv (l.map fun p => (p.1, .list p.2))) (.ref a) := ⟨a, od, es, kws, rfl, by unfold hid; rw [if_neg (by rw [nd]; decide)]; exact upd_same, hn, key h4⟩
  have tr : Trk (drop1 A i) (upd H a (.frz od (DE a es))) := fun c hc => by
    obtain ⟨o, e, m⟩ := rl.trk c (sub c hc)
    have hca : c ≠ a := fun q => by rw [q, nd] at hc; cases hc
    exact ⟨o, by rw [upd_ne hca]; exact e, m⟩
  refine ⟨?_, ⟨b.t0, b.sm.wr hia h3 DE.mu, fun c hc => ?_, fun c j hj hlt => ?_⟩, sm, Tq.wr h3 DE.mu⟩
  · have z := rl.upd (A' := drop1 A i) (H' := upd H a (.frz od (DE a es))) i hs (fun j b u hj _ e1 e2 _ => ⟨by unfold drop1; rw [e1, if_neg fun z => hj (Option.some.inj z)], by rw [upd_ne (fun z => by rw [z, h2] at e1; exact hj (Option.some.inj e1).symm)]; exact e2⟩) sm tr (fun p hp => TabS.upd h3 DE.mu (rl.tab p hp))
    rw [set_back h1] at z
    exact z
  · have := b.ext c hc
    unfold drop1
    rw [this, if_neg fun z => by have := Option.some.inj z; omega]
  · unfold drop1 at hj
    split at hj
    · cases hj
    · exact b.new c j hj hlt
end
def lvAt (sg : SG) (i : Nat) : Option (List (PyData × PyData)) := match sg[i]? with | some (some (.lv l)) => some l | _ => none
theorem lvAt_eq {sg : SG} {i : Nat} {l : List (PyData × PyData)} (h : lvAt sg i = some l) : sg[i]? = some (some (.lv l)) := by
  unfold lvAt at h
  split at h
  · rename_i e; cases h; exact e
  · cases h
def mLvIn (i : Nat) (mk : SG → Res PyData) (sg : SG) : Res PyData := match lvAt sg i with
  | some l => (mk sg).bind fun k => match keyN k with | some q => .ok (.bool (nGet q l).isSome) | none => .bad
  | none => .bad
def mLvIx (i : Nat) (mk : SG → Res PyData) (sg : SG) : Res PyData := match lvAt sg i with
  | some l => (mk sg).bind fun k => match keyN k with | some q => Res.of (nGet q l) | none => .bad
  | none => .bad
def mLvKy (i : Nat) (sg : SG) : Res (List PyData) := match lvAt sg i with
  | some l => .ok (l.map (·.1))
  | none => .bad
section
variable {K : PySem.W.Frag} {H Hf Hs : Hp}
theorem rnv_get {q : Option Int} : ∀ {l : List (PyData × PyData)} {r : List (Option Int × V)}, RnV K H l r → (nGet q l).isSome = (valV r q).isSome ∧ ∀ d, nGet q l = some d → ∃ v, valV r q = some v ∧ R K H d v
  | [], r, h => by rw [show r = [] from h]; exact ⟨rfl, fun d e => by cases e⟩
  | p :: l, r, h => by
    obtain ⟨q', v, t, rfl, k1, k2, k3⟩ := h
    unfold nGet
    rw [k1]
    cases hq : nnEq q' q with
    | true =>
      have hqq := nnEq_iff.mp hq
      have e : valV ((q', v) :: t) q = some v := by
        unfold valV
        rw [List.find?_cons, show decide (q' = q) = true from decide_eq_true hqq]
        rfl
      simp only [hq]
      refine ⟨by rw [e]; rfl, fun d z => ?_⟩
      cases z
      exact ⟨v, e, k2⟩
    | false =>
      have hne : q' ≠ q := fun z => by rw [nnEq_iff.mpr z] at hq; cases hq
      have e : valV ((q', v) :: t) q = valV t q := by
        unfold valV
        rw [List.find?_cons, show decide (q' = q) = false from decide_eq_false hne]
      simp only [hq]
      rw [e]
      exact rnv_get k3
theorem keyN_R {d : PyData} {q : Option Int} (h : keyN d = some q) : R K H d (nV q) := by
  cases d <;> first | (cases h; done) | skip
  · cases h; exact R.none'
  · cases h; exact R.int'
theorem keyN_val {d : PyData} {q : Option Int} {v : V} (h : keyN d = some q) (r : R K H d v) : v = nV q := by
  cases d <;> first | (cases h; done) | skip
  · cases h; unfold R at r; exact r
  · cases h; unfold R at r; exact r
theorem rnv_at : ∀ {l : List (PyData × PyData)} {r : List (Option Int × V)} {i : Nat} {p : PyData × PyData} {k : Option Int} {x : V}, RnV K H l r → l[i]? = some p → r[i]? = some (k, x) → keyN p.1 = some k
  | [], r, i, p, k, x, h, e, _ => by simp at e
  | p :: l, r, 0, p', k, x, h, e, e2 => by
    obtain ⟨q', v, t, rfl, k1, k2, k3⟩ := h
    simp at e e2
    rw [← e, k1, e2.1]
  | p :: l, r, i + 1, p', k, x, h, e, e2 => by
    obtain ⟨q', v, t, rfl, k1, k2, k3⟩ := h
    exact rnv_at k3 (by simpa using e) (by simpa using e2)
theorem rnv_len : ∀ {l : List (PyData × PyData)} {r : List (Option Int × V)}, RnV K H l r → r.length = l.length
  | [], r, h => by rw [show r = [] from h]; rfl
  | p :: l, r, h => by
    obtain ⟨q', v, t, rfl, _, _, k3⟩ := h
    rw [List.length_cons, List.length_cons, rnv_len k3]
theorem itn_ok {a : Addr} {o : Obj} {es : Array DictEntry} {kws : List (Option Int × V)} {l : List (PyData × PyData)} (h : Hf a = some (.frz o (DE a es))) (r : RnV K Hs l kws) : ItOk K Hf Hs (ItkN a o es kws) (l.map (·.1)) where
  go i H s hi := by
    have : (l.map (·.1)).length = l.length := List.length_map _
    exact ⟨s.g _ _ h, by rw [rnv_len r]; omega⟩
  stop H s := ⟨s.g _ _ h, by rw [rnv_len r]; show _ ≤ (l.map _).length; rw [List.length_map]; exact Nat.le_refl _⟩
  yld := by
    rintro A i H x H' d s s2 t hd ⟨rfl, k, v, e, rfl⟩
    obtain ⟨p, hp, rfl⟩ := map_at hd
    exact ⟨fun _ => Sm.refl _, keyN_R (rnv_at r hp e)⟩
end
section
variable {X : Cx} {C : CT} {E : XK} {W : WX} {a b e tg : Expr} {mk : SG → Res PyData} {ms : SG → Res Fl} {sts : List Stmt} {pos p : Pos} {x : Str} {i : Nat} {full : Bool}
theorem ss_frn (i : Nat) (h : PSs X sts (TSt X.K C E ms)) : PSs X sts (TSt X.K C E fun sg => ms (frnL i sg)) := ⟨fun pins s σ H D I q => by
  obtain ⟨sg, A, A0, Hi, rl, b, o⟩ := q
  cases how : llAt sg i with
  | none =>
    have e : frnL i sg = sg := by unfold frnL; rw [how]
    have o : SOut X.K C E A0 Hi D σ.length A H (ms (frnL i sg)) := o
    rw [e] at o
    exact h.run pins s σ H D I ⟨_, A, A0, Hi, rl, b, o⟩
  | some l =>
    obtain ⟨a, es, ha, k⟩ := lk_frz rl b how
    obtain ⟨od, I1⟩ := I.lock ha trivial
    obtain ⟨r', b', s', q'⟩ := k od
    have e : frnL i sg = put sg i (.lv (l.map fun p => (p.1, .list p.2))) := by unfold frnL; rw [how]
    have o : SOut X.K C E A0 Hi D σ.length A H (ms (frnL i sg)) := o
    rw [e] at o
    exact h.run pins s σ _ D I1 ⟨_, _, A0, Hi, r', b', o.from s' q'⟩⟩
theorem t_lvin (hN : X.N[i]? = some x) (hv : Vis X.env.scope x) (hd : (x == ("__debug__" : Str)) = false) (hcd : (x == ("__classdict__" : Str)) = false) (hk : PE X a (T X.K C W mk)) (hm : behindInMarks .In (.Name x p) = false) : PT X (.Compare a [.In] [.Name x p] pos) (TP X.K C W (mT (mLvIn i mk))) :=
  pt_imp (pt_cmpR or_lin hk (pe_var hN hv hd hcd) hm) fun σ H Q h => by
    obtain ⟨sg, A, rl, o⟩ := tp_of h
    unfold mLvIn at o
    split at o
    · rename_i l how
      obtain ⟨v, h1, ad, oo, es, kws, rfl, h2, hn, h3⟩ := rl.slot i _ (lvAt_eq how)
      refine ⟨sg, A, rl, o.bind.mono fun k H1 s1 o1 y ry => ⟨.ref ad, h1, ?_⟩⟩
      split at o1
      · rename_i q hq
        refine ⟨q, ad, es, kws, keyN_val hq ry, rfl, .inr ⟨oo, s1.g _ _ (hid_le.g _ _ h2)⟩, hn, ?_⟩
        rw [← (rnv_get (q := q) h3).1]
        exact o1 H1 (Sm.refl _) _ R.bool'
      · exact o1.elim
    · exact o.elim
theorem e_lvix (hN : X.N[i]? = some x) (hv : Vis X.env.scope x) (hd : (x == ("__debug__" : Str)) = false) (hcd : (x == ("__classdict__" : Str)) = false) (hk : PE X a (T X.K C W mk)) (hs : notSlice a = true) : PE X (.Subscript (.Name x p) a pos) (T X.K C W (mLvIx i mk)) :=
  pe_imp (pe_lget (pe_var hN hv hd hcd) hk (fun o i => by cases a <;> first | rfl | cases hs)) fun σ H Q ⟨sg, A, rl, o⟩ => by
    unfold mLvIx at o
    split at o
    · rename_i l how
      obtain ⟨v, h1, ad, oo, es, kws, rfl, h2, hn, h3⟩ := rl.slot i _ (lvAt_eq how)
      refine ⟨.ref ad, h1, sg, A, rl, o.bind.mono fun k H1 s1 o1 y ry => ?_⟩
      split at o1
      · rename_i q hq
        obtain ⟨d, e, kk⟩ := o1.of
        obtain ⟨w, hw, rw'⟩ := (rnv_get (q := q) h3).2 d e
        exact ⟨ad, es, kws, q, w, rfl, .inr ⟨oo, s1.g _ _ (hid_le.g _ _ h2)⟩, hn, keyN_val hq ry, hw, kk H1 (Sm.refl _) w (rw'.mono (hid_sm s1.ex))⟩
      · exact o1.elim
    · exact o.elim
theorem i_lvky (hN : X.N[i]? = some x) (hv : Vis X.env.scope x) (hd : (x == ("__debug__" : Str)) = false) (hcd : (x == ("__classdict__" : Str)) = false) : PI X tg (.Name x p) (TIt X.K C W full (mLvKy i)) :=
  pi_imp (pi_keysN (pe_var hN hv hd hcd)) fun σ H Q ⟨sg, A, rl, o⟩ => by
    unfold mLvKy at o
    split at o
    · rename_i l how
      obtain ⟨v, h1, ad, oo, es, kws, rfl, h2, hn, h3⟩ := rl.slot i _ (lvAt_eq how)
      exact ⟨.ref ad, h1, ad, oo, es, kws, rfl, hid_le.g _ _ h2, hn, o H (Sm.refl _) _ (itn_ok (lf_g h2) h3)⟩
    · exact o.elim
end
end Ev

namespace Ev
variable [Wd]
open PySem PySem.Spec PyProof.Rows L2
open PySem.W.Z (ltB leB eqB ltB_iff leB_iff eqB_iff)

/-! the syntax of the evaluator -/
inductive Kd where
  | val | new | sl | tst | tw | flt | arg | itr | prt | prs | blk | cel | tbd
abbrev Kd.den : Kd → Type
  | .val => PyData
  | .new => List PyData
  | .sl => Sl
  | .tst => Bool
  | .tw => Bool
  | .flt => Bool
  | .arg => List PyData
  | .itr => List PyData
  | .prt => Option Int
  | .prs => List (PyData × PyData)
  | .blk => Fl
  | .cel => List (Nat × Res Sl)
  | .tbd => Fl
abbrev Kd.obj : Kd → Type
  | .val => Expr
  | .new => Expr
  | .sl => Expr
  | .tst => Expr
  | .tw => Expr
  | .flt => List Expr
  | .arg => List Expr
  | .itr => Expr × Expr
  | .prt => Option Expr
  | .prs => List (Option Expr) × List Expr
  | .blk => List Stmt
  | .cel => List Expr
  | .tbd => List Stmt
inductive E : Kd → Type where
  | un : E .val
  | drw (i : Nat) (a : E .val) : E .val
  | lens (i : Nat) : E .val
  | v (i : Nat) : E .val
  | vb (i : Nat) : E .val
  | k (d : PyData) : E .val
  | gc (j : Nat) (d : PyData) : E .val
  | ofn (n : E .new) : E .val
  | bin (o : O2) (a b : E .val) : E .val
  | cmp (o : Cp) (a b : E .val) : E .val
  | chn (o o' : Cp) (a b c : E .val) : E .val
  | rne (a b : E .val) : E .val
  | not (a : E .val) : E .val
  | bo1 (a : E .val) : E .val
  | bo (isAnd : Bool) (a r : E .val) : E .val
  | ite (c : E .tst) (a b : E .val) : E .val
  | call (j n : Nat) (args : E .arg) : E .val
  | tup (args : E .arg) : E .val
  | ix (a b : E .val) : E .val
  | slc (a : E .val) (lo hi : E .prt) : E .val
  | bf (f : B1) (a : E .val) : E .val
  | slcs (a : E .val) (lo hi st : E .prt) : E .val
  | jn (z : Str) (a : E .val) : E .val
  | trg (a : E .val) : E .val
  | lvix (i : Nat) (a : E .val) : E .val
  | isi (t : Ty) (a : E .val) : E .val
  | emp : E .val
  | bg (f : B2) (a : E .val) : E .val
  | gdget (j : Nat) (tab : List (Str × PyData)) (a : E .val) : E .val
  | calls (j n : Nat) (args : E .arg) : E .val
  | get1 (a k : E .val) : E .val
  | mm (f : MM) (args : E .arg) : E .val
  | get2 (a k x : E .val) : E .val
  | dcv (t : Tg) (it : E .itr) (f : E .flt) (k v : E .val) (vs : List Nat) : E .val
  | uq (t : Tg) (it : E .itr) (k : E .val) (vs : List Nat) : E .val
  | gdin (j : Nat) (tab : List (Str × PyData)) (a : E .val) : E .val
  | gdix (j : Nat) (tab : List (Str × PyData)) (a : E .val) : E .val
  | dget (ps : E .prs) (a : E .val) : E .val
  | hrd (e : E .val) : E .val
  | isx (i j : Nat) (bs : List Bool) : E .val
  | isnx (i : Nat) : E .val
  | fldx (i : Nat) (cs : List Nat) : E .val
  | lst (args : E .arg) : E .new
  | addn (a b : E .val) : E .new
  | lc (t : Tg) (it : E .itr) (f : E .flt) (e : E .val) (vs : List Nat) : E .new
  | lc2 (t : Tg) (it : E .itr) (f : E .flt) (t2 : Tg) (it2 : E .itr) (f2 : E .flt) (e : E .val) (vs us : List Nat) : E .new
  | lsn (a : E .val) : E .new
  | rgn (a : E .val) : E .new
  | cv (a : E .val) : E .sl
  | cn (n : E .new) : E .sl
  | cd : E .sl
  | cdn : E .sl
  | tr (a : E .val) : E .tst
  | tcmp (o : Cp) (a b : E .val) : E .tst
  | tchn (o o' : Cp) (a b c : E .val) : E .tst
  | tisn (i : Nat) : E .tst
  | tlvin (i : Nat) (a : E .val) : E .tst
  | trne (a b : E .val) : E .tst
  | tgdin (j : Nat) (tab : List (Str × PyData)) (a : E .val) : E .tst
  | tnot (a : E .tst) : E .tst
  | tite (c a b : E .tst) : E .tst
  | tbo (w : E .tw) : E .tst
  | w1 (a : E .tst) : E .tw
  | wc (isAnd : Bool) (a : E .tst) (r : E .tw) : E .tw
  | yes : E .flt
  | one (t : E .tst) : E .flt
  | nil : E .arg
  | cons (a : E .val) (r : E .arg) : E .arg
  | star (a : E .val) (r : E .arg) : E .arg
  | seq (a : E .val) : E .itr
  | kys (a : E .val) : E .itr
  | lvky (i : Nat) : E .itr
  | vls (a : E .val) : E .itr
  | its (a : E .val) : E .itr
  | rng (a : E .val) : E .itr
  | zip (a b : E .val) : E .itr
  | enu (a : E .val) : E .itr
  | pno : E .prt
  | pso (a : E .val) : E .prt
  | rnil : E .prs
  | rcons (k v : E .val) (r : E .prs) : E .prs
  | done : E .blk
  | dead : E .blk
  | set (i : Nat) (c : E .sl) (r : E .blk) : E .blk
  | cnil : E .cel
  | ccons (i : Nat) (c : E .sl) (r : E .cel) : E .cel
  | par (l : E .cel) (r : E .blk) : E .blk
  | asg (t : Tg) (a : E .val) (r : E .blk) : E .blk
  | ret (a : E .val) (r : E .blk) : E .blk
  | ifs (c : E .tst) (u w r : E .blk) : E .blk
  | exp (a : E .val) (r : E .blk) : E .blk
  | app (i : Nat) (a : E .val) (r : E .blk) : E .blk
  | ext (i : Nat) (a : E .val) (r : E .blk) : E .blk
  | frz (i : Nat) (r : E .blk) : E .blk
  | frn (i : Nat) (r : E .blk) : E .blk
  | sda (i : Nat) (k x : E .val) (r : E .blk) : E .blk
  | dput (i : Nat) (k v : E .val) (r : E .blk) : E .blk
  | lset (i : Nat) (k v : E .val) (r : E .blk) : E .blk
  | aug (i : Nat) (o : A2) (a : E .val) (r : E .blk) : E .blk
  | whl (n : Nat) (c : E .tst) (b r : E .blk) : E .blk
  | fori (t : Tg) (it : E .itr) (b r : E .blk) : E .blk
  | rse (c : Nat) (a : E .val) (r : E .blk) : E .blk
  | tret (a : E .val) : E .tbd
  | tapp (i : Nat) (a : E .val) : E .tbd
  | tset (i : Nat) (a : E .val) : E .tbd
  | tif (c : E .tst) (u w : E .tbd) : E .tbd
  | try_ (b : E .tbd) (hs : List HD) (r : E .blk) : E .blk
  | popa (i : Nat) (t : Tg) (r : E .blk) : E .blk
  | setl (i : Nat) (o : Bool) (t : Tg) (it : E .itr) (f : E .flt) (e : E .val) (vs : List Nat) (r : E .blk) : E .blk

/-! what it reckons -/
def mBad {α : Type} (_ : SG → Res α) (_ : SG) : Res α := .bad
def mHear (hr : Res PyData → Res PyData) (m : SG → Res PyData) (sg : SG) : Res PyData := hr (m sg)
def mSlc (o : Bool) (m : SG → Res (List PyData)) (sg : SG) : Res Sl := (m sg).bind fun l => .ok (match o with | true => .o l | false => .v (.list l))
def ev (F : Nat → List PyData → Res PyData) (hr : Res PyData → Res PyData) : {k : Kd} → E k → SG → Res k.den
  | _, .un => fun _ => .bad
  | _, .drw i a => mDrw i (ev F hr a)
  | _, .lens i => mLenS i
  | _, .v i => mVar i
  | _, .vb i => mVarB i
  | _, .k d => fun _ => .ok d
  | _, .gc _ d => fun _ => .ok d
  | _, .ofn n => fun sg => (ev F hr n sg).bind fun l => .ok (.list l)
  | _, .bin o a b => m2 o.f (ev F hr a) (ev F hr b)
  | _, .cmp o a b => m2 o.f (ev F hr a) (ev F hr b)
  | _, .chn o o' a b c => m3 o.f o'.f (ev F hr a) (ev F hr b) (ev F hr c)
  | _, .rne a b => mRne (ev F hr a) (ev F hr b)
  | _, .not a => mNotV (ev F hr a)
  | _, .bo1 a => ev F hr a
  | _, .bo true a r => mAndV (ev F hr a) (ev F hr r)
  | _, .bo false a r => mOrV (ev F hr a) (ev F hr r)
  | _, .ite c a b => mIte (ev F hr c) (ev F hr a) (ev F hr b)
  | _, .call j n args => mCall n (F j) (ev F hr args)
  | _, .tup args => mTup (ev F hr args)
  | _, .ix a b => m2 ixP2 (ev F hr a) (ev F hr b)
  | _, .slc a lo hi => mSl (ev F hr a) (ev F hr lo) (ev F hr hi)
  | _, .bf f a => m1 f.f (ev F hr a)
  | _, .slcs a lo hi st => mSlS (ev F hr a) (ev F hr lo) (ev F hr hi) (ev F hr st)
  | _, .jn z a => m1 (joinP z) (ev F hr a)
  | _, .trg a => m1 rgT (ev F hr a)
  | _, .lvix i a => mLvIx i (ev F hr a)
  | _, .isi t a => m1 (isiP t) (ev F hr a)
  | _, .emp => fun _ => .ok (.dict [])
  | _, .bg f a => m1 f.f (ev F hr a)
  | _, .gdget _ tab a => m1 (dgetP tab) (ev F hr a)
  | _, .calls j n args => mCall n (F j) (ev F hr args)
  | _, .mm f args => mMM f (ev F hr args)
  | _, .get1 a k => mGet1 (ev F hr a) (ev F hr k)
  | _, .get2 a k x => mGet2 (ev F hr a) (ev F hr k) (ev F hr x)
  | _, .dcv t it f k v vs => mDc t (ev F hr it) (ev F hr f) (ev F hr k) (ev F hr v) vs
  | _, .uq t it k vs => mUq2 t (ev F hr it) (ev F hr k) vs
  | _, .gdin _ tab a => m1 (dinP tab) (ev F hr a)
  | _, .gdix _ tab a => m1 (dixP tab) (ev F hr a)
  | _, .dget ps a => mDget (ev F hr ps) (ev F hr a)
  | _, .hrd e => mHear hr (ev F hr e)
  | _, .isx i _ bs => mIsx i bs
  | _, .isnx i => mIsnx i
  | _, .fldx i cs => mFldx i cs
  | _, .lst args => mFew (ev F hr args)
  | _, .addn a b => mAddL (ev F hr a) (ev F hr b)
  | _, .lc t it f e vs => mLcN t (ev F hr it) (ev F hr f) (ev F hr e) vs
  | _, .lc2 t it f t2 it2 f2 e vs us => mLc2 t (ev F hr it) (ev F hr f) (ev F hr it2) t2 (ev F hr f2) (ev F hr e) vs us
  | _, .lsn a => m1L lstL (ev F hr a)
  | _, .rgn a => m1L rgL (ev F hr a)
  | _, .cv a => mV (ev F hr a)
  | _, .cn n => mO (ev F hr n)
  | _, .cd => mDn
  | _, .cdn => mLn
  | _, .tr a => mTru (ev F hr a)
  | _, .tcmp o a b => mT (m2 o.f (ev F hr a) (ev F hr b))
  | _, .tchn o o' a b c => mT (m3 o.f o'.f (ev F hr a) (ev F hr b) (ev F hr c))
  | _, .tisn i => mT (mIsnx i)
  | _, .tlvin i a => mT (mLvIn i (ev F hr a))
  | _, .trne a b => mT (mRne (ev F hr a) (ev F hr b))
  | _, .tgdin _ tab a => mT (m1 (dinP tab) (ev F hr a))
  | _, .tnot a => mNot (ev F hr a)
  | _, .tite c a b => mIteT (ev F hr c) (ev F hr a) (ev F hr b)
  | _, .tbo w => ev F hr (k := .tw) w
  | _, .w1 a => ev F hr (k := .tst) a
  | _, .wc true a r => mAndT (ev F hr a) (ev F hr r)
  | _, .wc false a r => mOrT (ev F hr a) (ev F hr r)
  | _, .yes => fun _ => .ok true
  | _, .one t => ev F hr (k := .tst) t
  | _, .nil => mNil
  | _, .cons a r => mCons (ev F hr a) (ev F hr r)
  | _, .star a r => mStar (ev F hr a) (ev F hr r)
  | _, .seq a => mSeq (ev F hr a)
  | _, .kys a => mDct kysL (ev F hr a)
  | _, .lvky i => mLvKy i
  | _, .vls a => mDct vlsL (ev F hr a)
  | _, .its a => mDct itsL (ev F hr a)
  | _, .rng a => mRng (ev F hr a)
  | _, .zip a b => mZip (ev F hr a) (ev F hr b)
  | _, .enu a => mEnum (ev F hr a)
  | _, .pno => mNo
  | _, .pso a => mPart (ev F hr a)
  | _, .rnil => mPnil
  | _, .rcons k v r => mPcons (ev F hr k) (ev F hr v) (ev F hr r)
  | _, .done => mNext
  | _, .dead => fun _ => .bad
  | _, .set i c r => mThen (mPut i (ev F hr c)) (ev F hr r)
  | _, .cnil => mCnil
  | _, .ccons i c r => mCcons i (ev F hr c) (ev F hr r)
  | _, .par l r => mThen (mPars (ev F hr (k := .cel) l)) (ev F hr r)
  | _, .asg t a r => mThen (mAsg t (ev F hr a)) (ev F hr r)
  | _, .ret a r => mThen (mRet (ev F hr a)) (ev F hr r)
  | _, .ifs c u w r => mThen (mIfS (ev F hr c) (ev F hr u) (ev F hr w)) (ev F hr r)
  | _, .exp a r => mThen (mDo (ev F hr a)) (ev F hr r)
  | _, .app i a r => mThen (mApp i (ev F hr a)) (ev F hr r)
  | _, .ext i a r => mThen (mExt i (ev F hr a)) (ev F hr r)
  | _, .frz i r => fun sg => ev F hr r (frzL i sg)
  | _, .frn i r => fun sg => ev F hr r (frnL i sg)
  | _, .sda i k x r => mThen (mSda i (ev F hr k) (ev F hr x)) (ev F hr r)
  | _, .dput i k v r => mThen (mDput i (ev F hr k) (ev F hr v)) (ev F hr r)
  | _, .lset i k v r => mThen (mLset i (ev F hr k) (ev F hr v)) (ev F hr r)
  | _, .aug i o a r => mThen (mAug i o.f (ev F hr a)) (ev F hr r)
  | _, .whl n c b r => mThen (whGo (ev F hr c) (ev F hr b) n) (ev F hr r)
  | _, .fori t it b r => mThen (mFor t (ev F hr it) (ev F hr b)) (ev F hr r)
  | _, .rse c a r => mThen (mRaise c (ev F hr a)) (ev F hr r)
  | _, .tret a => mRet (ev F hr a)
  | _, .tapp i a => mApp i (ev F hr a)
  | _, .tset i a => mPutV i (ev F hr a)
  | _, .tif c u w => mIfS (ev F hr c) (ev F hr (k := .tbd) u) (ev F hr (k := .tbd) w)
  | _, .try_ b hs r => mThen (mTry (ev F hr (k := .tbd) b) hs) (ev F hr r)
  | _, .popa i t r => mThen (mPopA i t) (ev F hr r)
  | _, .setl i o t it f e vs r => mThen (mPut i (mSlc o (mLcN t (ev F hr it) (ev F hr f) (ev F hr e) vs))) (ev F hr r)

/-! its likeness to the text -/
structure GS where
  fns : List (Str × Nat × Bool)
  cons : List (Str × PyData)
  dcts : List (Str × List (Str × PyData))
  clss : List (Str × List Bool × Str)
  hear : Str
  draw : Option Str
structure SE where
  N : List Str
  sc : Scope
  wr : List (Str × NameKind)
  fl : Bool
  gd : Bool
  lam : Bool
def isFun : ScopeKind → Bool
  | .function => true
  | _ => false
def kindEq : NameKind → NameKind → Bool
  | .local, .local => true
  | .cell, .cell => true
  | .free, .free => true
  | .globalExplicit, .globalExplicit => true
  | .globalImplicit, .globalImplicit => true
  | _, _ => false
def nkIs (l : List (Str × NameKind)) (x : Str) (k : NameKind) : Bool := match nk l x with | some k' => kindEq k' k | none => false
def memS : Str → List Str → Bool
  | _, [] => false
  | x, y :: l => match strEq x y with | true => true | false => memS x l
def capK : Option NameKind → Bool
  | some .cell => true
  | some .free => true
  | _ => false
def ownK : NameKind → Bool
  | .local => true
  | .cell => true
  | _ => false
def freeK : NameKind → Bool
  | .free => true
  | _ => false
def blkB (N : List Str) (sc scope : Scope) (own : List (Str × Nat)) : Bool :=
  isFun scope.kind && scope.names.all (fun y => nkIs scope.names y.1 y.2) && own.all (fun p => nthS N p.2 p.1) && scope.names.all (fun y => !freeK y.2 || capK (nk sc.names y.1)) &&
    scope.names.all (fun y => !ownK y.2 || memS y.1 (own.map (·.1)) || !memS y.1 N)
def ixS : List Str → Str → Nat → Option Nat
  | [], _, _ => none
  | y :: l, x, i => match strEq y x with | true => some i | false => ixS l x (i + 1)
def ownOf (N : List Str) : List (Str × NameKind) → List (Str × Nat)
  | [] => []
  | y :: l => match ownK y.2 with
    | true => (match ixS N y.1 0 with | some i => (y.1, i) :: ownOf N l | none => ownOf N l)
    | false => ownOf N l
def SE.blk (S : SE) (scope : Scope) : SE := ⟨S.N, relS scope S.sc, scope.names, false, S.gd, false⟩
def SE.lm (S : SE) (scope : Scope) : SE := ⟨S.N, scope, [], false, S.gd, false⟩
def ckTg (S : SE) : Tg → Expr → Bool
  | .one i, x => (match x with | .Name y _ => nthS S.N i y && locK (nk S.wr y) | _ => false)
  | .many l, x => (match x with | .Tuple es _ _ => ckTgs S l es | _ => false)
where ckTgs (S : SE) : List Nat → List Expr → Bool
  | [], es => (match es with | [] => true | _ => false)
  | i :: l, es => (match es with | .Name y _ :: es => nthS S.N i y && locK (nk S.wr y) && ckTgs S l es | _ => false)
def gl (S : SE) (x : Str) : Bool := glK (nk S.sc.names x)
def litB : PyData → Const → Bool
  | .none, .none => true
  | .bool a, .bool b => (match a with | true => b | false => !b)
  | .int i, .int j => eqB i j
  | .str a, .str b => strEq a b
  | _, _ => false
def negB : PyData → Const → Bool
  | .int i, .int j => eqB i (-j)
  | _, _ => false
def celIx : {k : Kd} → E k → List Nat
  | _, .ccons i _ r => i :: celIx r
  | _, _ => []
def nmsOk (S : SE) : List Nat → List Expr → Bool
  | [], ts => (match ts with | [] => true | _ => false)
  | i :: l, ts => (match ts with | .Name y _ :: ts => nthS S.N i y && locK (nk S.wr y) && nmsOk S l ts | _ => false)
def parA (S : SE) (ts vs : List Expr) : Bool := !(ts.all (isNm S.sc.names)) || !(ts.length == 2 || ts.length == 3) || vs.all (foldedForSure 8)
def parB (S : SE) (is : List Nat) (ts vs : List Expr) : Bool := match is, ts, vs with
  | [i, j], [.Name y py, .Name z pz], [u, w] => isLoc (nk S.sc.names y) && isLoc (nk S.sc.names z) && (pz.line == py.line) && !(strEq y z) && notStar u && notStar w && !(foldedForSure 8 u && foldedForSure 8 w) && !(constantsAlone 8 u && constantsAlone 8 w) && !(Nat.beq i j)
  | [i, j, l], [.Name y py, .Name z pz, .Name q pq], [u, w, o] => isLoc (nk S.sc.names y) && isLoc (nk S.sc.names z) && isLoc (nk S.sc.names q) && (pz.line == py.line) && (pq.line == py.line) && !(strEq y z) && !(strEq y q) && !(strEq z q) && notStar u && notStar w && notStar o &&
      !(foldedForSure 8 u && foldedForSure 8 w && foldedForSure 8 o) && !(constantsAlone 8 u && constantsAlone 8 w && constantsAlone 8 o) && !(Nat.beq i j) && !(Nat.beq i l) && !(Nat.beq j l)
  | _, _, _ => false
def tyIs (t : Ty) (z : Str) : Bool := strEq t.nm z
def isAndB : Bool → BoolOp → Bool
  | true, .And => true
  | false, .Or => true
  | _, _ => false
def tabIs (G : GS) (j : Nat) (y : Str) (tab : List (Str × PyData)) : Bool := match nthP G.dcts j y with | some t => tabsEq t tab | none => false
where tabsEq : List (Str × PyData) → List (Str × PyData) → Bool
  | [], l => (match l with | [] => true | _ => false)
  | p :: r, l => (match l with | q :: l => strEq p.1 q.1 && same p.2 q.2 && tabsEq r l | [] => false)
def boolsEq : List Bool → List Bool → Bool
  | [], l => (match l with | [] => true | _ => false)
  | b :: r, l => (match l with | c :: l => (match b with | true => c | false => !c) && boolsEq r l | [] => false)
def fldIs (G : GS) (f : Str) : List Nat → Bool
  | [] => true
  | c :: cs => (match nth1 G.clss c with | some q => strEq q.2.2 f | none => false) && fldIs G f cs
where nth1 : List (Str × List Bool × Str) → Nat → Option (Str × List Bool × Str)
  | [], _ => none
  | p :: l, i => match i with | 0 => some p | i + 1 => nth1 l i
def isLc : NameKind → Bool
  | .local => true
  | _ => false
/-- a lambda that takes names of ours; its own are none of ours -/
def lamB (N : List Str) (sc scope : Scope) : Bool := isFun scope.kind && !scope.isCoroutine && !scope.isGenerator && scope.names.all (fun y => !ownK y.2 || (isLc y.2 && !memS y.1 N)) && scope.names.all (fun y => !freeK y.2 || capK (nk sc.names y.1))
def parNone (p : Arguments) : Bool := p.posonlyargs.isEmpty && p.args.isEmpty && p.vararg.isNone && p.kwonlyargs.isEmpty && p.kw_defaults.isEmpty && p.kwarg.isNone && p.defaults.isEmpty
def isIntE : Expr → Bool
  | .Constant (.int _) _ _ => true
  | _ => false
def par1 (scope : Scope) (p : Arguments) : Bool := p.posonlyargs.isEmpty && p.vararg.isNone && p.kwonlyargs.isEmpty && p.kw_defaults.isEmpty && p.kwarg.isNone && (match p.args, p.defaults with
  | [ag], [e] => isIntE e && nkIs scope.names ag.arg .local
  | _, _ => false)
def parG (scope : Scope) (p : Arguments) : Bool := parNone p || par1 scope p
def chk.posEq (p q : Pos) : Bool := Nat.beq p.line q.line && Nat.beq p.col q.col && Nat.beq p.endLine q.endLine && Nat.beq p.endCol q.endCol
def chk.setOk (S : SE) (y : Str) (py _p : Pos) (e : Expr) : Bool := match e with
  | .ListComp _ _ _ lp => !(isLoc (nk S.sc.names y)) || !(py.line == lp.line)
  | .DictComp _ _ _ _ lp => !(isLoc (nk S.sc.names y)) || !(py.line == lp.line)
  | e => notComp e
def chk.asgOk (tg e : Expr) : Bool := match tg, e with
  | .Tuple ts _ _, .Tuple vs _ _ => !(ts.length == 2 || ts.length == 3) || vs.all (foldedForSure 8)
  | _, e => !(isTup e)
def chk.ownNm : List (Str × NameKind) → List Str
  | [] => []
  | y :: l => match ownK y.2 with | true => y.1 :: chk.ownNm l | false => chk.ownNm l
def drawIs (G : GS) (y : Str) : Bool := match G.draw with | some z => strEq z y | none => false
abbrev Ck (k : Kd) : Type := SE → Bool → k.obj → Bool
def ck_un (G : GS)  (_S : SE) (_b : Bool) (_x : Kd.obj .val) : Bool := true
def ck_drw (G : GS) (i : Nat) (a : Ck .val) (S : SE) (_b : Bool) (x : Kd.obj .val) : Bool := (match x with | .Call (.Name y _) [.Name z _, u] [] _ => drawIs G y && gl S y && nthS S.N i z && visK (nk S.sc.names z) && notStar u && a S false u | _ => false)
def ck_lens (_G : GS) (i : Nat) (S : SE) (_b : Bool) (x : Kd.obj .val) : Bool := (match x with | .Call (.Name f _) [.Name y _] [] _ => strEq f "len" && gl S "len" && nthS S.N i y && visK (nk S.sc.names y) | _ => false)
def ck_v (G : GS) (i : Nat) (S : SE) (_b : Bool) (x : Kd.obj .val) : Bool := (match x with | .Name y _ => nthS S.N i y && visK (nk S.sc.names y) | _ => false)
def ck_vb (G : GS) (i : Nat) (S : SE) (b : Bool) (x : Kd.obj .val) : Bool := b && (match x with | .Name y _ => nthS S.N i y && visK (nk S.sc.names y) | _ => false)
def ck_k (G : GS) (d : PyData) (_S : SE) (_b : Bool) (x : Kd.obj .val) : Bool := (match x with | .Constant c _ _ => litB d c | .UnaryOp .USub (.Constant c _ _) _ => negB d c | _ => false)
def ck_gc (G : GS) (j : Nat) (d : PyData) (S : SE) (_b : Bool) (x : Kd.obj .val) : Bool := (match x with | .Name y _ => gl S y && (match nthP G.cons j y with | some d' => same d' d | none => false) | _ => false)
def ck_ofn (G : GS) (n : Ck .new) (S : SE) (b : Bool) (x : Kd.obj .val) : Bool := n S b x
def ck_bin (G : GS) (o : O2) (a : Ck .val) (c : Ck .val) (S : SE) (_b : Bool) (x : Kd.obj .val) : Bool := (match x with | .BinOp u op w _ => o.is op && a S true u && c S true w | _ => false)
def ck_cmp (G : GS) (o : Cp) (a : Ck .val) (c : Ck .val) (S : SE) (_b : Bool) (x : Kd.obj .val) : Bool := (match x with | .Compare u [op] [w] _ => o.is op && !(behindInMarks op w) && a S true u && c S true w | _ => false)
def ck_chn (G : GS) (o : Cp) (o' : Cp) (a : Ck .val) (c : Ck .val) (d : Ck .val) (S : SE) (_b : Bool) (x : Kd.obj .val) : Bool := (match x with | .Compare u [op, op'] [w, z] _ => o.is op && o'.is op' && !(lastMarks [op, op'] [w, z]) && a S true u && c S true w && d S true z | _ => false)
def ck_rne (G : GS) (a : Ck .val) (c : Ck .val) (S : SE) (_b : Bool) (x : Kd.obj .val) : Bool := (match x with | .Compare (.Call (.Name y _) [u] [] _) [.NotEq] [.Call (.Name y' _) [w] [] _] _ => S.gd && strEq y "repr" && strEq y' "repr" && gl S "repr" && notStar u && notStar w && a S true u && c S true w | _ => false)
def ck_not (G : GS) (a : Ck .val) (S : SE) (_b : Bool) (x : Kd.obj .val) : Bool := (match x with | .UnaryOp .Not u _ => a S true u | _ => false)
def ck_bo1 (G : GS) (a : Ck .val) (S : SE) (_b : Bool) (x : Kd.obj .val) : Bool := (match x with | .BoolOp _ [u] _ => a S false u | _ => false)
def ck_bo (G : GS) (i : Bool) (a : Ck .val) (r : Ck .val) (S : SE) (_b : Bool) (x : Kd.obj .val) : Bool := (match x with | .BoolOp op (u :: w :: us) p => isAndB i op && a S false u && r S false (.BoolOp op (w :: us) p) | _ => false)
def ck_ite (G : GS) (c : Ck .tst) (a : Ck .val) (d : Ck .val) (S : SE) (_b : Bool) (x : Kd.obj .val) : Bool := (match x with | .IfExp t u w _ => c S false t && a S false u && d S false w | _ => false)
def ck_call (G : GS) (j : Nat) (n : Nat) (args : Ck .arg) (S : SE) (_b : Bool) (x : Kd.obj .val) : Bool := (match x with | .Call (.Name y _) us [] _ => us.all notStar && gl S y && (match nthP G.fns j y with | some q => Nat.beq q.1 n && (!q.2 || S.gd) | none => false) && args S false us | _ => false)
def ck_tup (G : GS) (args : Ck .arg) (S : SE) (_b : Bool) (x : Kd.obj .val) : Bool := (match x with | .Tuple us _ _ => args S false us | _ => false)
def ck_ix (G : GS) (a : Ck .val) (c : Ck .val) (S : SE) (_b : Bool) (x : Kd.obj .val) : Bool := (match x with | .Subscript u w _ => notSlice w && a S true u && c S true w | _ => false)
def ck_slc (G : GS) (a : Ck .val) (lo : Ck .prt) (hi : Ck .prt) (S : SE) (_b : Bool) (x : Kd.obj .val) : Bool := (match x with | .Subscript u (.Slice l h none _) _ => a S true u && lo S false l && hi S false h | _ => false)
def ck_slcs (G : GS) (a : Ck .val) (lo : Ck .prt) (hi : Ck .prt) (st : Ck .prt) (S : SE) (_b : Bool) (x : Kd.obj .val) : Bool := (match x with | .Subscript u (.Slice l h (some w) _) _ => a S true u && lo S false l && hi S false h && st S false (some w) | _ => false)
def ck_jn (G : GS) (z : Str) (a : Ck .val) (S : SE) (_b : Bool) (x : Kd.obj .val) : Bool := (match x with | .Call (.Attribute (.Constant (.str y) _ _) m ap) [u] [] cp => strEq y z && strEq m "join" && notStar u && (ap.endLine == cp.line) && a S true u | _ => false)
def ck_trg (G : GS) (a : Ck .val) (S : SE) (_b : Bool) (x : Kd.obj .val) : Bool := (match x with | .Call (.Name y _) [.Call (.Name z _) [u] [] p] [] p' => strEq y "tuple" && gl S "tuple" && strEq z "range" && gl S "range" && notStar u && a S true u | _ => false)
def ck_lvix (G : GS) (i : Nat) (a : Ck .val) (S : SE) (_b : Bool) (x : Kd.obj .val) : Bool := (match x with | .Subscript (.Name y _) u _ => nthS S.N i y && visK (nk S.sc.names y) && notSlice u && a S false u | _ => false)
def ck_cdn (G : GS) (_S : SE) (_b : Bool) (x : Kd.obj .sl) : Bool := (match x with | .Dict [] [] _ => true | _ => false)
def ck_tlvin (G : GS) (i : Nat) (a : Ck .val) (S : SE) (_b : Bool) (x : Kd.obj .tst) : Bool := (match x with | .Compare u [.In] [.Name y p] _ => nthS S.N i y && visK (nk S.sc.names y) && !(behindInMarks .In (.Name y p)) && a S false u | _ => false)
def ck_lvky (G : GS) (i : Nat) (S : SE) (_b : Bool) (x : Kd.obj .itr) : Bool := (match x.2 with | .Name y _ => nthS S.N i y && visK (nk S.sc.names y) | _ => false)
def ck_bf (G : GS) (f : B1) (a : Ck .val) (S : SE) (_b : Bool) (x : Kd.obj .val) : Bool := (match x with | .Call (.Name y _) [u] [] _ => strEq y f.nm && gl S f.nm && notStar u && (match f with | .repr => S.gd | _ => true) && a S true u | _ => false)
def ck_isi (G : GS) (t : Ty) (a : Ck .val) (S : SE) (_b : Bool) (x : Kd.obj .val) : Bool := (match x with | .Call (.Name y _) [u, .Name z _] [] _ => strEq y "isinstance" && gl S "isinstance" && tyIs t z && gl S t.nm && notStar u && a S true u | _ => false)
def ck_emp (G : GS)  (_S : SE) (_b : Bool) (x : Kd.obj .val) : Bool := (match x with | .Dict [] [] _ => true | _ => false)
def ck_bg (G : GS) (f : B2) (a : Ck .val) (S : SE) (_b : Bool) (x : Kd.obj .val) : Bool := (match x with | .Call (.Name y _) [u] [] _ => strEq y f.nm && gl S f.nm && notStar u && a S true u | _ => false)
def ck_gdget (G : GS) (j : Nat) (tab : List (Str × PyData)) (a : Ck .val) (S : SE) (_b : Bool) (x : Kd.obj .val) : Bool := (match x with | .Call (.Attribute (.Name y _) m ap) [u] [] cp => strEq m "get" && gl S y && tabIs G j y tab && notStar u && (ap.endLine == cp.line) && a S false u | _ => false)
def ck_calls (G : GS) (j : Nat) (n : Nat) (args : Ck .arg) (S : SE) (_b : Bool) (x : Kd.obj .val) : Bool := (match x with | .Call (.Name y _) (u :: us) [] _ => notStar u && someStar us && gl S y && (match nthP G.fns j y with | some q => Nat.beq q.1 n && (!q.2 || S.gd) | none => false) && args S false (u :: us) | _ => false)
def ck_mm (G : GS) (f : MM) (args : Ck .arg) (S : SE) (_b : Bool) (x : Kd.obj .val) : Bool := (match x with | .Call (.Name y _) (u :: us) [] _ => strEq y f.nm && gl S f.nm && notStar u && us.all notStar && args S false (u :: us) | _ => false)
def ck_get1 (G : GS) (a : Ck .val) (k : Ck .val) (S : SE) (_b : Bool) (x : Kd.obj .val) : Bool := (match x with | .Call (.Attribute (.Name y py) m ap) [u] [] cp => strEq m "get" && notStar u && (ap.endLine == cp.line) && a S true (.Name y py) && k S false u | _ => false)
def ck_get2 (G : GS) (a : Ck .val) (k : Ck .val) (z : Ck .val) (S : SE) (_b : Bool) (x : Kd.obj .val) : Bool := (match x with | .Call (.Attribute (.Name y py) m ap) [u, w] [] cp => strEq m "get" && notStar u && notStar w && (ap.endLine == cp.line) && a S true (.Name y py) && k S false u && z S false w | _ => false)
def ck_dcv (G : GS) (t : Tg) (it : Ck .itr) (f : Ck .flt) (k : Ck .val) (v : Ck .val) (vs : List Nat) (S : SE) (_b : Bool) (x : Kd.obj .val) : Bool := (match x with
    | .DictComp kx vx [⟨tg, iter, ifs, 0⟩] scope _ => blkB S.N S.sc scope (ownOf S.N scope.names) && natsEq ((ownOf S.N scope.names).map (·.2)) vs && subNats t.ix vs && notSet iter && ckTg (S.blk scope) t tg && it S true (tg, iter) && f (S.blk scope) false ifs && k (S.blk scope) false kx && v (S.blk scope) false vx
    | _ => false)
def ck_uq (G : GS) (t : Tg) (it : Ck .itr) (k : Ck .val) (vs : List Nat) (S : SE) (_b : Bool) (x : Kd.obj .val) : Bool := (match x with
    | .Call (.Name y _) [.DictComp kx (.Constant (.bool true) _ _) [⟨tg, iter, [], 0⟩] scope _] [] _ => strEq y "len" && gl S "len" && blkB S.N S.sc scope (ownOf S.N scope.names) && natsEq ((ownOf S.N scope.names).map (·.2)) vs && subNats t.ix vs && notSet iter &&
        ckTg (S.blk scope) t tg && it S true (tg, iter) && k (S.blk scope) false kx
    | _ => false)
def ck_gdin (G : GS) (j : Nat) (tab : List (Str × PyData)) (a : Ck .val) (S : SE) (_b : Bool) (x : Kd.obj .val) : Bool := (match x with | .Compare u [.In] [.Name y _] _ => gl S y && tabIs G j y tab && a S true u | _ => false)
def ck_gdix (G : GS) (j : Nat) (tab : List (Str × PyData)) (a : Ck .val) (S : SE) (_b : Bool) (x : Kd.obj .val) : Bool := (match x with | .Subscript (.Name y _) u _ => gl S y && tabIs G j y tab && notSlice u && a S true u | _ => false)
def ck_dget (G : GS) (ps : Ck .prs) (a : Ck .val) (S : SE) (_b : Bool) (x : Kd.obj .val) : Bool := (match x with | .Call (.Attribute (.Dict ks vs _) y ap) [u] [] cp => strEq y "get" && notStar u && (ap.endLine == cp.line) && Nat.ble ks.length 15 && !ks.isEmpty && ps S false (ks, vs) && a S false u | _ => false)
def ck_hrd (G : GS) (e : Ck .val) (S : SE) (_b : Bool) (x : Kd.obj .val) : Bool := (match x with | .Call (.Name y _) [.Lambda ps body scope _] [] _ => strEq y G.hear && gl S G.hear && S.lam && parG scope ps && lamB S.N S.sc scope && e (S.lm scope) false body | _ => false)
def ck_isx (G : GS) (i : Nat) (j : Nat) (bs : List Bool) (S : SE) (_b : Bool) (x : Kd.obj .val) : Bool := (match x with | .Call (.Name f _) [.Name y _, .Name z _] [] _ => strEq f "isinstance" && gl S "isinstance" && nthS S.N i y && visK (nk S.sc.names y) && gl S z && (match nthP G.clss j z with | some q => boolsEq q.1 bs | none => false) | _ => false)
def ck_isnx (G : GS) (i : Nat) (S : SE) (_b : Bool) (x : Kd.obj .val) : Bool := (match x with | .Compare (.Name y _) [.Is] [.Constant .none _ _] _ => nthS S.N i y && visK (nk S.sc.names y) | _ => false)
def ck_fldx (G : GS) (i : Nat) (cs : List Nat) (S : SE) (_b : Bool) (x : Kd.obj .val) : Bool := (match x with | .Attribute (.Name y _) f _ => nthS S.N i y && visK (nk S.sc.names y) && fldIs G f cs | _ => false)
def ck_lst (G : GS) (args : Ck .arg) (S : SE) (_b : Bool) (x : Kd.obj .new) : Bool := (match x with | .List us _ => args S false us | _ => false)
def ck_addn (G : GS) (a : Ck .val) (c : Ck .val) (S : SE) (_b : Bool) (x : Kd.obj .new) : Bool := (match x with | .BinOp u .Add w _ => a S true u && c S true w | _ => false)
def ck_lc (G : GS) (t : Tg) (it : Ck .itr) (f : Ck .flt) (e : Ck .val) (vs : List Nat) (S : SE) (_b : Bool) (x : Kd.obj .new) : Bool := (match x with
    | .ListComp elt [⟨tg, iter, ifs, 0⟩] scope _ => blkB S.N S.sc scope (ownOf S.N scope.names) && natsEq ((ownOf S.N scope.names).map (·.2)) vs && subNats t.ix vs && notSet iter && ckTg (S.blk scope) t tg && it S true (tg, iter) && f (S.blk scope) false ifs && e (S.blk scope) false elt
    | _ => false)
def ck_lc2 (G : GS) (t : Tg) (it : Ck .itr) (f : Ck .flt) (t2 : Tg) (it2 : Ck .itr) (f2 : Ck .flt) (e : Ck .val) (vs : List Nat) (us : List Nat) (S : SE) (_b : Bool) (x : Kd.obj .new) : Bool := (match x with
    | .ListComp elt [⟨tg, iter, ifs, 0⟩, ⟨tg1, iter1, ifs1, 0⟩] scope _ => blkB S.N S.sc scope (ownOf S.N scope.names) && natsEq ((ownOf S.N scope.names).map (·.2)) vs && subNats t.ix vs && subNats t2.ix us && subNats us vs && notSet iter && notSet iter1 &&
        ckTg (S.blk scope) t tg && ckTg (S.blk scope) t2 tg1 && it S true (tg, iter) && f (S.blk scope) false ifs && it2 (S.blk scope) false (tg1, iter1) && f2 (S.blk scope) false ifs1 && e (S.blk scope) false elt
    | _ => false)
def ck_lsn (G : GS) (a : Ck .val) (S : SE) (_b : Bool) (x : Kd.obj .new) : Bool := (match x with | .Call (.Name y _) [u] [] _ => strEq y "list" && gl S "list" && notStar u && a S true u | _ => false)
def ck_rgn (G : GS) (a : Ck .val) (S : SE) (_b : Bool) (x : Kd.obj .new) : Bool := (match x with | .Call (.Name y _) [.Call (.Name z _) [u] [] p] [] p' => strEq y "list" && gl S "list" && strEq z "range" && gl S "range" && notStar u && a S true u | _ => false)
def ck_cv (G : GS) (a : Ck .val) (S : SE) (_b : Bool) (x : Kd.obj .sl) : Bool := a S false x
def ck_cn (G : GS) (n : Ck .new) (S : SE) (_b : Bool) (x : Kd.obj .sl) : Bool := n S false x
def ck_cd (G : GS)  (_S : SE) (_b : Bool) (x : Kd.obj .sl) : Bool := (match x with | .Dict [] [] _ => true | _ => false)
def ck_tr (G : GS) (a : Ck .val) (S : SE) (_b : Bool) (x : Kd.obj .tst) : Bool := plainT x && a S true x
def ck_tcmp (G : GS) (o : Cp) (a : Ck .val) (c : Ck .val) (S : SE) (_b : Bool) (x : Kd.obj .tst) : Bool := (match x with | .Compare u [op] [w] _ => o.is op && !(behindInMarks op w) && a S true u && c S true w | _ => false)
def ck_tchn (G : GS) (o : Cp) (o' : Cp) (a : Ck .val) (c : Ck .val) (d : Ck .val) (S : SE) (_b : Bool) (x : Kd.obj .tst) : Bool := (match x with | .Compare u [op, op'] [w, z] _ => o.is op && o'.is op' && !(lastMarks [op, op'] [w, z]) && a S true u && c S true w && d S true z | _ => false)
def ck_tisn (G : GS) (i : Nat) (S : SE) (_b : Bool) (x : Kd.obj .tst) : Bool := (match x with | .Compare (.Name y _) [.Is] [.Constant .none _ _] _ => nthS S.N i y && visK (nk S.sc.names y) | _ => false)
def ck_trne (G : GS) (a : Ck .val) (c : Ck .val) (S : SE) (_b : Bool) (x : Kd.obj .tst) : Bool := (match x with | .Compare (.Call (.Name y _) [u] [] _) [.NotEq] [.Call (.Name y' _) [w] [] _] _ => S.gd && strEq y "repr" && strEq y' "repr" && gl S "repr" && notStar u && notStar w && a S true u && c S true w | _ => false)
def ck_tgdin (G : GS) (j : Nat) (tab : List (Str × PyData)) (a : Ck .val) (S : SE) (_b : Bool) (x : Kd.obj .tst) : Bool := (match x with | .Compare u [.In] [.Name y _] _ => gl S y && tabIs G j y tab && a S true u | _ => false)
def ck_tite (G : GS) (c : Ck .tst) (a : Ck .tst) (d : Ck .tst) (S : SE) (_b : Bool) (x : Kd.obj .tst) : Bool := (match x with | .IfExp t u w _ => c S false t && a S false u && d S false w | _ => false)
def ck_tnot (G : GS) (a : Ck .tst) (S : SE) (_b : Bool) (x : Kd.obj .tst) : Bool := (match x with | .UnaryOp .Not u _ => a S false u | _ => false)
def ck_tbo (G : GS) (w : Ck .tw) (S : SE) (_b : Bool) (x : Kd.obj .tst) : Bool := w S false x
def ck_w1 (G : GS) (a : Ck .tst) (S : SE) (_b : Bool) (x : Kd.obj .tw) : Bool := (match x with | .BoolOp _ [u] _ => a S false u | _ => false)
def ck_wc (G : GS) (i : Bool) (a : Ck .tst) (r : Ck .tw) (S : SE) (_b : Bool) (x : Kd.obj .tw) : Bool := (match x with | .BoolOp op (u :: w :: us) p => isAndB i op && a S false u && r S false (.BoolOp op (w :: us) p) | _ => false)
def ck_yes (G : GS)  (_S : SE) (_b : Bool) (x : Kd.obj .flt) : Bool := (match x with | [] => true | _ => false)
def ck_one (G : GS) (t : Ck .tst) (S : SE) (_b : Bool) (x : Kd.obj .flt) : Bool := (match x with | [u] => t S false u | _ => false)
def ck_nil (G : GS)  (_S : SE) (_b : Bool) (x : Kd.obj .arg) : Bool := (match x with | [] => true | _ => false)
def ck_cons (G : GS) (a : Ck .val) (r : Ck .arg) (S : SE) (_b : Bool) (x : Kd.obj .arg) : Bool := (match x with | u :: us => notStar u && a S false u && r S false us | _ => false)
def ck_star (G : GS) (a : Ck .val) (r : Ck .arg) (S : SE) (_b : Bool) (x : Kd.obj .arg) : Bool := (match x with | .Starred u _ :: us => a S true u && r S false us | _ => false)
def ck_seq (G : GS) (a : Ck .val) (S : SE) (b : Bool) (x : Kd.obj .itr) : Bool := a S b x.2
def ck_kys (G : GS) (a : Ck .val) (S : SE) (_b : Bool) (x : Kd.obj .itr) : Bool := a S false x.2
def ck_vls (G : GS) (a : Ck .val) (S : SE) (_b : Bool) (x : Kd.obj .itr) : Bool := (match x.2 with | .Call (.Attribute u m ap) [] [] cp => strEq m "values" && (ap.endLine == cp.line) && notBare u && a S false u | _ => false)
def ck_its (G : GS) (a : Ck .val) (S : SE) (_b : Bool) (x : Kd.obj .itr) : Bool := (match x.1, x.2 with | .Tuple _ _ _, .Call (.Attribute u m ap) [] [] cp => strEq m "items" && (ap.endLine == cp.line) && notBare u && a S false u | _, _ => false)
def ck_rng (G : GS) (a : Ck .val) (S : SE) (_b : Bool) (x : Kd.obj .itr) : Bool := (match x.2 with | .Call (.Name y _) [u] [] _ => strEq y "range" && gl S "range" && notStar u && a S false u | _ => false)
def ck_zip (G : GS) (a : Ck .val) (c : Ck .val) (S : SE) (b : Bool) (x : Kd.obj .itr) : Bool := (match x.1, x.2 with | .Tuple _ _ _, .Call (.Name y _) [u, w] [] _ => strEq y "zip" && gl S "zip" && notStar u && notStar w && a S b u && c S b w | _, _ => false)
def ck_enu (G : GS) (a : Ck .val) (S : SE) (b : Bool) (x : Kd.obj .itr) : Bool := (match x.1, x.2 with | .Tuple _ _ _, .Call (.Name y _) [u] [] _ => strEq y "enumerate" && gl S "enumerate" && notStar u && a S b u | _, _ => false)
def ck_pno (G : GS)  (_S : SE) (_b : Bool) (x : Kd.obj .prt) : Bool := (match x with | none => true | _ => false)
def ck_pso (G : GS) (a : Ck .val) (S : SE) (_b : Bool) (x : Kd.obj .prt) : Bool := (match x with | some u => a S false u | _ => false)
def ck_rnil (G : GS)  (_S : SE) (_b : Bool) (x : Kd.obj .prs) : Bool := (match x with | ([], []) => true | _ => false)
def ck_rcons (G : GS) (k : Ck .val) (v : Ck .val) (r : Ck .prs) (S : SE) (_b : Bool) (x : Kd.obj .prs) : Bool := (match x with | (some u :: us, w :: ws) => k S false u && v S false w && r S false (us, ws) | _ => false)
def ck_done (G : GS)  (_S : SE) (_b : Bool) (x : Kd.obj .blk) : Bool := (match x with | [] => true | _ => false)
def ck_dead (G : GS)  (_S : SE) (_b : Bool) (_x : Kd.obj .blk) : Bool := true
def ck_set (G : GS) (i : Nat) (c : Ck .sl) (r : Ck .blk) (S : SE) (_b : Bool) (x : Kd.obj .blk) : Bool := (match x with | .Assign [.Name y py] e p :: xs => nthS S.N i y && locK (nk S.wr y) && chk.setOk S y py p e && c S false e && r S false xs | _ => false)
def ck_cnil (G : GS)  (_S : SE) (_b : Bool) (x : Kd.obj .cel) : Bool := (match x with | [] => true | _ => false)
def ck_ccons (G : GS) (_i : Nat) (c : Ck .sl) (r : Ck .cel) (S : SE) (_b : Bool) (x : Kd.obj .cel) : Bool := (match x with | u :: us => notStar u && c S false u && r S false us | _ => false)
def ck_par (G : GS) (l : Ck .cel) (r : Ck .blk) (cix : List Nat) (S : SE) (_b : Bool) (x : Kd.obj .blk) : Bool := (match x with | .Assign [.Tuple ts _ _] (.Tuple vs _ _) _ :: xs => nmsOk S (cix) ts && (parA S ts vs || parB S (cix) ts vs) && Nat.ble vs.length 1000 && l S false vs && r S false xs | _ => false)
def ck_asg (G : GS) (t : Tg) (a : Ck .val) (r : Ck .blk) (S : SE) (_b : Bool) (x : Kd.obj .blk) : Bool := (match x with | .Assign [tg] e p :: xs => notComp e && notStar tg && chk.asgOk tg e && ckTg S t tg && a S false e && r S false xs | _ => false)
def ck_ret (G : GS) (a : Ck .val) (r : Ck .blk) (S : SE) (_b : Bool) (x : Kd.obj .blk) : Bool := (match x with | .Return (some e) _ :: xs => a S false e && r S false xs | _ => false)
def ck_ifs (G : GS) (c : Ck .tst) (u : Ck .blk) (w : Ck .blk) (r : Ck .blk) (S : SE) (_b : Bool) (x : Kd.obj .blk) : Bool := (match x with | .If e us ws _ :: xs => c S false e && u S false us && w S false ws && r S false xs | _ => false)
def ck_exp (G : GS) (a : Ck .val) (r : Ck .blk) (S : SE) (_b : Bool) (x : Kd.obj .blk) : Bool := (match x with | .Expr e _ :: xs => notComp e && a S false e && r S false xs | _ => false)
def ck_app (G : GS) (i : Nat) (a : Ck .val) (r : Ck .blk) (S : SE) (_b : Bool) (x : Kd.obj .blk) : Bool := (match x with | .Expr (.Call (.Attribute (.Name y _) m ap) [u] [] cp) _ :: xs => strEq m "append" && nthS S.N i y && visK (nk S.sc.names y) && notStar u && (ap.endLine == cp.line) && a S false u && r S false xs | _ => false)
def ck_ext (G : GS) (i : Nat) (a : Ck .val) (r : Ck .blk) (S : SE) (_b : Bool) (x : Kd.obj .blk) : Bool := (match x with | .Expr (.Call (.Attribute (.Name y _) m ap) [u] [] cp) _ :: xs => strEq m "extend" && nthS S.N i y && visK (nk S.sc.names y) && notStar u && (ap.endLine == cp.line) && a S false u && r S false xs | _ => false)
def ck_frz (G : GS) (_i : Nat) (r : Ck .blk) (S : SE) (_b : Bool) (x : Kd.obj .blk) : Bool := r S false x
def ck_frn (G : GS) (_i : Nat) (r : Ck .blk) (S : SE) (_b : Bool) (x : Kd.obj .blk) : Bool := r S false x
def ck_sda (G : GS) (i : Nat) (k : Ck .val) (v : Ck .val) (r : Ck .blk) (S : SE) (_b : Bool) (x : Kd.obj .blk) : Bool := (match x with
    | .Expr (.Call (.Attribute (.Call (.Attribute (.Name y _) m2 dp) [u, .List [] _] [] p3) m ap) [w] [] cp) _ :: xs => strEq m2 "setdefault" && strEq m "append" && nthS S.N i y && visK (nk S.sc.names y) && notStar u && notStar w && (dp.endLine == p3.line) && (ap.endLine == cp.line) && k S false u && v S false w && r S false xs
    | _ => false)
def ck_dput (G : GS) (i : Nat) (k : Ck .val) (v : Ck .val) (r : Ck .blk) (S : SE) (_b : Bool) (x : Kd.obj .blk) : Bool := (match x with | .Assign [.Subscript (.Name y _) u _] e _ :: xs => nthS S.N i y && visK (nk S.sc.names y) && notComp e && k S false u && v S false e && r S false xs | _ => false)
def ck_lset (G : GS) (i : Nat) (k : Ck .val) (v : Ck .val) (r : Ck .blk) (S : SE) (_b : Bool) (x : Kd.obj .blk) : Bool := (match x with | .Assign [.Subscript (.Name y _) u _] e _ :: xs => nthS S.N i y && visK (nk S.sc.names y) && notComp e && notSlice u && k S false u && v S false e && r S false xs | _ => false)
def ck_aug (G : GS) (i : Nat) (o : A2) (a : Ck .val) (r : Ck .blk) (S : SE) (_b : Bool) (x : Kd.obj .blk) : Bool := (match x with | .AugAssign (.Name y _) op e _ :: xs => nthS S.N i y && locK (nk S.wr y) && o.is op && a S false e && r S false xs | _ => false)
def ck_whl (G : GS) (_n : Nat) (c : Ck .tst) (b : Ck .blk) (r : Ck .blk) (S : SE) (_b : Bool) (x : Kd.obj .blk) : Bool := (match x with | .While e us [] _ :: xs => c S false e && b S false us && r S false xs | _ => false)
def ck_fori (G : GS) (t : Tg) (it : Ck .itr) (b : Ck .blk) (r : Ck .blk) (S : SE) (_b : Bool) (x : Kd.obj .blk) : Bool := (match x with | .For tg iter us [] _ :: xs => notSet iter && ckTg S t tg && it S false (tg, iter) && b S false us && r S false xs | _ => false)
def ck_rse (G : GS) (c : Nat) (a : Ck .val) (r : Ck .blk) (S : SE) (_b : Bool) (x : Kd.obj .blk) : Bool := (match x with | .Raise (some (.Call (.Name y _) [u] [] _)) none _ :: xs => gl S y && (nthP G.clss c y).isSome && notStar u && a S false u && r S false xs | _ => false)
def ck_tret (G : GS) (a : Ck .val) (S : SE) (_b : Bool) (x : Kd.obj .tbd) : Bool := (match x with | [.Return (some e) _] => a S false e | _ => false)
def ck_tapp (G : GS) (i : Nat) (a : Ck .val) (S : SE) (_b : Bool) (x : Kd.obj .tbd) : Bool := (match x with | [.Expr (.Call (.Attribute (.Name y _) m ap) [u] [] cp) _] => strEq m "append" && nthS S.N i y && visK (nk S.sc.names y) && notStar u && (ap.endLine == cp.line) && a S false u | _ => false)
def ck_tset (G : GS) (i : Nat) (a : Ck .val) (S : SE) (_b : Bool) (x : Kd.obj .tbd) : Bool := (match x with | [.Assign [.Name y _] e _] => nthS S.N i y && locK (nk S.wr y) && notComp e && a S false e | _ => false)
def ck_tif (G : GS) (c : Ck .tst) (u : Ck .tbd) (w : Ck .tbd) (S : SE) (_b : Bool) (x : Kd.obj .tbd) : Bool := (match x with | [.If e us ws _] => c S false e && u S false us && w S false ws | _ => false)
def ckSX (G : GS) (S : SE) (n : Nat) : SX → Expr → Bool
  | .c d, x => (match x with | .Constant c _ _ => litB d c | _ => false)
  | .f cs, x => (match x with | .Attribute (.Name y _) f _ => nthS S.N n y && visK (nk S.sc.names y) && fldIs G f cs | _ => false)
def ckSXs (G : GS) (S : SE) (n : Nat) : List SX → List Expr → Bool
  | [], es => (match es with | [] => true | _ => false)
  | x :: xs, es => (match es with | e :: es => notStar e && ckSX G S n x e && ckSXs G S n xs es | [] => false)
def ckSF (G : GS) (S : SE) (n : Nat) : SF → List Stmt → Bool
  | .r1 x, b => (match b with | [.Return (some e) _] => ckSX G S n x e | _ => false)
  | .rt xs, b => (match b with | [.Return (some (.Tuple es _ _)) _] => ckSXs G S n xs es | _ => false)
  | .app i x, b => (match b with | [.Expr (.Call (.Attribute (.Name y _) m ap) [u] [] cp) _] => strEq m "append" && nthS S.N i y && visK (nk S.sc.names y) && notStar u && (ap.endLine == cp.line) && ckSX G S n x u | _ => false)
def ckHd (G : GS) (S : SE) (h : HD) (x : ExceptHandler) : Bool := match x with
  | .ExceptHandler (some (.Name y _)) (some n) (b0 :: su) _ => gl S y && (match nthP G.clss h.j y with | some q => boolsEq q.1 h.bs | none => false) && nthS S.N h.n n && isLoc (nk S.sc.names n) && ckSF G S h.n h.s (b0 :: su)
  | _ => false
def ckHds (G : GS) (S : SE) : List HD → List ExceptHandler → Bool
  | [], es => (match es with | [] => true | _ => false)
  | h :: hs, es => (match es with | e :: es => ckHd G S h e && ckHds G S hs es | [] => false)
def SE.try_ (S : SE) : SE := ⟨S.N, S.sc, S.wr, false, S.gd, false⟩
def hasH : List ExceptHandler → Bool
  | [] => false
  | _ :: _ => true
def ck_try_ (G : GS) (b : Ck .tbd) (hs : List HD) (r : Ck .blk) (S : SE) (_b : Bool) (x : Kd.obj .blk) : Bool := (match x with | .Try us es [] [] _ :: xs => hasH es && ckHds G S hs es && b S.try_ false us && r S false xs | _ => false)
def ck_popa (G : GS) (i : Nat) (t : Tg) (r : Ck .blk) (S : SE) (_b : Bool) (x : Kd.obj .blk) : Bool := (match x with | .Assign [tg] (.Call (.Attribute (.Name y _) m ap) [] [] cp) _ :: xs => strEq m "pop" && nthS S.N i y && visK (nk S.sc.names y) && (ap.endLine == cp.line) && notStar tg && ckTg S t tg && r S false xs | _ => false)
def ck_setl (G : GS) (i : Nat) (_o : Bool) (t : Tg) (it : Ck .itr) (f : Ck .flt) (e : Ck .val) (vs : List Nat) (r : Ck .blk) (S : SE) (_b : Bool) (x : Kd.obj .blk) : Bool := (match x with
    | .Assign [.Name y py] (.ListComp elt [⟨tg, iter, ifs, 0⟩] scope lp) p :: xs => nthS S.N i y && isLoc (nk S.sc.names y) && (py.line == lp.line) && !(memS y (chk.ownNm scope.names)) && blkB S.N S.sc scope (ownOf S.N scope.names) && natsEq ((ownOf S.N scope.names).map (·.2)) vs && subNats t.ix vs && notSet iter &&
        ckTg (S.blk scope) t tg && it S true (tg, iter) && f (S.blk scope) false ifs && e (S.blk scope) false elt && r S false xs
    | _ => false)
def chk (G : GS) : {k : Kd} → E k → Ck k
  | _, .un => ck_un G 
  | _, .drw i a => ck_drw G i (chk G a)
  | _, .lens i => ck_lens G i
  | _, .v i => ck_v G i
  | _, .vb i => ck_vb G i
  | _, .k d => ck_k G d
  | _, .gc j d => ck_gc G j d
  | _, .ofn n => ck_ofn G (chk G n)
  | _, .bin o a c => ck_bin G o (chk G a) (chk G c)
  | _, .cmp o a c => ck_cmp G o (chk G a) (chk G c)
  | _, .chn o o' a c d => ck_chn G o o' (chk G a) (chk G c) (chk G d)
  | _, .rne a c => ck_rne G (chk G a) (chk G c)
  | _, .not a => ck_not G (chk G a)
  | _, .bo1 a => ck_bo1 G (chk G a)
  | _, .bo i a r => ck_bo G i (chk G a) (chk G r)
  | _, .ite c a d => ck_ite G (chk G c) (chk G a) (chk G d)
  | _, .call j n args => ck_call G j n (chk G args)
  | _, .tup args => ck_tup G (chk G args)
  | _, .ix a c => ck_ix G (chk G a) (chk G c)
  | _, .slc a lo hi => ck_slc G (chk G a) (chk G lo) (chk G hi)
  | _, .bf f a => ck_bf G f (chk G a)
  | _, .slcs a lo hi st => ck_slcs G (chk G a) (chk G lo) (chk G hi) (chk G st)
  | _, .jn z a => ck_jn G z (chk G a)
  | _, .trg a => ck_trg G (chk G a)
  | _, .lvix i a => ck_lvix G i (chk G a)
  | _, .isi t a => ck_isi G t (chk G a)
  | _, .emp => ck_emp G 
  | _, .bg f a => ck_bg G f (chk G a)
  | _, .gdget j tab a => ck_gdget G j tab (chk G a)
  | _, .calls j n args => ck_calls G j n (chk G args)
  | _, .mm f args => ck_mm G f (chk G args)
  | _, .get1 a k => ck_get1 G (chk G a) (chk G k)
  | _, .get2 a k z => ck_get2 G (chk G a) (chk G k) (chk G z)
  | _, .dcv t it f k v vs => ck_dcv G t (chk G it) (chk G f) (chk G k) (chk G v) vs
  | _, .uq t it k vs => ck_uq G t (chk G it) (chk G k) vs
  | _, .gdin j tab a => ck_gdin G j tab (chk G a)
  | _, .gdix j tab a => ck_gdix G j tab (chk G a)
  | _, .dget ps a => ck_dget G (chk G ps) (chk G a)
  | _, .hrd e => ck_hrd G (chk G e)
  | _, .isx i j bs => ck_isx G i j bs
  | _, .isnx i => ck_isnx G i
  | _, .fldx i cs => ck_fldx G i cs
  | _, .lst args => ck_lst G (chk G args)
  | _, .addn a c => ck_addn G (chk G a) (chk G c)
  | _, .lc t it f e vs => ck_lc G t (chk G it) (chk G f) (chk G e) vs
  | _, .lc2 t it f t2 it2 f2 e vs us => ck_lc2 G t (chk G it) (chk G f) t2 (chk G it2) (chk G f2) (chk G e) vs us
  | _, .lsn a => ck_lsn G (chk G a)
  | _, .rgn a => ck_rgn G (chk G a)
  | _, .cv a => ck_cv G (chk G a)
  | _, .cn n => ck_cn G (chk G n)
  | _, .cd => ck_cd G 
  | _, .cdn => ck_cdn G
  | _, .tr a => ck_tr G (chk G a)
  | _, .tcmp o a c => ck_tcmp G o (chk G a) (chk G c)
  | _, .tchn o o' a c d => ck_tchn G o o' (chk G a) (chk G c) (chk G d)
  | _, .tisn i => ck_tisn G i
  | _, .tlvin i a => ck_tlvin G i (chk G a)
  | _, .trne a c => ck_trne G (chk G a) (chk G c)
  | _, .tgdin j tab a => ck_tgdin G j tab (chk G a)
  | _, .tite c a d => ck_tite G (chk G c) (chk G a) (chk G d)
  | _, .tnot a => ck_tnot G (chk G a)
  | _, .tbo w => ck_tbo G (chk G w)
  | _, .w1 a => ck_w1 G (chk G a)
  | _, .wc i a r => ck_wc G i (chk G a) (chk G r)
  | _, .yes => ck_yes G 
  | _, .one t => ck_one G (chk G t)
  | _, .nil => ck_nil G 
  | _, .cons a r => ck_cons G (chk G a) (chk G r)
  | _, .star a r => ck_star G (chk G a) (chk G r)
  | _, .seq a => ck_seq G (chk G a)
  | _, .rng a => ck_rng G (chk G a)
  | _, .kys a => ck_kys G (chk G a)
  | _, .lvky i => ck_lvky G i
  | _, .vls a => ck_vls G (chk G a)
  | _, .its a => ck_its G (chk G a)
  | _, .zip a c => ck_zip G (chk G a) (chk G c)
  | _, .enu a => ck_enu G (chk G a)
  | _, .pno => ck_pno G 
  | _, .pso a => ck_pso G (chk G a)
  | _, .rnil => ck_rnil G 
  | _, .rcons k v r => ck_rcons G (chk G k) (chk G v) (chk G r)
  | _, .done => ck_done G 
  | _, .dead => ck_dead G 
  | _, .set i c r => ck_set G i (chk G c) (chk G r)
  | _, .cnil => ck_cnil G 
  | _, .ccons _i c r => ck_ccons G _i (chk G c) (chk G r)
  | _, .par l r => ck_par G (chk G l) (chk G r) (celIx l)
  | _, .asg t a r => ck_asg G t (chk G a) (chk G r)
  | _, .ret a r => ck_ret G (chk G a) (chk G r)
  | _, .ifs c u w r => ck_ifs G (chk G c) (chk G u) (chk G w) (chk G r)
  | _, .exp a r => ck_exp G (chk G a) (chk G r)
  | _, .app i a r => ck_app G i (chk G a) (chk G r)
  | _, .ext i a r => ck_ext G i (chk G a) (chk G r)
  | _, .frz _i r => ck_frz G _i (chk G r)
  | _, .frn _i r => ck_frn G _i (chk G r)
  | _, .sda i k x r => ck_sda G i (chk G k) (chk G x) (chk G r)
  | _, .dput i k v r => ck_dput G i (chk G k) (chk G v) (chk G r)
  | _, .lset i k v r => ck_lset G i (chk G k) (chk G v) (chk G r)
  | _, .aug i o a r => ck_aug G i o (chk G a) (chk G r)
  | _, .whl _n c b r => ck_whl G _n (chk G c) (chk G b) (chk G r)
  | _, .fori t it b r => ck_fori G t (chk G it) (chk G b) (chk G r)
  | _, .rse c a r => ck_rse G c (chk G a) (chk G r)
  | _, .tret a => ck_tret G (chk G a)
  | _, .tapp i a => ck_tapp G i (chk G a)
  | _, .tset i a => ck_tset G i (chk G a)
  | _, .tif c u w => ck_tif G (chk G c) (chk G u) (chk G w)
  | _, .try_ b hs r => ck_try_ G (chk G b) hs (chk G r)
  | _, .popa i t r => ck_popa G i t (chk G r)
  | _, .setl i _o t it f e vs r => ck_setl G i _o t (chk G it) (chk G f) (chk G e) vs (chk G r)
end Ev

namespace Ev
variable [Wd]
open PySem PySem.Spec PyProof.Rows L2
open PySem.W.Z (ltB leB eqB ltB_iff leB_iff eqB_iff)

/-! what is known around an expression -/
def blts : List Str := ["len", "any", "all", "tuple", "list", "repr", "isinstance", "range", "zip", "enumerate", "int", "bool", "str", "sorted", "min", "max", "sum", "dict", "set", "reversed"]
structure Glob (G : GS) (P : Program) (w : World) (K : PySem.W.Frag) (mg : Str → Option Value) (base : Heap) (C : CT) (F : Nat → List PyData → Res PyData) (k : Nat) : Prop where
  fn : ∀ (j : Nat) nm n gd, G.fns[j]? = some (nm, n, gd) → (nm == ("__debug__" : Str)) = false ∧ ∃ f fd ps, mg nm = some (.ref f) ∧ PySem.W.keepIn K (.ref f) = true ∧ L2.Binds K fd ps [] ∧ FnG P w K mg base gd k f fd ps (spG K C n (F j))
  blt : ∀ x ∈ blts, mg x = none
  drw : ∀ nm, G.draw = some nm → (nm == ("__debug__" : Str)) = false ∧ ∃ f fd ps, mg nm = some (.ref f) ∧ PySem.W.keepIn K (.ref f) = true ∧ L2.Binds K fd ps [] ∧ FnG P w K mg base false k f fd ps spT
  con : ∀ (j : Nat) nm d, G.cons[j]? = some (nm, d) → (nm == ("__debug__" : Str)) = false ∧ ∃ u v, mg nm = some u ∧ RelV v u ∧ ∀ H, R K H d v
  dct : ∀ (j : Nat) nm tab, G.dcts[j]? = some (nm, tab) → (nm == ("__debug__" : Str)) = false ∧ ∃ d es n, mg nm = some (.ref d) ∧ KDict K w d es n ∧ GD K d tab
  cls : ∀ (j : Nat) nm bs f, G.clss[j]? = some (nm, bs, f) → (nm == ("__debug__" : Str)) = false ∧ mg nm = some (.ref (C.cls j)) ∧ ClsOk P w K mg base C 1 j ∧ C.fld j = f ∧ XfC K (C.cls j) ∧ PySem.W.kitOne K (.type "NoneType") (.ref (C.cls j)) = some false ∧
    ∀ (c : Nat) b, bs[c]? = some b → PySem.W.kitOne K (.ref (C.cls c)) (.ref (C.cls j)) = some b ∧ ExcC K (C.cls c) ∧ PySem.W.exmOne K (.ref (C.cls c)) (.ref (C.cls j)) = some b
/-- the catcher of a lambda -/
def HearW (G : GS) (X : Cx) (C : CT) (hr : Res PyData → Res PyData) (W : WX) (n : Nat) : Prop := ∀ (ps : Arguments) (body : Expr) (scope : Scope) (lp p pos : Pos) (m : SG → Res PyData), Gl X G.hear → ParG scope ps → LamD X.N X.env.scope scope →
  (∀ (A : Around) (outer : List Env) (s : Shared) (H : Hp) (E : XK) (f c' : Addr), Room n (A.deeper (LamX.lamEnv X scope s.heap.objs.size f c')) → A.guards = X.A.guards → PE (LamX.lamCx X A outer s H E scope f c') body (T X.K C (WE E) m)) → PE X (.Call (.Name G.hear p) [.Lambda ps body scope lp] [] pos) (T X.K C W (mHear hr m))
abbrev HearOk (G : GS) (X : Cx) (C : CT) (hr : Res PyData → Res PyData) (E' : XK) (n : Nat) : Prop := HearW G X C hr (WE E') n
structure CtW (G : GS) (X : Cx) (C : CT) (S : SE) (F : Nat → List PyData → Res PyData) (hr : Res PyData → Res PyData) (W : WX) (E : XK) (k : Nat) : Prop where
  n : X.N = S.N
  sc : X.env.scope = S.sc
  nd : S.N.Nodup
  dbg : ∀ x ∈ S.N, (x == ("__debug__" : Str)) = false ∧ (x == ("__classdict__" : Str)) = false
  wr : ∀ x, (S.wr.lookup x = some .local ∨ S.wr.lookup x = some .cell) → Loc S.sc x ∧ (X.fn x = true ∨ S.sc.names.lookup x = some .local)
  calm : X.calm = true
  room : Room k X.A
  k2 : 2 ≤ k
  gd : S.gd = true → X.A.guards = some []
  ps : PassesW X W
  tk : S.fl = true → Takes X (WE E) ∧ PassesOwn (model X.prog X.w) X.A X.env X.xe ∧ X.env.scope.kind = .function
  g : Glob G X.prog X.w X.K X.mg X.base C F k
  hear : S.lam = true → HearW G X C hr W k
  we : S.fl = true → W = WE E := by exact fun _ => rfl
  fr : S.fl = true → X.stack = X.env :: X.outer ∧ X.env.frame = some X.env.locals := by exact fun _ => ⟨rfl, rfl⟩
abbrev Ct (G : GS) (X : Cx) (C : CT) (S : SE) (F : Nat → List PyData → Res PyData) (hr : Res PyData → Res PyData) (E : XK) (k : Nat) : Prop := CtW G X C S F hr (WE E) E k
section
variable {G : GS} {X : Cx} {C : CT} {S : SE} {F : Nat → List PyData → Res PyData} {hr : Res PyData → Res PyData} {W : WX} {E' : XK} {k : Nat} {x : Str}
theorem Ct.ps0 : Passes (CX X.prog X.w) X (fun _ _ _ => False) := fun _ _ _ _ _ _ _ ⟨_, _, _, _, _, _, _, _, _, _, _, _, z⟩ => z.elim
theorem CtW.un (c : CtW G X C S F hr W E' k) : X.A.units + 65 < cLine := by
  have := c.room.un
  omega
theorem CtW.nm (c : CtW G X C S F hr W E' k) {i : Nat} (h : nthS S.N i x = true) : X.N[i]? = some x := by rw [c.n]; exact nthS_at h
theorem CtW.vis (c : CtW G X C S F hr W E' k) (h : visK (nk S.sc.names x) = true) : Vis X.env.scope x := by rw [c.sc]; exact vis_of h
theorem CtW.dbgN (c : CtW G X C S F hr W E' k) {i : Nat} (h : nthS S.N i x = true) : (x == ("__debug__" : Str)) = false ∧ (x == ("__classdict__" : Str)) = false := c.dbg x (List.mem_of_getElem? (nthS_at h))
theorem CtW.gl (c : CtW G X C S F hr W E' k) (h : gl S x = true) : Gl X x := by
  show X.env.scope.names.lookup x = _
  rw [c.sc]; exact gl_of h
theorem CtW.ndX (c : CtW G X C S F hr W E' k) : X.N.Nodup := by rw [c.n]; exact c.nd
theorem litB_ok {d : PyData} {cn : Const} {i : Nat} {pos : Pos} {W : WX} (h : litB d cn = true) : PE X (.Constant cn i pos) (T X.K C W fun _ => .ok d) := by
  cases d <;> cases cn <;> first | (cases h; done) | skip
  · exact e_con pe_non fun _ => R.none'
  · rename_i a b
    have : a = b := by cases a <;> cases b <;> first | rfl | cases h
    subst this
    exact e_con pe_bl fun _ => R.bool'
  · rename_i a b
    have : a = b := (eqB_iff a b).mp h
    subst this
    exact e_con pe_int fun _ => R.int'
  · rename_i a b
    have : a = b := strEq_iff.mp h
    subst this
    exact e_con pe_str fun _ => R.str'
theorem negB_ok {d : PyData} {cn : Const} {i : Nat} {pos p2 : Pos} {W : WX} (h : negB d cn = true) : PE X (.UnaryOp .USub (.Constant cn i pos) p2) (T X.K C W fun _ => .ok d) := by
  cases d <;> cases cn <;> first | (cases h; done) | skip
  rename_i a b
  have : a = -b := (eqB_iff a (-b)).mp h
  subst this
  exact pe_imp (pe_un un_neg pe_int) fun σ H Q ⟨sg, A, rl, o⟩ => ⟨b, rfl, o H (Sm.refl H) _ R.int'⟩
/-! names in a row -/
theorem nmsOk_len {S : SE} : ∀ {l : List Nat} {ts : List Expr}, nmsOk S l ts = true → ts.length = l.length ∧ ts.all notStar = true
  | [], ts, h => by
    cases ts with
    | nil => exact ⟨rfl, rfl⟩
    | cons _ _ => cases h
  | i :: l, ts, h => by
    cases ts with
    | nil => cases h
    | cons e ts =>
      cases e <;> first | (cases h; done) | skip
      rename_i y p
      have h' : (nthS S.N i y && locK (nk S.wr y) && nmsOk S l ts) = true := h
      simp only [Bool.and_eq_true] at h'
      obtain ⟨g1, g2⟩ := nmsOk_len h'.2
      exact ⟨by simp [g1], by rw [List.all_cons, g2]; rfl⟩
/-! targets -/
theorem CtW.name (c : CtW G X C S F hr W E' k) {i : Nat} {pos : Pos} (h1 : nthS S.N i x = true) (h2 : locK (nk S.wr x) = true) : PG X (.Name x pos) (gName i) := by
  obtain ⟨h3, h4⟩ := c.wr x (loc_of h2)
  rw [← c.sc] at h3 h4
  exact pg_name c.ndX (c.nm h1) h3 h4
theorem CtW.names (c : CtW G X C S F hr W E' k) : ∀ {l : List Nat} {es : List Expr}, ckTg.ckTgs S l es = true → PGs X es (gMany l) ∧ es.length = l.length ∧ es.all notStar = true
  | [], es, h => by
    cases es with
    | nil => exact ⟨pgs_nil, rfl, rfl⟩
    | cons _ _ => cases h
  | i :: l, es, h => by
    cases es with
    | nil => cases h
    | cons e es =>
      cases e <;> first | (cases h; done) | skip
      rename_i y p
      have h' : (nthS S.N i y && locK (nk S.wr y) && ckTg.ckTgs S l es) = true := h
      simp only [Bool.and_eq_true] at h'
      obtain ⟨g1, g2, g3⟩ := c.names h'.2
      exact ⟨pgs_cons (c.name h'.1.1 h'.1.2) g1 rfl, by simp [g2], by rw [List.all_cons, g3]; rfl⟩
theorem CtW.nms (c : CtW G X C S F hr W E' k) : ∀ {l : List Nat} {ts : List Expr}, nmsOk S l ts = true → PGs X ts (gMany l)
  | [], ts, h => by
    cases ts with
    | nil => exact pgs_nil
    | cons _ _ => cases h
  | i :: l, ts, h => by
    cases ts with
    | nil => cases h
    | cons e ts =>
      cases e <;> first | (cases h; done) | skip
      rename_i y p
      have h' : (nthS S.N i y && locK (nk S.wr y) && nmsOk S l ts) = true := h
      simp only [Bool.and_eq_true] at h'
      exact pgs_cons (c.name h'.1.1 h'.1.2) (c.nms h'.2) rfl
theorem CtW.tg (c : CtW G X C S F hr W E' k) {t : Tg} {tg : Expr} (h : ckTg S t tg = true) : PG X tg (gT X.K t) := by
  cases t with
  | one i =>
    cases tg <;> first | (cases h; done) | skip
    rename_i y p
    have h' : (nthS S.N i y && locK (nk S.wr y)) = true := h
    rw [Bool.and_eq_true] at h'
    exact c.name h'.1 h'.2
  | many l =>
    cases tg <;> first | (cases h; done) | skip
    rename_i es kk p
    have h' : ckTg.ckTgs S l es = true := h
    obtain ⟨g1, g2, g3⟩ := c.names h'
    exact pg_tup c.calm g1 (by rw [assign_len, g2]) (assign_nostar g3)
/-! blocks -/
theorem memS_iff : ∀ {l : List Str} {x : Str}, memS x l = true ↔ x ∈ l
  | [], x => by simp [memS]
  | y :: l, x => by
    unfold memS
    cases h : strEq x y with
    | true => rw [strEq_iff] at h; simp [h]
    | false =>
      have hne : x ≠ y := fun z => by rw [← strEq_iff] at z; rw [z] at h; cases h
      simp [memS_iff, hne]
theorem kindEq_iff {a b : NameKind} (h : kindEq a b = true) : a = b := by
  cases a <;> cases b <;> first | rfl | cases h
theorem nkIs_eq {l : List (Str × NameKind)} {kd : NameKind} (h : nkIs l x kd = true) : l.lookup x = some kd := by
  unfold nkIs at h
  rw [nk_eq] at h
  cases e : l.lookup x with
  | none => rw [e] at h; cases h
  | some k' => rw [e] at h; rw [kindEq_iff h]
theorem isFun_eq {k : ScopeKind} (h : isFun k = true) : k = .function := by cases k <;> first | rfl | cases h
theorem blkB_ok {N : List Str} {sc scope : Scope} {own : List (Str × Nat)} (h : blkB N sc scope own = true) : BlkOk N sc scope own := by
  unfold blkB at h
  simp only [Bool.and_eq_true, List.all_eq_true] at h
  obtain ⟨⟨⟨⟨h1, h2⟩, h3⟩, h4⟩, h5⟩ := h
  refine ⟨isFun_eq h1, fun y hy => nkIs_eq (h2 y hy), fun p hp => nthS_at (h3 p hp), fun y hy e => ?_, fun y hy e => ?_⟩
  · have z := h4 y hy
    rw [e] at z
    have z' : capK (nk sc.names y.1) = true := by simpa [freeK] using z
    rw [nk_eq] at z'
    unfold capK at z'
    split at z'
    · rename_i q; exact .inl q
    · rename_i q; exact .inr q
    · cases z'
  · have z := h5 y hy
    have ho : ownK y.2 = true := by rcases e with e | e <;> rw [e] <;> rfl
    rw [ho] at z
    simp only [Bool.not_true, Bool.false_or, Bool.or_eq_true, Bool.not_eq_true'] at z
    rcases z with z | z
    · exact .inl (memS_iff.mp z)
    · exact .inr fun m => by rw [← memS_iff] at m; rw [m] at z; cases z
theorem CtW.blk (c : CtW G X C S F hr W E' k) {scope : Scope} (hk : scope.kind = .function) (s : Shared) (H : Hp) (Z : Addr) (cl : List (Str × Addr)) (fp : List Addr) :
    Ct G (X.blk s H scope (compEnvC scope cl Z X.env) fp) C (S.blk scope) F hr (fun _ _ _ => False) k where
  n := c.n
  sc := by
    show relS scope X.env.scope = relS scope S.sc
    rw [c.sc]
  nd := c.nd
  dbg := c.dbg
  wr := fun x h => by
    have h : scope.names.lookup x = some .local ∨ scope.names.lookup x = some .cell := h
    refine ⟨?_, ?_⟩
    · rcases h with h | h
      · exact .inl (lookup_relS_keep (by decide) h)
      · exact .inr (lookup_relS_keep (by decide) h)
    · rcases h with h | h
      · exact .inr (lookup_relS_keep (by decide) h)
      · exact .inl (by show (scope.names.lookup x == some .cell) = true; rw [h]; rfl)
  calm := c.calm
  room := c.room
  k2 := c.k2
  gd := c.gd
  ps := Ct.ps0
  tk := fun h => by cases h
  we := fun h => by cases h
  fr := fun h => by cases h
  g := c.g
  hear := fun h => by cases h
theorem lamB_ok {N : List Str} {sc scope : Scope} (h : lamB N sc scope = true) : LamD N sc scope := by
  unfold lamB at h
  simp only [Bool.and_eq_true, List.all_eq_true, Bool.not_eq_true'] at h
  obtain ⟨⟨⟨⟨h1, h2⟩, h3⟩, h4⟩, h5⟩ := h
  refine ⟨isFun_eq h1, h2, h3, fun y hy => ?_, fun y hy e => ?_⟩
  · have z := h4 y hy
    constructor
    · intro e; rw [e] at z; cases z
    · intro e hm
      rw [e] at z
      have z' : (!memS y.1 N) = true := z
      rw [memS_iff.mpr hm] at z'; cases z'
  · have z := h5 y hy
    rw [e] at z
    have z' : capK (nk sc.names y.1) = true := by simpa [freeK] using z
    rw [nk_eq] at z'
    unfold capK at z'
    split at z'
    · rename_i q; exact .inl q
    · rename_i q; exact .inr q
    · cases z'
theorem parG_ok {scope : Scope} {p : Arguments} (h : parG scope p = true) : ParG scope p := by
  unfold parG at h
  rw [Bool.or_eq_true] at h
  obtain ⟨a1, a2, a3, a4, a5, a6, a7⟩ := p
  rcases h with h | h
  · unfold parNone at h
    simp only [Bool.and_eq_true, List.isEmpty_iff, Option.isNone_iff_eq_none] at h
    obtain ⟨⟨⟨⟨⟨⟨rfl, rfl⟩, rfl⟩, rfl⟩, rfl⟩, rfl⟩, rfl⟩ := h
    exact .none rfl
  · unfold par1 at h
    simp only [Bool.and_eq_true, List.isEmpty_iff, Option.isNone_iff_eq_none] at h
    obtain ⟨⟨⟨⟨⟨rfl, rfl⟩, rfl⟩, rfl⟩, rfl⟩, h⟩ := h
    split at h
    · rename_i ag e
      rw [Bool.and_eq_true] at h
      obtain ⟨h1, h2⟩ := h
      unfold isIntE at h1
      split at h1
      · exact .one rfl (nkIs_eq h2)
      · cases h1
    · cases h
theorem CtW.lm (c : CtW G X C S F hr W E' k) {scope : Scope} (A : Around) (outer : List Env) (s : Shared) (H : Hp) (E : XK) (f c' : Addr) (hrm : Room k (A.deeper (LamX.lamEnv X scope s.heap.objs.size f c'))) (hgd : A.guards = X.A.guards) :
    Ct G (LamX.lamCx X A outer s H E scope f c') C (S.lm scope) F hr E k where
  n := c.n
  sc := rfl
  nd := c.nd
  dbg := c.dbg
  wr := fun x h => by rcases h with h | h <;> cases h
  calm := rfl
  room := hrm
  k2 := c.k2
  gd := fun h => hgd.trans (c.gd h)
  ps := passes_call (takes_of (X := LamX.lamCx X A outer s H E scope f c') (E := E) rfl rfl rfl rfl) fun _ _ _ _ h => h
  tk := fun h => by cases h
  we := fun h => by cases h
  fr := fun h => by cases h
  g := c.g
  hear := fun h => by cases h
theorem CtW.tr (c : CtW G X C S F hr W E' k) {W2 : WX} {pn : List (Addr × Obj)} {xe : Value → Shared → Prop} (tk : Takes (X.tr pn xe) W2) : CtW G (X.tr pn xe) C S.try_ F hr W2 E' k where
  n := c.n
  sc := c.sc
  nd := c.nd
  dbg := c.dbg
  wr := c.wr
  calm := c.calm
  room := c.room
  k2 := c.k2
  gd := c.gd
  ps := passW tk
  tk := fun h => by cases h
  we := fun h => by cases h
  fr := fun h => by cases h
  g := c.g
  hear := fun h => by cases h
theorem boolsEq_of : ∀ {a b : List Bool}, boolsEq a b = true → a = b
  | [], b, h => by cases b <;> first | rfl | cases h
  | x :: a, b, h => by
    cases b with
    | nil => cases h
    | cons y b =>
      unfold boolsEq at h
      rw [Bool.and_eq_true] at h
      obtain ⟨h1, h2⟩ := h
      rw [boolsEq_of h2]
      cases x <;> cases y <;> first | rfl | cases h1
theorem nth1_at : ∀ {l : List (Str × List Bool × Str)} {i : Nat} {q : Str × List Bool × Str}, fldIs.nth1 l i = some q → l[i]? = some q
  | [], i, q, h => by simp [fldIs.nth1] at h
  | p :: l, 0, q, h => by simpa [fldIs.nth1] using h
  | p :: l, i + 1, q, h => by simpa using nth1_at (l := l) (i := i) h
theorem fldIs_of {f : Str} : ∀ {cs : List Nat}, fldIs G f cs = true → ∀ c ∈ cs, ∃ nm bs, G.clss[c]? = some (nm, bs, f)
  | [], _, c, hc => by cases hc
  | d :: cs, h, c, hc => by
    simp only [fldIs, Bool.and_eq_true] at h
    rcases List.mem_cons.mp hc with rfl | hc
    · obtain ⟨h1, _⟩ := h
      split at h1
      · rename_i q e
        obtain ⟨nm, bs, f'⟩ := q
        have : f' = f := strEq_iff.mp h1
        subst this
        exact ⟨nm, bs, nth1_at e⟩
      · cases h1
    · exact fldIs_of h.2 c hc
end
theorem ownNm_any : ∀ {l : List (Str × NameKind)} {y : Str}, memS y (chk.ownNm l) = false → (l.any fun (n, k) => n == y && (k == .local || k == .cell)) = false
  | [], y, _ => rfl
  | (n, k) :: l, y, h => by
    have h' : memS y (match ownK k with | true => n :: chk.ownNm l | false => chk.ownNm l) = false := h
    rw [List.any_cons]
    cases hk : ownK k with
    | true =>
      rw [hk] at h'
      have h2 : (match strEq y n with | true => true | false => memS y (chk.ownNm l)) = false := h'
      split at h2
      · cases h2
      · rename_i e
        rw [ownNm_any h2, Bool.or_false]
        have hn : (n == y) = false := by
          rw [strEq_eq] at e
          rw [beq_eq_false_iff_ne] at e ⊢
          exact fun z => e z.symm
        show (n == y && _) = false
        rw [hn]; rfl
    | false =>
      rw [hk] at h'
      rw [ownNm_any h', Bool.or_false]
      have : (k == NameKind.local || k == NameKind.cell) = false := by cases k <;> first | rfl | cases hk
      show (n == y && (k == NameKind.local || k == NameKind.cell)) = false
      rw [this, Bool.and_false]
section
variable {X : Cx} {C : CT} {E' : XK} {W' : WX} {tg iter elt : Expr} {ifs : List Expr} {mt : SG → Res Bool} {mi : SG → Res (List PyData)} {me : SG → Res PyData} {pos spos py : Pos}
theorem setl_ok {t : Tg} {vs : List Nat} {i : Nat} {o : Bool} (hsub : ∀ i ∈ t.ix, i ∈ vs) {D : Ends} {σ : L2.St} {H : Hp} (h : TSt X.K C E' (mPut i (mSlc o (mLcN t mi mt me vs))) D σ H) : tAsg (tLc (TIt X.K C (WE E') true mi) (gT X.K t) (TP X.K C W' mt) (T X.K C W' me) vs) (gName i) D σ H := by
  obtain ⟨sg, A, rl, q⟩ := put_ok h
  refine lcN_read (C := C) (W := WE E') hsub ⟨sg, A, rl, ?_⟩
  cases o with
  | true => exact q.bind.mono fun l H1 s1 o1 => o1 H1 (Sm.refl _)
  | false =>
    refine q.bind.mono fun l H1 s1 o1 p us hp r => ?_
    have z := new_list (rl.mono s1).trk r hp
    exact o1 _ z.1 _ z.2
theorem s_setl {t : Tg} {i : Nat} {o : Bool} {y : Str} {scope : Scope} {own : List (Str × Nat)} (hc : X.calm = true) (hN : X.N.Nodup) (hy : X.N[i]? = some y) (hyl : X.env.scope.names.lookup y = some .local)
    (hsw : swapsWith (.ListComp elt [⟨tg, iter, ifs, 0⟩] scope pos) (some (.Name y py)) spos.line X.env = pure true) (hi : PI X tg iter (TIt X.K C (WE E') true mi)) (ok : BlkOk X.N X.env.scope scope own)
    (hg : ∀ (s : Shared) (H : Hp) (Z : Addr) (cl : List (Str × Addr)) (fp : List Addr), PG (X.blk s H scope (compEnvC scope cl Z X.env) fp) tg (gT X.K t))
    (ht : ∀ (s : Shared) (H : Hp) (Z : Addr) (cl : List (Str × Addr)) (fp : List Addr), PTs (X.blk s H scope (compEnvC scope cl Z X.env) fp) ifs (TP X.K C W' mt))
    (he : ∀ (s : Shared) (H : Hp) (Z : Addr) (cl : List (Str × Addr)) (fp : List Addr), PE (X.blk s H scope (compEnvC scope cl Z X.env) fp) elt (T X.K C W' me))
    (hs : ∀ x, foldedSetIterable iter X.env x = pure x) (hsub : ∀ i ∈ t.ix, i ∈ own.map (·.2)) :
    PS X (.Assign [.Name y py] (.ListComp elt [⟨tg, iter, ifs, 0⟩] scope pos) spos) (TSt X.K C E' (mPut i (mSlc o (mLcN t mi mt me (own.map (·.2)))))) :=
  ps_imp (ps_setLc hc hN hy hyl hsw hi ok hg ht he hs) fun D σ H h => setl_ok hsub h
end
end Ev

namespace Ev
variable [Wd]
open PySem PySem.Spec PyProof.Rows L2
open PySem.W.Z (ltB leB eqB ltB_iff leB_iff eqB_iff)

def Snd (X : Cx) (C : CT) (W : WX) (E' : XK) (F : Nat → List PyData → Res PyData) (hr : Res PyData → Res PyData) : {k : Kd} → E k → Bool → k.obj → Prop
  | .val, e, b, x => PE X x (TF X.K C W b (ev F hr e))
  | .new, e, _, x => PE X x (TN X.K C W (ev F hr e))
  | .sl, e, _, x => PE X x (TC X.K C W (ev F hr e))
  | .tst, e, _, x => PT X x (TP X.K C W (ev F hr (k := .tst) e))
  | .tw, e, _, x => PW X x (TP X.K C W (ev F hr (k := .tw) e))
  | .flt, e, _, x => PTs X x (TP X.K C W (ev F hr (k := .flt) e))
  | .arg, e, _, x => PA X x (TL X.K C W (ev F hr (k := .arg) e))
  | .itr, e, b, x => PI X x.1 x.2 (TIt X.K C W b (ev F hr (k := .itr) e))
  | .prt, e, _, x => PO X x (TI' X.K C W (ev F hr e))
  | .prs, e, _, x => ∀ pos, Prs X C W pos x.1 x.2 (ev F hr e)
  | .blk, e, _, x => PSs X x (TSt X.K C E' (ev F hr e))
  | .cel, e, _, x => Cels X C W (celIx e) x (ev F hr (k := .cel) e)
  | .tbd, e, _, x => PSs X x (TBd X.K C W (ev F hr (k := .tbd) e))
def isBlk : Kd → Bool
  | .blk => true
  | _ => false
section
variable {G : GS} {C : CT} {F : Nat → List PyData → Res PyData} {hr : Res PyData → Res PyData}
theorem tf_of {X : Cx} {W : WX} {x : Expr} {m : SG → Res PyData} {b : Bool} (h : PE X x (T X.K C W m)) : PE X x (TF X.K C W b m) := by
  cases b with
  | false => exact h
  | true => exact pe_tb h
theorem bad_e {X : Cx} {W : WX} {x : Expr} {b : Bool} : PE X x (TF X.K C W b (fun _ => .bad)) := tf_of ⟨fun _ _ _ _ _ _ ⟨_, _, _, o⟩ => o.elim⟩
theorem natsEq_of {a b : List Nat} (h : natsEq a b = true) : a = b := natsEq_iff.mp h
theorem tabsEq_of : ∀ {a b : List (Str × PyData)}, tabIs.tabsEq a b = true → a = b
  | [], b, h => by cases b <;> first | rfl | cases h
  | p :: r, b, h => by
    cases b with
    | nil => cases h
    | cons q l =>
      have h' : (strEq p.1 q.1 && same p.2 q.2 && tabIs.tabsEq r l) = true := h
      simp only [Bool.and_eq_true] at h'
      have e1 := strEq_iff.mp h'.1.1
      have e2 := same_eq h'.1.2
      obtain ⟨p1, p2⟩ := p
      obtain ⟨q1, q2⟩ := q
      cases e1
      cases e2
      rw [tabsEq_of h'.2]
theorem tabIs_of {j : Nat} {y : Str} {tab : List (Str × PyData)} (h : tabIs G j y tab = true) : G.dcts[j]? = some (y, tab) := by
  unfold tabIs at h
  split at h
  · rename_i t e
    rw [tabsEq_of h] at e
    exact nthP_at e
  · cases h
theorem posEq_of {p q : Pos} (h : chk.posEq p q = true) : p = q := by
  unfold chk.posEq at h
  simp only [Bool.and_eq_true] at h
  obtain ⟨a, b, c, d⟩ := p
  obtain ⟨a', b', c', d'⟩ := q
  obtain ⟨⟨⟨h1, h2⟩, h3⟩, h4⟩ := h
  have e1 : a = a' := Nat.eq_of_beq_eq_true h1
  have e2 : b = b' := Nat.eq_of_beq_eq_true h2
  have e3 : c = c' := Nat.eq_of_beq_eq_true h3
  have e4 : d = d' := Nat.eq_of_beq_eq_true h4
  rw [e1, e2, e3, e4]
theorem bOp {i : Bool} {op : BoolOp} (h : isAndB i op = true) : (i = true ∧ op = .And) ∨ (i = false ∧ op = .Or) := by
  cases i <;> cases op <;> first | (cases h; done) | simp
theorem blt_nm (f : B1) : f.nm ∈ blts := by cases f <;> simp [B1.nm, blts]
theorem asg_sub {o i : Expr} {pos : Pos} {env : Env} (h : notSlice i = true) : ∀ v, assign (.Subscript o i pos) env v = (do
      let ov ← holding [v] (eval o env)
      let iv ← holding [v, ov] (eval i env)
      standAt pos
      holding [v, ov, iv] (setItem ov iv v)
      release [v, ov, iv] []) := by
  intro v
  cases i <;> first | rfl | cases h
theorem ckSX_ok {X : Cx} {S : SE} {W W2 : WX} {E' : XK} {n m : Nat} {a : Addr} (c : CtW G X C S F hr W E' n) {x : SX} {e : Expr} (h : ckSX G S m x e = true) : PE (suC X a) e (T X.K C W2 (x.m m)) := by
  cases x with
  | c d =>
    cases e <;> first | (cases h; done) | skip
    exact litB_ok (X := suC X a) h
  | f cs =>
    cases e <;> first | (cases h; done) | skip
    rename_i o f p
    cases o <;> first | (cases h; done) | skip
    rename_i y q
    have h' : (nthS S.N m y && visK (nk S.sc.names y) && fldIs G f cs) = true := h
    simp only [Bool.and_eq_true] at h'
    refine e_fldx (X := suC X a) (c.nm h'.1.1) (c.vis h'.1.2) (c.dbgN h'.1.1).1 (c.dbgN h'.1.1).2 fun q hq => ?_
    obtain ⟨nm, bs, e⟩ := fldIs_of h'.2 q hq
    obtain ⟨k1, k2, k3, k4, k5, k6, k7⟩ := c.g.cls q nm bs _ e
    exact ⟨k4, k5, k3.no⟩
theorem ckSXs_ok {X : Cx} {S : SE} {W W2 : WX} {E' : XK} {n m : Nat} {a : Addr} (c : CtW G X C S F hr W E' n) : ∀ {xs : List SX} {es : List Expr}, ckSXs G S m xs es = true → PA (suC X a) es (TL X.K C W2 (sxsM m xs))
  | [], es, h => by
    cases es with
    | nil => exact a_nil
    | cons _ _ => cases h
  | x :: xs, es, h => by
    cases es with
    | nil => cases h
    | cons e es =>
      have h' : (notStar e && ckSX G S m x e && ckSXs G S m xs es) = true := h
      simp only [Bool.and_eq_true] at h'
      exact a_cons (X := suC X a) (ckSX_ok c h'.1.2) (ckSXs_ok c h'.2) (star_cons h'.1.1)
theorem ckSF_ok {X : Cx} {S : SE} {W : WX} {E' : XK} {n m : Nat} {a : Addr} (c : CtW G X C S F hr W E' n) {f : SF} {b : List Stmt} (h : ckSF G S m f b = true) : PSs (suC X a) b (TSt X.K C (fun _ _ _ => False) (f.m m)) := by
  unfold ckSF at h
  split at h
  · split at h
    · exact s_cons (X := suC X a) (s_ret (ckSX_ok c h)) s_nil
    · cases h
  · split at h
    · exact s_cons (X := suC X a) (s_ret (e_tup (ckSXs_ok c h))) s_nil
    · cases h
  · split at h
    · simp only [Bool.and_eq_true] at h
      obtain ⟨⟨⟨⟨⟨h1, h2⟩, h3⟩, h4⟩, h5⟩, h6⟩ := h
      have e1 := strEq_iff.mp h1
      subst e1
      exact s_cons (X := suC X a) (s_app (c.nm h2) (c.vis h3) (c.dbgN h2).1 (c.dbgN h2).2 (ckSX_ok c h6) (few_one h4) h5 (star_cons h4)) s_nil
    · cases h
theorem ckHd_ok {X : Cx} {S : SE} {W : WX} {E' : XK} {n : Nat} (c : CtW G X C S F hr W E' n) {h : HD} {x : ExceptHandler} (hc : ckHd G S h x = true) : ∃ l : Cl, x = l.h ∧ HdOk X C n h l := by
  unfold ckHd at hc
  split at hc
  · rename_i y np nm b0 su p
    simp only [Bool.and_eq_true] at hc
    obtain ⟨⟨⟨⟨h1, h2⟩, h3⟩, h4⟩, h5⟩ := hc
    split at h2
    · rename_i q e
      obtain ⟨bs, f⟩ := q
      have h2 := boolsEq_of h2
      subst h2
      obtain ⟨k1, k2, k3, k4, k5, k6, k7⟩ := c.g.cls h.j y _ f (nthP_at e)
      have k4' := isLoc_of h4
      rw [← c.sc] at k4'
      exact ⟨⟨y, np, nm, h.n, b0, su, p, .ref (C.cls h.j), fun _ => TSt X.K C (fun _ _ _ => False) (h.s.m h.n)⟩, rfl, ⟨c.nm h3, k4', ⟨c.gl h1, k1, .inl k2⟩, fun a => ckSF_ok c h5⟩, fun q b hq => (k7 q b (nthB_at hq)).2.2, rfl, fun _ => rfl⟩
    · cases h2
  · cases hc
theorem ckHds_ok {X : Cx} {S : SE} {W : WX} {E' : XK} {n : Nat} (c : CtW G X C S F hr W E' n) : ∀ {hs : List HD} {xs : List ExceptHandler}, ckHds G S hs xs = true → ∃ ls : List Cl, xs = ls.map Cl.h ∧ All2 (HdOk X C n) hs ls
  | [], xs, h => by
    cases xs with
    | nil => exact ⟨[], rfl, .nil⟩
    | cons _ _ => cases h
  | h :: hs, xs, hc => by
    cases xs with
    | nil => cases hc
    | cons x xs =>
      have h' : (ckHd G S h x && ckHds G S hs xs) = true := hc
      rw [Bool.and_eq_true] at h'
      obtain ⟨l, e1, k1⟩ := ckHd_ok c h'.1
      obtain ⟨ls, e2, k2⟩ := ckHds_ok c h'.2
      exact ⟨l :: ls, by rw [e1, e2]; rfl, .cons k1 k2⟩
theorem soundW {k : Kd} (e : E k) : ∀ {X : Cx} {S : SE} {W : WX} {E' : XK} {n : Nat} {b : Bool} {x : k.obj}, CtW G X C S F hr W E' n → (isBlk k = true → S.fl = true) → chk G e S b x = true → Snd X C W E' F hr e b x := by
  induction e with
  | un => intro X S W E' n b x c _ h; exact bad_e
  | lens i =>
    intro X S W E' n b x c hf h
    replace h : ck_lens G i S b x = true := h
    unfold ck_lens at h
    split at h
    · simp only [Bool.and_eq_true] at h
      obtain ⟨⟨⟨h1, h2⟩, h3⟩, h4⟩ := h
      have e1 := strEq_iff.mp h1
      subst e1
      exact tf_of (e_lenS (c.gl h2) (c.g.blt _ (by simp [blts])) (c.nm h3) (c.vis h4) (c.dbgN h3).1 (c.dbgN h3).2)
    · cases h
  | drw i a iha =>
    intro X S W E' n b x c hf h
    replace h : ck_drw G i (chk G a) S b x = true := h
    unfold ck_drw at h
    split at h
    · rename_i y p z q u q2
      simp only [Bool.and_eq_true] at h
      obtain ⟨⟨⟨⟨⟨h1, h2⟩, h3⟩, h4⟩, h5⟩, h6⟩ := h
      have hy : G.draw = some y := by
        unfold drawIs at h1
        split at h1
        · rename_i z' e
          rw [e, strEq_iff.mp h1]
        · cases h1
      obtain ⟨k1, f, fd, ps, k2, k3, k4, k5⟩ := c.g.drw y hy
      exact tf_of (e_drw k5 c.room (c.gl h2) k2 k3 k4 Ct.ps0 k1 (c.nm h3) (c.vis h4) (c.dbgN h3).1 (c.dbgN h3).2 (iha (b := false) c hf h6) h5)
    · cases h
  | v i =>
    intro X S W E' n b x c _ h
    replace h : ck_v G i S b x = true := h
    unfold ck_v at h
    split at h
    · simp only [Bool.and_eq_true] at h
      exact tf_of (e_var (c.nm h.1) (c.vis h.2) (c.dbgN h.1).1 (c.dbgN h.1).2)
    · cases h
  | vb i =>
    intro X S W E' n b x c _ h
    replace h : ck_vb G i S b x = true := h
    unfold ck_vb at h
    simp only [Bool.and_eq_true] at h
    obtain ⟨hb, h⟩ := h
    subst hb
    split at h
    · simp only [Bool.and_eq_true] at h
      exact e_varB (c.nm h.1) (c.vis h.2) (c.dbgN h.1).1 (c.dbgN h.1).2
    · cases h
  | k d =>
    intro X S W E' n b x c _ h
    replace h : ck_k G d S b x = true := h
    unfold ck_k at h
    split at h
    · exact tf_of (litB_ok h)
    · exact tf_of (negB_ok h)
    · cases h
  | gc j d =>
    intro X S W E' n b x c _ h
    replace h : ck_gc G j d S b x = true := h
    unfold ck_gc at h
    split at h
    · simp only [Bool.and_eq_true] at h
      obtain ⟨h1, h2⟩ := h
      split at h2
      · rename_i d' e
        rw [same_eq h2] at e
        obtain ⟨k1, u, v, k2, k3, k4⟩ := c.g.con j _ d (nthP_at e)
        exact tf_of (e_con (pe_glob (c.gl h1) k2 k3 k1) k4)
      · cases h2
    · cases h
  | ofn m ih =>
    intro X S W E' n b x c hf h
    exact tf_of (e_of_new (ih c hf h))
  | bin o a d iha ihd =>
    intro X S W E' n b x c hf h
    replace h : ck_bin G o (chk G a) (chk G d) S b x = true := h
    unfold ck_bin at h
    split at h
    · simp only [Bool.and_eq_true] at h
      obtain ⟨r, k1, k2⟩ := O2.ok (X := X) h.1.1
      exact tf_of (e_bin k1 k2 (iha c hf h.1.2) (ihd c hf h.2))
    · cases h
  | cmp o a d iha ihd =>
    intro X S W E' n b x c hf h
    replace h : ck_cmp G o (chk G a) (chk G d) S b x = true := h
    unfold ck_cmp at h
    split at h
    · simp only [Bool.and_eq_true, Bool.not_eq_true'] at h
      obtain ⟨r, k1, k2⟩ := Cp.ok (X := X) c.un h.1.1.1
      exact tf_of (e_cmp k1 k2 (iha c hf h.1.2) (ihd c hf h.2) h.1.1.2)
    · cases h
  | chn o o' a d f iha ihd ihf =>
    intro X S W E' n b x c hf h
    replace h : ck_chn G o o' (chk G a) (chk G d) (chk G f) S b x = true := h
    unfold ck_chn at h
    split at h
    · simp only [Bool.and_eq_true, Bool.not_eq_true'] at h
      obtain ⟨r, k1, k2⟩ := Cp.ok (X := X) c.un h.1.1.1.1.1
      obtain ⟨r', k3, k4⟩ := Cp.ok (X := X) c.un h.1.1.1.1.2
      exact tf_of (e_chain k1 k3 k2 k4 (iha c hf h.1.1.2) (ihd c hf h.1.2) (ihf c hf h.2) h.1.1.1.2)
    · cases h
  | rne a d iha ihd =>
    intro X S W E' n b x c hf h
    replace h : ck_rne G (chk G a) (chk G d) S b x = true := h
    unfold ck_rne at h
    split at h
    · simp only [Bool.and_eq_true] at h
      obtain ⟨⟨⟨⟨⟨⟨⟨h1, h2⟩, h3⟩, h4⟩, h5⟩, h6⟩, h7⟩, h8⟩ := h
      have e1 := strEq_iff.mp h2
      have e2 := strEq_iff.mp h3
      subst e1
      subst e2
      exact tf_of (e_rne (c.gd h1) c.un (c.gl h4) (c.g.blt _ (by simp [blts])) (iha c hf h7) (ihd c hf h8) h5 h6)
    · cases h
  | not a iha =>
    intro X S W E' n b x c hf h
    replace h : ck_not G (chk G a) S b x = true := h
    unfold ck_not at h
    split at h
    · exact tf_of (e_not (iha c hf h))
    · cases h
  | bo1 a iha =>
    intro X S W E' n b x c hf h
    replace h : ck_bo1 G (chk G a) S b x = true := h
    unfold ck_bo1 at h
    split at h
    · exact tf_of (e_one (iha c hf h))
    · cases h
  | bo i a r iha ihr =>
    intro X S W E' n b x c hf h
    replace h : ck_bo G i (chk G a) (chk G r) S b x = true := h
    unfold ck_bo at h
    split at h
    · simp only [Bool.and_eq_true] at h
      rcases bOp h.1.1 with ⟨rfl, rfl⟩ | ⟨rfl, rfl⟩
      · exact tf_of (e_and (iha c hf h.1.2) (ihr c hf h.2))
      · exact tf_of (e_or (iha c hf h.1.2) (ihr c hf h.2))
    · cases h
  | ite t a d iht iha ihd =>
    intro X S W E' n b x c hf h
    replace h : ck_ite G (chk G t) (chk G a) (chk G d) S b x = true := h
    unfold ck_ite at h
    split at h
    · simp only [Bool.and_eq_true] at h
      exact tf_of (e_ite (iht c hf h.1.1) (iha c hf h.1.2) (ihd c hf h.2))
    · cases h
  | call j m args ih =>
    intro X S W E' n b x c hf h
    replace h : ck_call G j m (chk G args) S b x = true := h
    unfold ck_call at h
    split at h
    · rename_i y p us q
      simp only [Bool.and_eq_true] at h
      obtain ⟨⟨⟨h1, h2⟩, h3⟩, h4⟩ := h
      split at h3
      · rename_i pr e
        obtain ⟨m', gd⟩ := pr
        simp only [Bool.and_eq_true] at h3
        have em := Nat.eq_of_beq_eq_true h3.1
        have em : m' = m := em
        subst em
        obtain ⟨k1, f, fd, ps, k2, k3, k4, k5⟩ := c.g.fn j y m' gd (nthP_at e)
        have hgd : gd = true → X.A.guards = some [] := fun z => by
          subst z
          exact c.gd (by simpa using h3.2)
        have ha := ih (W := W) (E' := E') c hf h4
        cases us with
        | nil =>
          have hn : PE X (.Call (.Name y p) [] [] q) (T X.K C W (mCall m' (F j) mNil)) := e_call0 k5 hgd c.room (c.gl h2) k2 k3 k4 c.ps k1
          refine tf_of ?_
          cases args with
          | nil => exact hn
          | cons _ _ => cases h4
          | star _ _ => cases h4
        | cons u us =>
          rw [List.all_cons, Bool.and_eq_true] at h1
          exact tf_of (e_call k5 hgd c.room (c.gl h2) k2 k3 k4 c.ps ha k1 (star_cons h1.1) (noStars h1.2))
      · cases h3
    · cases h
  | tup args ih =>
    intro X S W E' n b x c hf h
    replace h : ck_tup G (chk G args) S b x = true := h
    unfold ck_tup at h
    split at h
    · exact tf_of (e_tup (ih c hf h))
    · cases h
  | ix a d iha ihd =>
    intro X S W E' n b x c hf h
    replace h : ck_ix G (chk G a) (chk G d) S b x = true := h
    unfold ck_ix at h
    split at h
    · simp only [Bool.and_eq_true] at h
      exact tf_of (e_ix2 (iha c hf h.1.2) (ihd c hf h.2) (slice_plain h.1.1))
    · cases h
  | slc a lo hi iha ihl ihh =>
    intro X S W E' n b x c hf h
    replace h : ck_slc G (chk G a) (chk G lo) (chk G hi) S b x = true := h
    unfold ck_slc at h
    split at h
    · simp only [Bool.and_eq_true] at h
      exact tf_of (e_sl (iha c hf h.1.1) (ihl c hf h.1.2) (ihh c hf h.2))
    · cases h
  | bf f a iha =>
    intro X S W E' n b x c hf h
    replace h : ck_bf G f (chk G a) S b x = true := h
    unfold ck_bf at h
    split at h
    · simp only [Bool.and_eq_true] at h
      obtain ⟨⟨⟨⟨h1, h2⟩, h3⟩, h4⟩, h5⟩ := h
      have e1 := strEq_iff.mp h1
      subst e1
      have ha := iha (W := W) (E' := E') c hf h5
      have hb := c.g.blt _ (blt_nm f)
      cases f with
      | repr => exact tf_of (B1.ok c.calm (c.gd h4) c.un .repr (c.gl h2) hb ha h3)
      | len => exact tf_of (e_blt cr_lenD f_lenD (c.gl h2) hb PySem.boot_len (by decide) (by decide) ha (star_cons h3))
      | any => exact tf_of (e_blt (cr_any c.calm) f_any (c.gl h2) hb (by decide +kernel) (by decide) (by decide) ha (star_cons h3))
      | all => exact tf_of (e_blt (cr_all c.calm) f_all (c.gl h2) hb (by decide +kernel) (by decide) (by decide) ha (star_cons h3))
      | tuple => exact tf_of (e_bty call_tuple_of f_tuple (c.gl h2) hb (by decide +kernel) (by decide) (by decide) ha (star_cons h3))
      | list => exact tf_of (e_bty call_list_of f_list (c.gl h2) hb (by decide +kernel) (by decide) (by decide) ha (star_cons h3))
    · cases h
  | emp =>
    intro X S W E' n b x c hf h
    replace h : ck_emp G  S b x = true := h
    unfold ck_emp at h
    split at h
    · refine tf_of (pe_imp (pe_born pe_dnewK) fun σ H Q ⟨sg, A, rl, o⟩ p hp => ⟨p, .dK [], rfl, upd_same, trivial, fun od => ?_⟩)
      obtain ⟨z1, z2⟩ := born_dict (n := 0) (od := od) rl.trk (Sm.new hp) hp upd_same Rk.nil
      exact o _ z1 _ z2
    · cases h
  | bg f a iha =>
    intro X S W E' n b x c hf h
    replace h : ck_bg G f (chk G a) S b x = true := h
    unfold ck_bg at h
    split at h
    · simp only [Bool.and_eq_true] at h
      obtain ⟨⟨⟨h1, h2⟩, h3⟩, h5⟩ := h
      have e1 := strEq_iff.mp h1
      subst e1
      exact tf_of (B2.ok c.calm (by have := c.room.un; omega) f (c.gl h2) (c.g.blt _ (by cases f <;> simp [B2.nm, blts])) (iha (W := W) (E' := E') c hf h5) h3)
    · cases h
  | gdget j tab a iha =>
    intro X S W E' n b x c hf h
    replace h : ck_gdget G j tab (chk G a) S b x = true := h
    unfold ck_gdget at h
    split at h
    · simp only [Bool.and_eq_true] at h
      obtain ⟨⟨⟨⟨⟨h1, h2⟩, h3⟩, h4⟩, h5⟩, h6⟩ := h
      have e1 := strEq_iff.mp h1
      subst e1
      obtain ⟨k1, d, es, m, k2, k3, k4⟩ := c.g.dct j _ tab (tabIs_of h3)
      exact tf_of (e_gdget k3 k4 (c.gl h2) k2 k1 (iha (b := false) c hf h6) h4 h5 rfl)
    · cases h
  | calls j m args ih =>
    intro X S W E' n b x c hf h
    replace h : ck_calls G j m (chk G args) S b x = true := h
    unfold ck_calls at h
    split at h
    · rename_i y p u us q
      simp only [Bool.and_eq_true] at h
      obtain ⟨⟨⟨⟨h1, h1'⟩, h2⟩, h3⟩, h4⟩ := h
      split at h3
      · rename_i pr e
        obtain ⟨m', gd⟩ := pr
        simp only [Bool.and_eq_true] at h3
        have em : m' = m := Nat.eq_of_beq_eq_true h3.1
        subst em
        obtain ⟨k1, f, fd, ps, k2, k3, k4, k5⟩ := c.g.fn j y m' gd (nthP_at e)
        have hgd : gd = true → X.A.guards = some [] := fun z => by
          subst z
          exact c.gd (by simpa using h3.2)
        exact tf_of (e_callS k5 hgd c.room (c.gl h2) k2 k3 k4 c.ps (ih (W := W) (E' := E') c hf h4) k1 (star_cons h1) (star_any' h1'))
      · cases h3
    · cases h
  | mm f args ih =>
    intro X S W E' n b x c hf h
    replace h : ck_mm G f (chk G args) S b x = true := h
    unfold ck_mm at h
    split at h
    · simp only [Bool.and_eq_true] at h
      obtain ⟨⟨⟨⟨h1, h2⟩, h3⟩, h4⟩, h5⟩ := h
      have e1 := strEq_iff.mp h1
      subst e1
      have hb := c.g.blt f.nm (by cases f <;> simp [MM.nm, blts])
      exact tf_of (e_mm c.calm f (c.gl h2) hb (ih (W := W) (E' := E') c hf h5) (star_cons h3) (noStars h4))
    · cases h
  | get1 a k iha ihk =>
    intro X S W E' n b x c hf h
    replace h : ck_get1 G (chk G a) (chk G k) S b x = true := h
    unfold ck_get1 at h
    split at h
    · simp only [Bool.and_eq_true] at h
      obtain ⟨⟨⟨⟨h1, h2⟩, h3⟩, h4⟩, h5⟩ := h
      have e1 := strEq_iff.mp h1
      subst e1
      exact tf_of (e_get1 (by have := c.room.units; omega) (iha (b := true) c hf h4) (ihk (b := false) c hf h5) ⟨rfl, few_one h2, h3, by rw [star_cons h2]; rfl⟩)
    · cases h
  | get2 a k z iha ihk ihz =>
    intro X S W E' n b x c hf h
    replace h : ck_get2 G (chk G a) (chk G k) (chk G z) S b x = true := h
    unfold ck_get2 at h
    split at h
    · simp only [Bool.and_eq_true] at h
      obtain ⟨⟨⟨⟨⟨⟨h1, h2⟩, h2'⟩, h3⟩, h4⟩, h5⟩, h6⟩ := h
      have e1 := strEq_iff.mp h1
      subst e1
      exact tf_of (e_get2 (by have := c.room.units; omega) (iha (b := true) c hf h4) (ihk (b := false) c hf h5) (ihz (b := false) c hf h6) ⟨rfl, few_two h2 h2', h3, by rw [star_cons h2, star_cons h2']; rfl⟩)
    · cases h
  | dcv t it f k v vs ihi ihf ihk ihv =>
    intro X S W E' n b x c hf h
    replace h : ck_dcv G t (chk G it) (chk G f) (chk G k) (chk G v) vs S b x = true := h
    unfold ck_dcv at h
    split at h
    · simp only [Bool.and_eq_true] at h
      obtain ⟨⟨⟨⟨⟨⟨⟨⟨h1, h2⟩, h3⟩, h4⟩, h5⟩, h6⟩, h7⟩, h8⟩, h9⟩ := h
      have e2 := natsEq_of h2
      subst e2
      have ok := blkB_ok h1
      exact tf_of (e_dc (W' := WE fun _ _ _ => False) c.calm c.ndX (ihi c (fun z => by cases z) h6) (by rw [c.n, c.sc]; exact ok) (fun s H Z cl fp => (c.blk ok.kind s H Z cl fp).tg h5)
        (fun s H Z cl fp => ihf (c.blk ok.kind s H Z cl fp) (fun z => by cases z) h7) (fun s H Z cl fp => ihk (c.blk ok.kind s H Z cl fp) (fun z => by cases z) h8) (fun s H Z cl fp => ihv (c.blk ok.kind s H Z cl fp) (fun z => by cases z) h9) (set_plain h4) (subNats_of h3))
    · cases h
  | isi t a iha =>
    intro X S W E' n b x c hf h
    replace h : ck_isi G t (chk G a) S b x = true := h
    unfold ck_isi at h
    split at h
    · simp only [Bool.and_eq_true] at h
      obtain ⟨⟨⟨⟨⟨h1, h2⟩, h3⟩, h4⟩, h5⟩, h6⟩ := h
      have e1 := strEq_iff.mp h1
      subst e1
      have e2 := strEq_iff.mp (show strEq (t.nm : Str) _ = true from h3)
      subst e2
      have hb : bootBuiltins (t.nm : Str) = some (.type t.nm) := by cases t <;> decide +kernel
      have hm : X.mg (t.nm : Str) = none := c.g.blt _ (by cases t <;> simp [blts, Ty.nm])
      exact tf_of (e_isi (c.gl h2) (c.g.blt _ (by simp [blts])) (pe_bltn (c.gl h4) hm hb rfl (by cases t <;> decide) (by cases t <;> decide)) (iha c hf h6) (star_cons h5))
    · cases h
  | uq t it m vs ihi ihm =>
    intro X S W E' n b x c hf h
    replace h : ck_uq G t (chk G it) (chk G m) vs S b x = true := h
    unfold ck_uq at h
    split at h
    · rename_i scope _ _
      simp only [Bool.and_eq_true] at h
      obtain ⟨⟨⟨⟨⟨⟨⟨⟨h1, h2⟩, h3⟩, h4⟩, h5⟩, h6⟩, h7⟩, h8⟩, h9⟩ := h
      have e1 := strEq_iff.mp h1
      subst e1
      have e2 := natsEq_of h4
      subst e2
      have ok := blkB_ok h3
      refine tf_of (e_uniq2 (W' := WE fun _ _ _ => False) (by have := c.room.units; omega) (c.gl h2) (c.g.blt _ (by simp [blts])) c.calm c.ndX (ihi c (fun z => by cases z) h8) (by rw [c.n, c.sc]; exact ok) (fun s H Z cl fp => (c.blk ok.kind s H Z cl fp).tg h7)
        (fun s H Z cl fp => ihm (c.blk ok.kind s H Z cl fp) (fun z => by cases z) h9) (fun _ _ _ _ _ => pe_bl) (set_plain h6) (subNats_of h5))
    · cases h
  | gdin j tab a iha =>
    intro X S W E' n b x c hf h
    replace h : ck_gdin G j tab (chk G a) S b x = true := h
    unfold ck_gdin at h
    split at h
    · simp only [Bool.and_eq_true] at h
      obtain ⟨k1, d, es, m, k2, k3, k4⟩ := c.g.dct j _ tab (tabIs_of h.1.2)
      exact tf_of (e_gdin k3 k4 (pe_glob (v := .ref d) (c.gl h.1.1) k2 rfl k1) (iha c hf h.2) rfl)
    · cases h
  | gdix j tab a iha =>
    intro X S W E' n b x c hf h
    replace h : ck_gdix G j tab (chk G a) S b x = true := h
    unfold ck_gdix at h
    split at h
    · simp only [Bool.and_eq_true] at h
      obtain ⟨k1, d, es, m, k2, k3, k4⟩ := c.g.dct j _ tab (tabIs_of h.1.1.2)
      exact tf_of (e_gdix k3 k4 (pe_glob (v := .ref d) (c.gl h.1.1.1) k2 rfl k1) (iha c hf h.2) (slice_plain h.1.2))
    · cases h
  | dget ps a ihp iha =>
    intro X S W E' n b x c hf h
    replace h : ck_dget G (chk G ps) (chk G a) S b x = true := h
    unfold ck_dget at h
    split at h
    · simp only [Bool.and_eq_true, Bool.not_eq_true'] at h
      obtain ⟨⟨⟨⟨⟨⟨h1, h2⟩, h3⟩, h4⟩, h5⟩, h6⟩, h7⟩ := h
      have e1 := strEq_iff.mp h1
      subst e1
      refine tf_of (e_dget (by have := c.un; omega) (ihp c (fun z => by cases z) h6 _) ?_ (iha c hf h7) h2 h3 (Nat.le_of_ble_eq_true h4))
      intro z
      rw [z] at h5
      cases h5
    · cases h
  | hrd e ih =>
    intro X S W E' n b x c hf h
    replace h : ck_hrd G (chk G e) S b x = true := h
    unfold ck_hrd at h
    split at h
    · simp only [Bool.and_eq_true] at h
      obtain ⟨⟨⟨⟨⟨h1, h2⟩, h3⟩, h4⟩, h5⟩, h6⟩ := h
      have e1 := strEq_iff.mp h1
      subst e1
      exact tf_of (c.hear h3 _ _ _ _ _ _ _ (c.gl h2) (parG_ok h4) (by rw [c.sc, c.n]; exact lamB_ok h5) fun A outer s H E f c' hrm hgd => ih (b := false) (c.lm A outer s H E f c' hrm hgd) (fun z => by cases z) h6)
    · cases h
  | isx i j bs =>
    intro X S W E' n b x c hf h
    replace h : ck_isx G i j bs S b x = true := h
    unfold ck_isx at h
    split at h
    · simp only [Bool.and_eq_true] at h
      obtain ⟨⟨⟨⟨⟨h1, h2⟩, h3⟩, h4⟩, h5⟩, h6⟩ := h
      have e1 := strEq_iff.mp h1
      subst e1
      split at h6
      · rename_i q e
        obtain ⟨bs', f⟩ := q
        have eb : bs' = bs := boolsEq_of h6
        subst eb
        obtain ⟨k1, k2, k3, k4, k5, k6, k7⟩ := c.g.cls j _ bs' f (nthP_at e)
        exact tf_of (e_isx (c.nm h3) (c.vis h4) (c.dbgN h3).1 (c.dbgN h3).2 (c.gl h2) (c.g.blt _ (by simp [blts])) (c.gl h5) k2 k1 k6 fun q b e => ⟨(k7 q b e).1, (k7 q b e).2.1⟩)
      · cases h6
    · cases h
  | isnx i =>
    intro X S W E' n b x c hf h
    replace h : ck_isnx G i S b x = true := h
    unfold ck_isnx at h
    split at h
    · simp only [Bool.and_eq_true] at h
      exact tf_of (e_isnx (c.nm h.1) (c.vis h.2) (c.dbgN h.1).1 (c.dbgN h.1).2)
    · cases h
  | fldx i cs =>
    intro X S W E' n b x c hf h
    replace h : ck_fldx G i cs S b x = true := h
    unfold ck_fldx at h
    split at h
    · simp only [Bool.and_eq_true] at h
      refine tf_of (e_fldx (c.nm h.1.1) (c.vis h.1.2) (c.dbgN h.1.1).1 (c.dbgN h.1.1).2 fun q hq => ?_)
      obtain ⟨nm, bs, e⟩ := fldIs_of h.2 q hq
      obtain ⟨k1, k2, k3, k4, k5, k6, k7⟩ := c.g.cls q nm bs _ e
      exact ⟨k4, k5, k3.no⟩
    · cases h
  | slcs a lo hi st iha ihl ihh ihs =>
    intro X S W E' n b x c hf h
    replace h : ck_slcs G (chk G a) (chk G lo) (chk G hi) (chk G st) S b x = true := h
    unfold ck_slcs at h
    split at h
    · simp only [Bool.and_eq_true] at h
      exact tf_of (e_slS (iha c hf h.1.1.1) (ihl c hf h.1.1.2) (ihh c hf h.1.2) (ihs c hf h.2))
    · cases h
  | jn z a iha =>
    intro X S W E' n b x c hf h
    replace h : ck_jn G z (chk G a) S b x = true := h
    unfold ck_jn at h
    split at h
    · simp only [Bool.and_eq_true] at h
      obtain ⟨⟨⟨⟨h1, h2⟩, h3⟩, h4⟩, h5⟩ := h
      have e1 := strEq_iff.mp h1
      subst e1
      have e2 := strEq_iff.mp h2
      subst e2
      exact tf_of (e_join (iha c hf h5) (star_cons h3) h4)
    · cases h
  | trg a iha =>
    intro X S W E' n b x c hf h
    replace h : ck_trg G (chk G a) S b x = true := h
    unfold ck_trg at h
    split at h
    · simp only [Bool.and_eq_true] at h
      obtain ⟨⟨⟨⟨⟨h1, h2⟩, h3⟩, h4⟩, h5⟩, h7⟩ := h
      have e1 := strEq_iff.mp h1
      subst e1
      have e2 := strEq_iff.mp h3
      subst e2
      exact tf_of (e_trg c.calm (c.gl h2) (c.g.blt _ (by simp [blts])) (c.gl h4) (c.g.blt _ (by simp [blts])) (iha c hf h7) h5)
    · cases h
  | lvix i a iha =>
    intro X S W E' n b x c hf h
    replace h : ck_lvix G i (chk G a) S b x = true := h
    unfold ck_lvix at h
    split at h
    · simp only [Bool.and_eq_true] at h
      obtain ⟨⟨⟨h1, h2⟩, h3⟩, h4⟩ := h
      exact tf_of (e_lvix (c.nm h1) (c.vis h2) (c.dbgN h1).1 (c.dbgN h1).2 (iha (b := false) c hf h4) h3)
    · cases h
  | cdn =>
    intro X S W E' n b x c hf h
    replace h : ck_cdn G S b x = true := h
    unfold ck_cdn at h
    split at h
    · exact c_lnew
    · cases h
  | tlvin i a iha =>
    intro X S W E' n b x c hf h
    replace h : ck_tlvin G i (chk G a) S b x = true := h
    unfold ck_tlvin at h
    split at h
    · simp only [Bool.and_eq_true, Bool.not_eq_true'] at h
      obtain ⟨⟨⟨h1, h2⟩, h3⟩, h4⟩ := h
      exact t_lvin (c.nm h1) (c.vis h2) (c.dbgN h1).1 (c.dbgN h1).2 (iha (b := false) c hf h4) h3
    · cases h
  | lvky i =>
    intro X S W E' n b x c hf h
    obtain ⟨tg, it⟩ := x
    replace h : ck_lvky G i S b (tg, it) = true := h
    unfold ck_lvky at h
    dsimp only at h
    split at h
    · simp only [Bool.and_eq_true] at h
      exact i_lvky (c.nm h.1) (c.vis h.2) (c.dbgN h.1).1 (c.dbgN h.1).2
    · cases h
  | lst args ih =>
    intro X S W E' n b x c hf h
    replace h : ck_lst G (chk G args) S b x = true := h
    unfold ck_lst at h
    split at h
    · exact n_lst (ih c hf h)
    · cases h
  | addn a d iha ihd =>
    intro X S W E' n b x c hf h
    replace h : ck_addn G (chk G a) (chk G d) S b x = true := h
    unfold ck_addn at h
    split at h
    · simp only [Bool.and_eq_true] at h
      exact n_add (iha c hf h.1) (ihd c hf h.2)
    · cases h
  | lc t it f e vs ihi ihf ihe =>
    intro X S W E' n b x c hf h
    replace h : ck_lc G t (chk G it) (chk G f) (chk G e) vs S b x = true := h
    unfold ck_lc at h
    split at h
    · simp only [Bool.and_eq_true] at h
      obtain ⟨⟨⟨⟨⟨⟨⟨h1, h2⟩, h3⟩, h4⟩, h5⟩, h6⟩, h7⟩, h8⟩ := h
      have e2 := natsEq_of h2
      subst e2
      have ok := blkB_ok h1
      exact n_lc (W' := WE fun _ _ _ => False) c.calm c.ndX (ihi c (fun z => by cases z) h6) (by rw [c.n, c.sc]; exact ok) (fun s H Z cl fp => (c.blk ok.kind s H Z cl fp).tg h5)
        (fun s H Z cl fp => ihf (c.blk ok.kind s H Z cl fp) (fun z => by cases z) h7) (fun s H Z cl fp => ihe (c.blk ok.kind s H Z cl fp) (fun z => by cases z) h8) (set_plain h4) (subNats_of h3)
    · cases h
  | lc2 t it f t2 it2 f2 e vs us ihi ihf ihi2 ihf2 ihe =>
    intro X S W E' n b x c hf h
    replace h : ck_lc2 G t (chk G it) (chk G f) t2 (chk G it2) (chk G f2) (chk G e) vs us S b x = true := h
    unfold ck_lc2 at h
    split at h
    · simp only [Bool.and_eq_true] at h
      obtain ⟨⟨⟨⟨⟨⟨⟨⟨⟨⟨⟨⟨⟨h1, h2⟩, h3⟩, h4⟩, h5⟩, h6⟩, h7⟩, h8⟩, h9⟩, h10⟩, h11⟩, h12⟩, h13⟩, h14⟩ := h
      have e2 := natsEq_of h2
      subst e2
      have ok := blkB_ok h1
      exact n_lc2 (W' := WE fun _ _ _ => False) (W2 := WE fun _ _ _ => False) c.calm c.ndX (ihi c (fun z => by cases z) h10) (by rw [c.n, c.sc]; exact ok) (subNats_of h5) (fun s H Z cl fp => (c.blk ok.kind s H Z cl fp).tg h8)
        (fun s H Z cl fp => ihf (c.blk ok.kind s H Z cl fp) (fun z => by cases z) h11) (fun s H Z cl fp => ihi2 (c.blk ok.kind s H Z cl fp) (fun z => by cases z) h12) (fun s H Z cl fp => (c.blk ok.kind s H Z cl fp).tg h9)
        (fun s H Z cl fp => ihf2 (c.blk ok.kind s H Z cl fp) (fun z => by cases z) h13) (fun s H Z cl fp => ihe (c.blk ok.kind s H Z cl fp) (fun z => by cases z) h14) (set_plain h6) (fun env => set_plain h7) (subNats_of h3) (subNats_of h4)
    · cases h
  | lsn a iha =>
    intro X S W E' n b x c hf h
    replace h : ck_lsn G (chk G a) S b x = true := h
    unfold ck_lsn at h
    split at h
    · simp only [Bool.and_eq_true] at h
      have e1 := strEq_iff.mp h.1.1.1
      subst e1
      exact n_list (c.gl h.1.1.2) (c.g.blt _ (by simp [blts])) (iha c hf h.2) h.1.2
    · cases h
  | rgn a iha =>
    intro X S W E' n b x c hf h
    replace h : ck_rgn G (chk G a) S b x = true := h
    unfold ck_rgn at h
    split at h
    · simp only [Bool.and_eq_true] at h
      obtain ⟨⟨⟨⟨⟨h1, h2⟩, h3⟩, h4⟩, h5⟩, h7⟩ := h
      have e1 := strEq_iff.mp h1
      subst e1
      have e2 := strEq_iff.mp h3
      subst e2
      exact n_rng c.calm (c.gl h2) (c.g.blt _ (by simp [blts])) (c.gl h4) (c.g.blt _ (by simp [blts])) (iha c hf h7) h5
    · cases h
  | cv a iha =>
    intro X S W E' n b x c hf h
    exact c_val (iha (b := false) c hf h)
  | cn m ih =>
    intro X S W E' n b x c hf h
    exact c_new (ih (b := false) c hf h)
  | cd =>
    intro X S W E' n b x c hf h
    replace h : ck_cd G  S b x = true := h
    unfold ck_cd at h
    split at h
    · exact c_dnew
    · cases h
  | tr a iha =>
    intro X S W E' n b x c hf h
    replace h : ck_tr G (chk G a) S b x = true := h
    unfold ck_tr at h
    simp only [Bool.and_eq_true] at h
    exact p_tru (iha (b := true) c hf h.2) (plain_true h.1)
  | tcmp o a d iha ihd =>
    intro X S W E' n b x c hf h
    replace h : ck_tcmp G o (chk G a) (chk G d) S b x = true := h
    unfold ck_tcmp at h
    split at h
    · simp only [Bool.and_eq_true, Bool.not_eq_true'] at h
      obtain ⟨r, k1, k2⟩ := Cp.ok (X := X) c.un h.1.1.1
      exact p_cmp k1 k2 (iha c hf h.1.2) (ihd c hf h.2) h.1.1.2
    · cases h
  | tchn o o' a d f iha ihd ihf =>
    intro X S W E' n b x c hf h
    replace h : ck_tchn G o o' (chk G a) (chk G d) (chk G f) S b x = true := h
    unfold ck_tchn at h
    split at h
    · simp only [Bool.and_eq_true, Bool.not_eq_true'] at h
      obtain ⟨r, k1, k2⟩ := Cp.ok (X := X) c.un h.1.1.1.1.1
      obtain ⟨r', k3, k4⟩ := Cp.ok (X := X) c.un h.1.1.1.1.2
      exact p_chain k1 k3 k2 k4 (iha c hf h.1.1.2) (ihd c hf h.1.2) (ihf c hf h.2) h.1.1.1.2
    · cases h
  | tisn i =>
    intro X S W E' n b x c hf h
    replace h : ck_tisn G i S b x = true := h
    unfold ck_tisn at h
    split at h
    · simp only [Bool.and_eq_true] at h
      exact t_isnx (c.nm h.1) (c.vis h.2) (c.dbgN h.1).1 (c.dbgN h.1).2
    · cases h
  | trne a d iha ihd =>
    intro X S W E' n b x c hf h
    replace h : ck_trne G (chk G a) (chk G d) S b x = true := h
    unfold ck_trne at h
    split at h
    · simp only [Bool.and_eq_true] at h
      obtain ⟨⟨⟨⟨⟨⟨⟨h1, h2⟩, h3⟩, h4⟩, h5⟩, h6⟩, h7⟩, h8⟩ := h
      have e1 := strEq_iff.mp h2
      have e2 := strEq_iff.mp h3
      subst e1
      subst e2
      exact t_rne (c.gd h1) c.un (c.gl h4) (c.g.blt _ (by simp [blts])) (iha c hf h7) (ihd c hf h8) h5 h6
    · cases h
  | tgdin j tab a iha =>
    intro X S W E' n b x c hf h
    replace h : ck_tgdin G j tab (chk G a) S b x = true := h
    unfold ck_tgdin at h
    split at h
    · simp only [Bool.and_eq_true] at h
      obtain ⟨k1, d, es, m, k2, k3, k4⟩ := c.g.dct j _ tab (tabIs_of h.1.2)
      exact t_gdin k3 k4 (pe_glob (v := .ref d) (c.gl h.1.1) k2 rfl k1) (iha c hf h.2) rfl
    · cases h
  | tite q a d ihq iha ihd =>
    intro X S W E' n b x c hf h
    replace h : ck_tite G (chk G q) (chk G a) (chk G d) S b x = true := h
    unfold ck_tite at h
    split at h
    · simp only [Bool.and_eq_true] at h
      exact p_iteX (ihq (b := false) c (fun z => by cases z) h.1.1) (iha (b := false) c (fun z => by cases z) h.1.2) (ihd (b := false) c (fun z => by cases z) h.2)
    · cases h
  | tnot a iha =>
    intro X S W E' n b x c hf h
    replace h : ck_tnot G (chk G a) S b x = true := h
    unfold ck_tnot at h
    split at h
    · exact p_not (iha c hf h)
    · cases h
  | tbo w ih =>
    intro X S W E' n b x c hf h
    exact PW.pt (ih (b := false) c hf h)
  | w1 a iha =>
    intro X S W E' n b x c hf h
    replace h : ck_w1 G (chk G a) S b x = true := h
    unfold ck_w1 at h
    split at h
    · rename_i op u p
      cases op
      · exact w_and1 (iha c hf h)
      · exact w_or1 (iha c hf h)
    · cases h
  | wc i a r iha ihr =>
    intro X S W E' n b x c hf h
    replace h : ck_wc G i (chk G a) (chk G r) S b x = true := h
    unfold ck_wc at h
    split at h
    · simp only [Bool.and_eq_true] at h
      rcases bOp h.1.1 with ⟨rfl, rfl⟩ | ⟨rfl, rfl⟩
      · exact w_and (iha c hf h.1.2) (ihr c hf h.2)
      · exact w_or (iha c hf h.1.2) (ihr c hf h.2)
    · cases h
  | yes =>
    intro X S W E' n b x c hf h
    replace h : ck_yes G  S b x = true := h
    unfold ck_yes at h
    split at h
    · exact ⟨fun pins s σ H Q I ⟨sg, A, rl, o⟩ => pts_nil.run pins s σ H Q I (o H (Sm.refl _))⟩
    · cases h
  | one t ih =>
    intro X S W E' n b x c hf h
    replace h : ck_one G (chk G t) S b x = true := h
    unfold ck_one at h
    split at h
    · exact pts_one (ih c hf h)
    · cases h
  | nil =>
    intro X S W E' n b x c hf h
    replace h : ck_nil G  S b x = true := h
    unfold ck_nil at h
    split at h
    · exact a_nil
    · cases h
  | cons a r iha ihr =>
    intro X S W E' n b x c hf h
    replace h : ck_cons G (chk G a) (chk G r) S b x = true := h
    unfold ck_cons at h
    split at h
    · simp only [Bool.and_eq_true] at h
      exact a_cons (iha (b := false) c hf h.1.2) (ihr c hf h.2) (star_cons h.1.1)
    · cases h
  | star a r iha ihr =>
    intro X S W E' n b x c hf h
    replace h : ck_star G (chk G a) (chk G r) S b x = true := h
    unfold ck_star at h
    split at h
    · simp only [Bool.and_eq_true] at h
      exact a_star (iha (b := true) c hf h.1) (ihr c hf h.2)
    · cases h
  | seq a iha =>
    intro X S W E' n b x c hf h
    exact i_seq (iha (b := b) c hf h)
  | kys a iha =>
    intro X S W E' n b x c hf h
    obtain ⟨tg, it⟩ := x
    exact i_kys (iha (b := false) c hf h)
  | vls a iha =>
    intro X S W E' n b x c hf h
    obtain ⟨tg, it⟩ := x
    replace h : ck_vls G (chk G a) S b (tg, it) = true := h
    unfold ck_vls at h
    dsimp only at h
    split at h
    · simp only [Bool.and_eq_true] at h
      have e1 := strEq_iff.mp h.1.1.1
      subst e1
      exact i_vls (iha (b := false) c hf h.2) h.1.1.2 (attr_base h.1.2)
    · cases h
  | its a iha =>
    intro X S W E' n b x c hf h
    obtain ⟨tg, it⟩ := x
    replace h : ck_its G (chk G a) S b (tg, it) = true := h
    unfold ck_its at h
    dsimp only at h
    split at h
    · simp only [Bool.and_eq_true] at h
      have e1 := strEq_iff.mp h.1.1.1
      subst e1
      exact i_its (iha (b := false) c hf h.2) h.1.1.2 (attr_base h.1.2)
    · cases h
  | rng a iha =>
    intro X S W E' n b x c hf h
    obtain ⟨tg, it⟩ := x
    replace h : ck_rng G (chk G a) S b (tg, it) = true := h
    unfold ck_rng at h
    dsimp only at h
    split at h
    · simp only [Bool.and_eq_true] at h
      have e1 := strEq_iff.mp h.1.1.1
      subst e1
      exact i_rng (c.gl h.1.1.2) (c.g.blt _ (by simp [blts])) (iha (b := false) c hf h.2) (star_cons h.1.2)
    · cases h
  | zip a d iha ihd =>
    intro X S W E' n b x c hf h
    obtain ⟨tg, it⟩ := x
    replace h : ck_zip G (chk G a) (chk G d) S b (tg, it) = true := h
    unfold ck_zip at h
    dsimp only at h
    split at h
    · simp only [Bool.and_eq_true] at h
      obtain ⟨⟨⟨⟨⟨h1, h2⟩, h3⟩, h4⟩, h5⟩, h6⟩ := h
      have e1 := strEq_iff.mp h1
      subst e1
      exact i_zip (c.gl h2) (c.g.blt _ (by simp [blts])) (iha (b := b) c hf h5) (ihd (b := b) c hf h6) (star_cons h3) (star_cons h4)
    · cases h
  | enu a iha =>
    intro X S W E' n b x c hf h
    obtain ⟨tg, it⟩ := x
    replace h : ck_enu G (chk G a) S b (tg, it) = true := h
    unfold ck_enu at h
    dsimp only at h
    split at h
    · simp only [Bool.and_eq_true] at h
      obtain ⟨⟨⟨h1, h2⟩, h3⟩, h4⟩ := h
      have e1 := strEq_iff.mp h1
      subst e1
      exact i_enum (c.gl h2) (c.g.blt _ (by simp [blts])) (iha (b := b) c hf h4) (star_cons h3)
    · cases h
  | pno =>
    intro X S W E' n b x c hf h
    replace h : ck_pno G  S b x = true := h
    unfold ck_pno at h
    split at h
    · exact o_none
    · cases h
  | pso a iha =>
    intro X S W E' n b x c hf h
    replace h : ck_pso G (chk G a) S b x = true := h
    unfold ck_pso at h
    split at h
    · exact o_some (iha (b := false) c hf h)
    · cases h
  | rnil =>
    intro X S W E' n b x c hf h
    replace h : ck_rnil G  S b x = true := h
    unfold ck_rnil at h
    split at h
    · exact fun pos => prs_nil
    · cases h
  | rcons k v r ihk ihv ihr =>
    intro X S W E' n b x c hf h
    replace h : ck_rcons G (chk G k) (chk G v) (chk G r) S b x = true := h
    unfold ck_rcons at h
    split at h
    · simp only [Bool.and_eq_true] at h
      exact fun pos => prs_cons (ihk (b := false) c (fun z => by cases z) h.1.1) (ihv (b := false) c (fun z => by cases z) h.1.2) (ihr c (fun z => by cases z) h.2 pos)
    · cases h
  | done =>
    intro X S W E' n b x c hf h
    obtain rfl := c.we (hf rfl)
    replace h : ck_done G  S b x = true := h
    unfold ck_done at h
    split at h
    · exact s_nil
    · cases h
  | dead =>
    intro X S W E' n b x c hf h
    obtain rfl := c.we (hf rfl)
    exact pss_imp pss_never fun D σ H ⟨_, _, _, _, _, _, o⟩ => o.elim
  | set i d r ihd ihr =>
    intro X S W E' n b x c hf h
    obtain rfl := c.we (hf rfl)
    replace h : ck_set G i (chk G d) (chk G r) S b x = true := h
    unfold ck_set at h
    split at h
    · rename_i y py e p xs
      simp only [Bool.and_eq_true] at h
      obtain ⟨⟨⟨⟨h1, h2⟩, h3⟩, h4⟩, h5⟩ := h
      obtain ⟨k1, k2⟩ := c.wr y (loc_of h2)
      rw [← c.sc] at k1 k2
      refine s_cons (s_set c.ndX (c.nm h1) k1 (ihd c (fun z => by cases z) h4) ?_ k2) (ihr c hf h5)
      unfold chk.setOk at h3
      split at h3
      · simp only [Bool.or_eq_true, Bool.not_eq_true'] at h3
        rcases h3 with h3 | h3
        · refine sw_cell fun z => ?_
          rw [c.sc, ← nk_eq] at z
          rw [z] at h3
          cases h3
        · exact sw_line h3
      · simp only [Bool.or_eq_true, Bool.not_eq_true'] at h3
        rcases h3 with h3 | h3
        · refine sw_cellD fun z => ?_
          rw [c.sc, ← nk_eq] at z
          rw [z] at h3
          cases h3
        · exact sw_lineD h3
      · exact sw_none h3
    · cases h
  | cnil =>
    intro X S W E' n b x c hf h
    replace h : ck_cnil G  S b x = true := h
    unfold ck_cnil at h
    split at h
    · exact cels_nil
    · cases h
  | ccons i d r ihd ihr =>
    intro X S W E' n b x c hf h
    replace h : ck_ccons G i (chk G d) (chk G r) S b x = true := h
    unfold ck_ccons at h
    split at h
    · simp only [Bool.and_eq_true] at h
      exact cels_cons (ihd c (fun z => by cases z) h.1.2) (ihr c (fun z => by cases z) h.2) h.1.1
    · cases h
  | par l r ihl ihr =>
    intro X S W E' n b x c hf h
    obtain rfl := c.we (hf rfl)
    replace h : ck_par G (chk G l) (chk G r) (celIx l) S b x = true := h
    unfold ck_par at h
    split at h
    · rename_i ts kt pt vs k2 pt2 p xs
      simp only [Bool.and_eq_true] at h
      obtain ⟨⟨⟨⟨h1, h2⟩, h3⟩, h4⟩, h5⟩ := h
      have hl : Cels X C (WE E') (celIx l) vs (ev F hr (k := .cel) l) := ihl (b := false) c (fun z => by cases z) h4
      refine s_cons ?_ (ihr c hf h5)
      obtain ⟨ms, m1, m2, m3, m4⟩ := hl
      rw [Bool.or_eq_true] at h2
      rcases h2 with h2 | h2
      · obtain ⟨g1, g2⟩ := nmsOk_len h1
        have gl : ts.length = ms.length := by rw [g1, ← m1, List.length_map]
        refine s_parsN c.calm ?_ m3 m4 (by rw [m1]; exact c.nms h1) gl (assign_nostar g2) ?_ (sw_sole rfl) (assign_one rfl)
        · have := Nat.le_of_ble_eq_true h3
          rw [m2] at this
          rw [sizeLine_eq]; omega
        · unfold parA at h2
          rw [Bool.or_eq_true, Bool.or_eq_true] at h2
          rcases h2 with (h2 | h2) | h2
          · exact sw_cells (by rw [c.sc]; simpa using h2)
          · exact sw_long (by simpa using h2)
          · exact sw_fold (px := ⟨0, 0, 0, 0⟩) (py := ⟨0, 0, 0, 0⟩) h2
      · unfold parB at h2
        split at h2
        · rename_i i j y py z pz u w eix
          simp only [Bool.and_eq_true, Bool.not_eq_true'] at h2
          obtain ⟨⟨⟨⟨⟨⟨⟨⟨q3, q4⟩, q5⟩, q6⟩, q7⟩, q8⟩, q9⟩, q10⟩, q11⟩ := h2
          rw [eix] at h1 m1
          have h1' : (nthS S.N i y && locK (nk S.wr y) && (nthS S.N j z && locK (nk S.wr z) && nmsOk S [] [])) = true := h1
          simp only [Bool.and_eq_true] at h1'
          have k3 := isLoc_of q3
          have k4 := isLoc_of q4
          rw [← c.sc] at k3 k4
          have hij : i ≠ j := fun z => by
            subst z
            have : Nat.beq i i = true := Nat.beq_refl i
            rw [this] at q11; cases q11
          have hne := q6
          rw [strEq_eq] at hne
          match ms, m1 with
          | [(_, mc), (_, mc')], m1 =>
            simp only [List.map_cons, List.map_nil, List.cons.injEq] at m1
            obtain ⟨rfl, rfl, _⟩ := m1
            exact s_pars2 c.calm c.ndX (c.nm h1'.1.1) (c.nm h1'.2.1.1) hij k3 k4 m3 m4 (sw_par (c.tk (hf rfl)).2.2 k3 k4 q5 hne q7 q8 q9 q10) (sw_sole rfl)
        · rename_i i j l y py z pz q pq u w o eix
          simp only [Bool.and_eq_true, Bool.not_eq_true'] at h2
          obtain ⟨⟨⟨⟨⟨⟨⟨⟨⟨⟨⟨⟨⟨⟨⟨q1, q2⟩, q3⟩, q4⟩, q5⟩, q6⟩, q7⟩, q8⟩, q9⟩, q10⟩, q11⟩, q12⟩, q13⟩, q14⟩, q15⟩, q16⟩ := h2
          rw [eix] at h1 m1
          have h1' : (nthS S.N i y && locK (nk S.wr y) && (nthS S.N j z && locK (nk S.wr z) && (nthS S.N l q && locK (nk S.wr q) && nmsOk S [] []))) = true := h1
          simp only [Bool.and_eq_true] at h1'
          have k1 := isLoc_of q1
          have k2 := isLoc_of q2
          have k3 := isLoc_of q3
          rw [← c.sc] at k1 k2 k3
          have ne : ∀ {a b : Nat}, Nat.beq a b = false → a ≠ b := fun h z => by
            rw [z, Nat.beq_refl] at h; cases h
          rw [strEq_eq] at q6 q7 q8
          match ms, m1 with
          | [(_, mc), (_, mc'), (_, md)], m1 =>
            simp only [List.map_cons, List.map_nil, List.cons.injEq] at m1
            obtain ⟨rfl, rfl, rfl, _⟩ := m1
            exact s_pars3 c.calm c.ndX (c.nm h1'.1.1) (c.nm h1'.2.1.1) (c.nm h1'.2.2.1.1) (ne q14) (ne q15) (ne q16) k1 k2 k3 m3 m4 (sw_par3 (c.tk (hf rfl)).2.2 k1 k2 k3 q4 q5 q6 q7 q8 q9 q10 q11 q12 q13) (sw_sole rfl)
        · cases h2
    · cases h
  | asg t a r iha ihr =>
    intro X S W E' n b x c hf h
    obtain rfl := c.we (hf rfl)
    replace h : ck_asg G t (chk G a) (chk G r) S b x = true := h
    unfold ck_asg at h
    split at h
    · rename_i tg e p xs
      simp only [Bool.and_eq_true] at h
      obtain ⟨⟨⟨⟨⟨h1, h2⟩, h3⟩, h4⟩, h5⟩, h6⟩ := h
      refine s_cons (s_asg (iha (b := false) c (fun z => by cases z) h5) (c.tg h4) (sw_sole h1) ?_ (assign_one h2)) (ihr c hf h6)
      unfold chk.asgOk at h3
      split at h3
      · simp only [Bool.or_eq_true, Bool.not_eq_true'] at h3
        rcases h3 with h3 | h3
        · exact sw_long h3
        · exact sw_fold (px := ⟨0, 0, 0, 0⟩) (py := ⟨0, 0, 0, 0⟩) h3
      · exact sw_stores (by simpa using h3)
    · cases h
  | ret a r iha ihr =>
    intro X S W E' n b x c hf h
    obtain rfl := c.we (hf rfl)
    replace h : ck_ret G (chk G a) (chk G r) S b x = true := h
    unfold ck_ret at h
    split at h
    · simp only [Bool.and_eq_true] at h
      exact s_cons (s_ret (iha (b := false) c (fun z => by cases z) h.1)) (ihr c hf h.2)
    · cases h
  | ifs t u w r iht ihu ihw ihr =>
    intro X S W E' n b x c hf h
    obtain rfl := c.we (hf rfl)
    replace h : ck_ifs G (chk G t) (chk G u) (chk G w) (chk G r) S b x = true := h
    unfold ck_ifs at h
    split at h
    · simp only [Bool.and_eq_true] at h
      exact s_cons (s_if (iht c (fun z => by cases z) h.1.1.1) (ihu c hf h.1.1.2) (ihw c hf h.1.2)) (ihr c hf h.2)
    · cases h
  | exp a r iha ihr =>
    intro X S W E' n b x c hf h
    obtain rfl := c.we (hf rfl)
    replace h : ck_exp G (chk G a) (chk G r) S b x = true := h
    unfold ck_exp at h
    split at h
    · simp only [Bool.and_eq_true] at h
      exact s_cons (s_do (iha (b := false) c (fun z => by cases z) h.1.2) (sw_none h.1.1)) (ihr c hf h.2)
    · cases h
  | app i a r iha ihr =>
    intro X S W E' n b x c hf h
    obtain rfl := c.we (hf rfl)
    replace h : ck_app G i (chk G a) (chk G r) S b x = true := h
    unfold ck_app at h
    split at h
    · simp only [Bool.and_eq_true] at h
      obtain ⟨⟨⟨⟨⟨⟨h1, h2⟩, h3⟩, h4⟩, h5⟩, h6⟩, h7⟩ := h
      have e1 := strEq_iff.mp h1
      subst e1
      exact s_cons (s_app (c.nm h2) (c.vis h3) (c.dbgN h2).1 (c.dbgN h2).2 (iha (b := false) c (fun z => by cases z) h6) (few_one h4) h5 (star_cons h4)) (ihr c hf h7)
    · cases h
  | ext i a r iha ihr =>
    intro X S W E' n b x c hf h
    obtain rfl := c.we (hf rfl)
    replace h : ck_ext G i (chk G a) (chk G r) S b x = true := h
    unfold ck_ext at h
    split at h
    · simp only [Bool.and_eq_true] at h
      obtain ⟨⟨⟨⟨⟨⟨h1, h2⟩, h3⟩, h4⟩, h5⟩, h6⟩, h7⟩ := h
      have e1 := strEq_iff.mp h1
      subst e1
      exact s_cons (s_ext (c.nm h2) (c.vis h3) (c.dbgN h2).1 (c.dbgN h2).2 (iha (b := false) c (fun z => by cases z) h6) (few_one h4) h5 (star_cons h4)) (ihr c hf h7)
    · cases h
  | frz i r ihr =>
    intro X S W E' n b x c hf h
    obtain rfl := c.we (hf rfl)
    replace h : ck_frz G i (chk G r) S b x = true := h
    unfold ck_frz at h
    exact ss_frz i (ihr (b := false) c hf h)
  | frn i r ihr =>
    intro X S W E' n b x c hf h
    obtain rfl := c.we (hf rfl)
    replace h : ck_frn G i (chk G r) S b x = true := h
    unfold ck_frn at h
    exact ss_frn i (ihr (b := false) c hf h)
  | sda i k v r ihk ihv ihr =>
    intro X S W E' n b x c hf h
    obtain rfl := c.we (hf rfl)
    replace h : ck_sda G i (chk G k) (chk G v) (chk G r) S b x = true := h
    unfold ck_sda at h
    split at h
    · simp only [Bool.and_eq_true] at h
      obtain ⟨⟨⟨⟨⟨⟨⟨⟨⟨⟨h1, h2⟩, h3⟩, h4⟩, h5⟩, h6⟩, h7⟩, h8⟩, h9⟩, h10⟩, h11⟩ := h
      have e1 := strEq_iff.mp h1
      subst e1
      have e2 := strEq_iff.mp h2
      subst e2
      exact s_cons (s_sda (c.nm h3) (c.vis h4) (c.dbgN h3).1 (c.dbgN h3).2 (ihk (b := false) c (fun z => by cases z) h9) (ihv (b := false) c (fun z => by cases z) h10) ⟨rfl, by rw [star_cons h5]; rfl, h7, by rw [star_cons h5]; rfl⟩ rfl (few_one h6) h8 (star_cons h6)) (ihr c hf h11)
    · cases h
  | dput i k v r ihk ihv ihr =>
    intro X S W E' n b x c hf h
    obtain rfl := c.we (hf rfl)
    replace h : ck_dput G i (chk G k) (chk G v) (chk G r) S b x = true := h
    unfold ck_dput at h
    split at h
    · simp only [Bool.and_eq_true] at h
      obtain ⟨⟨⟨⟨⟨h1, h2⟩, h3⟩, h4⟩, h5⟩, h6⟩ := h
      exact s_cons (s_dput (by have := c.room.units; omega) (c.nm h1) (c.vis h2) (c.dbgN h1).1 (c.dbgN h1).2 (ihk (b := false) c (fun z => by cases z) h4) (ihv (b := false) c (fun z => by cases z) h5) (sw_none h3)) (ihr c hf h6)
    · cases h
  | lset i k v r ihk ihv ihr =>
    intro X S W E' n b x c hf h
    obtain rfl := c.we (hf rfl)
    replace h : ck_lset G i (chk G k) (chk G v) (chk G r) S b x = true := h
    unfold ck_lset at h
    split at h
    · simp only [Bool.and_eq_true] at h
      obtain ⟨⟨⟨⟨⟨⟨h1, h2⟩, h3⟩, h4⟩, h5⟩, h6⟩, h7⟩ := h
      exact s_cons (s_lset (c.nm h1) (c.vis h2) (c.dbgN h1).1 (c.dbgN h1).2 (ihk (b := false) c (fun z => by cases z) h5) (ihv (b := false) c (fun z => by cases z) h6) (sw_none h3) (asg_sub h4)) (ihr c hf h7)
    · cases h
  | aug i o a r iha ihr =>
    intro X S W E' n b x c hf h
    obtain rfl := c.we (hf rfl)
    replace h : ck_aug G i o (chk G a) (chk G r) S b x = true := h
    unfold ck_aug at h
    split at h
    · simp only [Bool.and_eq_true] at h
      obtain ⟨⟨⟨⟨h1, h2⟩, h3⟩, h4⟩, h5⟩ := h
      obtain ⟨k1, k2⟩ := c.wr _ (loc_of h2)
      rw [← c.sc] at k1 k2
      exact s_cons (s_aug c.ndX (c.nm h1) k1 (iha (b := false) c (fun z => by cases z) h4) (A2.ok h3) k2) (ihr c hf h5)
    · cases h
  | whl m cc d r ihc ihd ihr =>
    intro X S W E' n b x c hf h
    obtain rfl := c.we (hf rfl)
    replace h : ck_whl G m (chk G cc) (chk G d) (chk G r) S b x = true := h
    unfold ck_whl at h
    split at h
    · simp only [Bool.and_eq_true] at h
      obtain ⟨⟨h1, h2⟩, h3⟩ := h
      exact s_cons (s_while m (c.tk (hf rfl)).2.1 (ihc (b := false) c (fun z => by cases z) h1) (ihd c hf h2)) (ihr c hf h3)
    · cases h
  | fori t it d r ihi ihd ihr =>
    intro X S W E' n b x c hf h
    obtain rfl := c.we (hf rfl)
    replace h : ck_fori G t (chk G it) (chk G d) (chk G r) S b x = true := h
    unfold ck_fori at h
    split at h
    · simp only [Bool.and_eq_true] at h
      obtain ⟨⟨⟨⟨h1, h2⟩, h3⟩, h4⟩, h5⟩ := h
      exact s_cons (s_for (c.tk (hf rfl)).2.1 c.calm (ihi c (fun z => by cases z) h3) (c.tg h2) (ihd c hf h4) (set_plain h1)) (ihr c hf h5)
    · cases h
  | rse q a r iha ihr =>
    intro X S W E' n b x c hf h
    obtain rfl := c.we (hf rfl)
    replace h : ck_rse G q (chk G a) (chk G r) S b x = true := h
    unfold ck_rse at h
    split at h
    · simp only [Bool.and_eq_true] at h
      obtain ⟨⟨⟨⟨h1, h2⟩, h3⟩, h4⟩, h5⟩ := h
      obtain ⟨u, hu⟩ := Option.isSome_iff_exists.mp h2
      obtain ⟨bs, f⟩ := u
      obtain ⟨k1, k2, k3, _⟩ := c.g.cls q _ bs f (nthP_at hu)
      exact s_cons (s_raise c.calm (c.tk (hf rfl)).1 k3 (c.room.mono c.k2) (c.gl h1) k2 Ct.ps0 k1 (star_cons h3) (iha (b := false) c (fun z => by cases z) h4)) (ihr c hf h5)
    · cases h
  | tret a iha =>
    intro X S W E' n b x c hf h
    replace h : ck_tret G (chk G a) S b x = true := h
    unfold ck_tret at h
    split at h
    · exact b_ret (iha (b := false) c (fun z => by cases z) h)
    · cases h
  | tapp i a iha =>
    intro X S W E' n b x c hf h
    replace h : ck_tapp G i (chk G a) S b x = true := h
    unfold ck_tapp at h
    split at h
    · simp only [Bool.and_eq_true] at h
      obtain ⟨⟨⟨⟨⟨h1, h2⟩, h3⟩, h4⟩, h5⟩, h6⟩ := h
      have e1 := strEq_iff.mp h1
      subst e1
      exact b_app (c.nm h2) (c.vis h3) (c.dbgN h2).1 (c.dbgN h2).2 (iha (b := false) c (fun z => by cases z) h6) (few_one h4) h5 (star_cons h4)
    · cases h
  | tset i a iha =>
    intro X S W E' n b x c hf h
    replace h : ck_tset G i (chk G a) S b x = true := h
    unfold ck_tset at h
    split at h
    · simp only [Bool.and_eq_true] at h
      obtain ⟨⟨⟨h1, h2⟩, h3⟩, h4⟩ := h
      obtain ⟨k1, k2⟩ := c.wr _ (loc_of h2)
      rw [← c.sc] at k1 k2
      exact b_set c.ndX (c.nm h1) k1 (iha (b := false) c (fun z => by cases z) h4) (sw_none h3) k2
    · cases h
  | tif t u w iht ihu ihw =>
    intro X S W E' n b x c hf h
    replace h : ck_tif G (chk G t) (chk G u) (chk G w) S b x = true := h
    unfold ck_tif at h
    split at h
    · simp only [Bool.and_eq_true] at h
      exact b_if (iht c (fun z => by cases z) h.1.1) (ihu (b := false) c (fun z => by cases z) h.1.2) (ihw (b := false) c (fun z => by cases z) h.2)
    · cases h
  | try_ d hs r ihd ihr =>
    intro X S W E' n b x c hf h
    obtain rfl := c.we (hf rfl)
    replace h : ck_try_ G (chk G d) hs (chk G r) S b x = true := h
    unfold ck_try_ at h
    split at h
    · rename_i us es p xs
      simp only [Bool.and_eq_true] at h
      obtain ⟨⟨⟨h1, h2⟩, h3⟩, h4⟩ := h
      obtain ⟨ls, e, k⟩ := ckHds_ok c h2
      subst e
      cases ls with
      | nil => cases h1
      | cons l0 ls =>
        exact s_cons (s_try (c.fr (hf rfl)).1 (c.fr (hf rfl)).2 c.ndX (c.tk (hf rfl)).1 k fun W pn xe tk _ => ihd (c.tr tk) (fun z => by cases z) h3) (ihr c hf h4)
    · cases h
  | popa i t r ihr =>
    intro X S W E' n b x c hf h
    obtain rfl := c.we (hf rfl)
    replace h : ck_popa G i t (chk G r) S b x = true := h
    unfold ck_popa at h
    split at h
    · simp only [Bool.and_eq_true] at h
      obtain ⟨⟨⟨⟨⟨⟨h1, h2⟩, h3⟩, h4⟩, h5⟩, h6⟩, h7⟩ := h
      have e1 := strEq_iff.mp h1
      subst e1
      exact s_cons (s_popA (c.nm h2) (c.vis h3) (c.dbgN h2).1 (c.dbgN h2).2 h4 (c.tg h6) (sw_sole rfl) (sw_stores rfl) (assign_one h5)) (ihr c hf h7)
    · cases h
  | setl i o t it f e vs r ihi ihf ihe ihr =>
    intro X S W E' n b x c hf h
    obtain rfl := c.we (hf rfl)
    replace h : ck_setl G i o t (chk G it) (chk G f) (chk G e) vs (chk G r) S b x = true := h
    unfold ck_setl at h
    split at h
    · simp only [Bool.and_eq_true, Bool.not_eq_true'] at h
      obtain ⟨⟨⟨⟨⟨⟨⟨⟨⟨⟨⟨⟨h1, h2⟩, h3⟩, h4⟩, h5⟩, h6⟩, h7⟩, h8⟩, h9⟩, h10⟩, h11⟩, h12⟩, h13⟩ := h
      have e2 := natsEq_of h6
      subst e2
      have ok := blkB_ok h5
      have k2 := isLoc_of h2
      rw [← c.sc] at k2
      exact s_cons (s_setl (W' := WE fun _ _ _ => False) c.calm c.ndX (c.nm h1) k2 (sw_true (c.tk (hf rfl)).2.2 k2 h3 (ownNm_any h4)) (ihi c (fun z => by cases z) h10) (by rw [c.n, c.sc]; exact ok) (fun s H Z cl fp => (c.blk ok.kind s H Z cl fp).tg h9)
        (fun s H Z cl fp => ihf (c.blk ok.kind s H Z cl fp) (fun z => by cases z) h11) (fun s H Z cl fp => ihe (c.blk ok.kind s H Z cl fp) (fun z => by cases z) h12) (set_plain h8) (subNats_of h7)) (ihr c hf h13)
    · cases h
theorem sound {k : Kd} (e : E k) {X : Cx} {S : SE} {E' : XK} {n : Nat} {b : Bool} {x : k.obj} (c : Ct G X C S F hr E' n) (hf : isBlk k = true → S.fl = true) (h : chk G e S b x = true) : Snd X C (WE E') E' F hr e b x := soundW e c hf h
end
end Ev

namespace Ev
variable [Wd]
open PySem PySem.Spec PyProof.Rows L2
open PySem.W.Z (ltB leB eqB ltB_iff leB_iff eqB_iff)

/-! a function, run -/
def startS (n : Nat) (ds : List PyData) : SG := match ds with
  | [] => List.replicate n none
  | d :: ds => some (.v d) :: startS (n - 1) ds
def outF : Res Fl → Res PyData
  | .ok (.nx _) => .ok .none
  | .ok (.rt d) => .ok d
  | .exn c d => .exn c d
  | .bad => .bad
  | .ask n f => .ask n fun r => outF (f r)
def runF (F : Nat → List PyData → Res PyData) (hr : Res PyData → Res PyData) (n : Nat) (b : E .blk) (ds : List PyData) : Res PyData := outF (ev F hr b (startS n ds))
theorem startS_at : ∀ {n : Nat} {ds : List PyData} {i : Nat} {x : Sl}, (startS n ds)[i]? = some (some x) → ∃ d, x = .v d ∧ ds[i]? = some d
  | n, [], i, x, h => by
    unfold startS at h
    rw [List.getElem?_replicate] at h
    split at h <;> cases h
  | n, d :: ds, 0, x, h => by
    simp [startS] at h
    exact ⟨d, h.symm, rfl⟩
  | n, d :: ds, i + 1, x, h => by
    have h' : (startS (n - 1) ds)[i]? = some (some x) := by simpa [startS] using h
    obtain ⟨d', e, k⟩ := startS_at h'
    exact ⟨d', e, by simpa using k⟩
theorem startS_len : ∀ {n : Nat} {ds : List PyData}, ds.length ≤ n → (startS n ds).length = n
  | n, [], _ => by simp [startS]
  | 0, d :: ds, h => by simp at h
  | n + 1, d :: ds, h => by
    have := startS_len (n := n) (ds := ds) (by simpa using h)
    simp [startS, this]
def foreign (A : Ow) (n : Nat) : Ow := fun a => if (A a).isSome then some n else none
theorem foreign_some {A : Ow} {n : Nat} {a : Addr} : (foreign A n a).isSome = (A a).isSome := by
  unfold foreign
  split
  · rename_i h; rw [h]; rfl
  · rename_i h; simp at h; simp [h]
theorem hid_foreign {A : Ow} {n : Nat} {H : Hp} : hid (foreign A n) H = hid A H := by
  funext b
  unfold hid
  rw [foreign_some]
/-- the same but for draws -/
structure Dn (H Hc : Hp) : Prop where
  off : ∀ a, a ≠ Wd.d → Hc a = H a
  at_ : Hc Wd.d = H Wd.d ∨ ((∃ T0, H Wd.d = some (drO T0)) ∧ ∃ Tc, Hc Wd.d = some (drO Tc))
theorem Dn.refl (H : Hp) : Dn H H := ⟨fun _ _ => rfl, .inl rfl⟩
theorem Dn.drn {H Hc : Hp} {T : Nat} (n : Dn H Hc) (e : Hc Wd.d = some (drO T)) : Dn H (drn Hc T) := ⟨fun a ha => by unfold Ev.drn; rw [upd_ne ha]; exact n.off a ha, .inr ⟨by
  rcases n.at_ with z | ⟨z, _⟩
  · exact ⟨T, by rw [← z]; exact e⟩
  · exact z, T + 1, upd_same⟩⟩
theorem Dn.sm {TT : List (Addr × Str)} {H Hc H' : Hp} (n : Dn H Hc) (s : Sw TT H H') (q : Tq Hc H') : Sm TT Hc H' := by
  refine ⟨⟨fun a o e k => ?_⟩, fun t => s.tab ?_, fun a e => ?_⟩
  · by_cases ha : a = Wd.d
    · subst ha
      by_cases hd : ∃ T, o = drO T
      · obtain ⟨T, rfl⟩ := hd
        exact q T e
      · have hd' : ∀ T, o ≠ drO T := fun T z => hd ⟨T, z⟩
        rcases n.at_ with z | ⟨_, Tc, z⟩
        · exact s.ex.at_ _ o (by rw [← z]; exact e) k (.inr hd')
        · rw [z] at e
          exact absurd (Option.some.inj e).symm (hd' Tc)
    · exact s.ex.at_ a o (by rw [← n.off a ha]; exact e) k (.inl ha)
  · rcases n.at_ with z | ⟨⟨T0, z0⟩, Tc, z⟩
    · have : H = Hc := by
        funext b
        by_cases hb : b = Wd.d
        · rw [hb]; exact z.symm
        · exact (n.off b hb).symm
      rw [this]; exact t
    · have : H = upd Hc Wd.d (drO T0) := by
        funext b
        by_cases hb : b = Wd.d
        · rw [hb, upd_same]; exact z0
        · rw [upd_ne hb]; exact (n.off b hb).symm
      rw [this]; exact tabs_upd z t
  · have h := s.live a e
    by_cases ha : a = Wd.d
    · subst ha
      rcases n.at_ with z | ⟨⟨T0, z0⟩, _⟩
      · rw [z]; exact h
      · rw [z0] at h; cases h
    · rw [n.off a ha]; exact h
theorem body_ok {K : PySem.W.Frag} {C : CT} {E' : XK} {N : List Str} {b : SG → Res Fl} {ds : List PyData} {vs : List V} {A : Ow} {H : Hp} {Q : VK} (hl : vs.length ≤ N.length) (r : Rs K (hid A H) ds vs) (t : Trk A H) (tb : LamX.Tabs C.tabs H)
    (o : Out K C A E' H (outF (b (startS N.length ds))) fun d H' => ∀ v, R K (hid A H') d v → Q v H') : TSt K C E' b { nx := fun _ H' => Q .non H', rt := Q } (L2.start N vs) H := by
  have hds : ds.length = vs.length := r.length.symm
  have hsl : (L2.start N vs).length = N.length := by
    unfold L2.start
    simp
    omega
  have ext : ∀ {A' : Ow} {n : Nat} {H1 H' : Hp}, (∀ a, (A a).isSome = true → (A' a).isSome = true) → Ex (hid A' H') (hid A H') := fun {A' n H1 H'} h => Exs.w ⟨fun a o e _ => by
    unfold hid at e ⊢
    split at e
    · cases e
    · rename_i z
      rw [if_neg fun y => z (h a y)]; exact e⟩
  refine ⟨startS N.length ds, foreign A N.length, A, H, ⟨by rw [startS_len (by omega), hsl], fun i x e => ?_, fun a h => t a (by rw [← foreign_some]; exact h), tb⟩, ⟨t, (Sm.refl _).w, fun a h => by unfold foreign; rw [if_pos h, hsl], fun a i h hi => ?_⟩, ?_⟩
  · obtain ⟨d', e1, e2⟩ := startS_at e
    subst e1
    obtain ⟨v, h1, h2⟩ := r.get e2
    refine ⟨v, ?_, by show R K (hid (foreign A N.length) H) d' v; rw [hid_foreign]; exact h2⟩
    have hi : i < vs.length := (List.getElem?_eq_some_iff.mp h1).1
    unfold L2.start
    rw [List.getElem?_append_left (by simpa using hi), List.getElem?_map, h1]; rfl
  · unfold foreign at h
    split at h
    · cases h
      rw [hsl] at hi
      exact absurd hi (Nat.lt_irrefl _)
    · cases h
  · have key : ∀ {A' : Ow} {n : Nat} {H' : Hp}, Bod C.tabs A H n A' H' → ∀ a, (A a).isSome = true → (A' a).isSome = true := fun {A' n H'} bo a h => by rw [bo.ext a h]; rfl
    have main : ∀ (r : Res Fl) (Hc : Hp), Dn H Hc → Out K C A E' Hc (outF r) (fun d H' => ∀ v, R K (hid A H') d v → Q v H') → SOut K C E' A H { nx := fun _ H' => Q .non H', rt := Q } (L2.start N vs).length (foreign A N.length) Hc r := by
      intro r
      induction r with
      | bad => exact fun Hc dn o => o
      | exn c d =>
        intro Hc dn o A' H' cx dx bo t' q' x
        have e := ext (n := 0) (H1 := H') (H' := H') (key bo)
        obtain ⟨x1, q, v, x2, x3, x4⟩ := x
        exact o H' cx dx (dn.sm bo.sm q') (t.mono bo.sm.e) ⟨x1, q, v, x2, e.g _ _ x3, x4.mono e⟩
      | ok f =>
        intro Hc dn o
        cases f with
        | nx sg => exact fun σ' A' H' _ _ bo q' _ => o H' (dn.sm bo.sm q') _ R.none'
        | rt d => exact fun A' H' v bo _ q' q => o H' (dn.sm bo.sm q') v (q.mono (ext (n := 0) (H1 := H') (key bo)))
      | ask n f ih =>
        intro Hc dn o
        obtain ⟨o1, T, e, o2, o3⟩ := o
        exact ⟨o1, T, e, o2, fun r h0 h1 => ih r _ (dn.drn e) (o3 r h0 h1)⟩
    exact main _ H (Dn.refl H) o
section
variable {P : Program} {w : World} {K : PySem.W.Frag} {mg : Str → Option Value} {base : Heap} {G : GS} {C : CT} {F : Nat → List PyData → Res PyData} {hr : Res PyData → Res PyData}
/-- a function of the text whose body is like b -/
theorem fn_sound {gd lam : Bool} {k n : Nat} {f : Addr} {name qual : Str} {params : Arguments} {body : List Stmt} {scope : Scope} {dV kV doc pm cdv ct oc : Value} {an od : Option Addr} {osl : Array (Option Value)} {N ps : List Str} {b : E .blk}
    (lk : K.lookup f = some ⟨oc, od, .func (PySem.W.fnOf name qual params body scope dV kV doc pm an cdv ct), osl⟩) (hcd : PySem.W.codeIn K cdv qual = true) (S : FnScope N ps scope) (dbg : ∀ x ∈ N, (x == ("__debug__" : Str)) = false ∧ (x == ("__classdict__" : Str)) = false)
    (hk : 2 ≤ n) (hnk : n ≤ k) (hg : Glob G P w K mg base C F n) (hc : chk G b ⟨N, scope, scope.names, true, gd, lam⟩ false body = true)
    (hh : lam = true → ∀ (A : Around) (outer : List Env) (s : Shared) (H : Hp) (E' : XK), Room k (A.deeper (envOfC qual scope s.heap.objs.size f cdv)) → HearOk G (cxOf (CX P w) P w K mg base N qual scope f cdv A outer s H E') C hr E' n) :
    FnG P w K mg base gd (k + 1) f (PySem.W.fnOf name qual params body scope dV kV doc pm an cdv ct) ps (spG K C ps.length (runF F hr N.length b)) := by
  refine fnG_of lk hcd S (fun vs H Q E h => h.1) fun A outer s H vs Q E' hgd hrm hs => ?_
  obtain ⟨hl, ds, A0, r, t, tb, o⟩ := hs
  have hpl : ps.length ≤ N.length := by
    have := congrArg List.length S.pre
    rw [List.length_take] at this; omega
  let X := cxOf (CX P w) P w K mg base N qual scope f cdv A outer s H E'
  have tk : Takes X (WE E') := takes_of (X := X) (E := E') rfl rfl rfl rfl
  have c : Ct G X C ⟨N, scope, scope.names, true, gd, lam⟩ F hr E' n :=
    { n := rfl, sc := rfl, nd := S.nd, dbg := dbg, wr := fun x h => ⟨h, .inl rfl⟩, calm := rfl, room := hrm.mono hnk, k2 := hk, gd := hgd, ps := passes_call tk fun _ _ _ _ h => h, tk := fun _ => ⟨tk, passes_of (X := X) rfl, S.kind⟩, g := hg, hear := fun z => hh z A outer s H E' hrm }
  exact ⟨_, sound (hr := hr) b c (fun _ => rfl) hc, body_ok (by omega) r t tb o⟩
end
end Ev

/-! a lambda with one parameter that has a constant for default, never given -/
namespace PySem.W
open PySem PySem.Spec PySem.Calls PyProof.Rows
abbrev fdD (qual : Str) (params : Arguments) (body : Expr) (scope : Scope) (cl : List (Str × Addr)) (dV pm cv ct : Value) : FuncData :=
  { name := "<lambda>", qualname := qual, params, body := .expr body, scope, globals := mainGlobals, closure := cl, defaults := dV, kwdefaults := .none, doc := .none, pyModule := pm, annotations := none, code := cv, closureTuple := ct, builtins := builtinsNs }
abbrev obD (qual : Str) (params : Arguments) (body : Expr) (scope : Scope) (cl : List (Str × Addr)) (dV pm : Value) (c' : Addr) (ct : Value) : Obj := { cls := .type "function", data := .func (fdD qual params body scope cl dV pm (.ref c') ct) }
section
variable {M : Model} {A : Around} {E : Value → Shared → Prop} {s : Shared} {qual : Str} {params : Arguments} {body : Expr} {scope : Scope} {env : Env} {c P : Addr} {ps : Array Value} {pos : Pos} {ln : Nat} {mg : Str → Option Value} {clos : List (Str × Addr)} {Q : Value → Shared → Prop} {dV : Value}
theorem tailD (hcl : closureFor scope env = pure clos) (g0 : env.globals = mainGlobals) (hg : s.heap.Ns mainGlobals mg) (hcode : env.code = .ref c) (C : CodeHd s.heap c P) (hP : s.heap.get? P = some (tabObj ps)) (ht : TriplesOk ps.toList) (hnf : codeAmong pos ps.toList = none) (hgP : mainGlobals ≠ P) (hb : s.heap.BuiltinsAt mg P)
    (fin : ∀ c' ct h' tk, Heap.ExtBut P s.heap h' → s.heap.objs.size ≤ c' → c' < h'.objs.size → h'.CodeRec (.ref c') qual → h'.get? P = some (tabObj (ps ++ #[rawInt pos.line, rawInt pos.col, .ref c'])) → Q (.ref h'.objs.size) { s with heap := h'.push (obD qual params body scope clos dV ((mg "__name__").getD .none) c' ct), toks := tk }) :
    wpAny M A (makeTail "<lambda>" qual params (.expr body) scope env dV .none none pos ln) Q E s := by
  obtain ⟨bm, ob, b1, b2, _, b4, b5, b6, b7, b8⟩ := hb
  unfold makeTail; rw [hcl, g0]; refine wpAny_bind (wpAny_pure ?_)
  cases clos with
  | nil =>
    simp only [List.isEmpty_nil, if_true]
    refine wpAny_bind (wpAny_pure (wpAny_bind (wpAny_functionCodeX hcode (C.code hP ht) (C.tab hP) hnf fun c' h' tk hx ge lt _ rec tb _ => ?_)))
    have hg' := hg.extBut hx hgP
    exact wpAny_bind (wpAny_builtinsFor hg' b1 b2 (hx _ _ b4 b5) b6 b7 b8 (wpAny_bind (wpAny_nsGet hg' (wpAny_bind (wpAny_pure (wpAny_newObj_type (fin c' .none h' tk hx ge lt rec tb.2) (by size_fits)))))))
  | cons q r =>
    simp only [List.isEmpty_cons, Bool.false_eq_true, if_false]
    have C' : CodeHd (s.heap.push { cls := .type "tuple", data := .seq (((q :: r).mergeSort fun a b => a.1.cps.toList ≤ b.1.cps.toList).map (.ref ·.2)).toArray }) c P := C.keeps fun b o e => Heap.get?_push_of_some _ e
    refine wpAny_bind (wpAny_newTextTuple (wpAny_bind (wpAny_functionCodeX hcode (C'.code (Heap.get?_push_of_some _ hP) ht) (C'.tab (Heap.get?_push_of_some _ hP)) hnf fun c' h' tk hx ge lt _ rec tb _ => ?_)))
    have hg' := (hg.push _).extBut hx hgP
    have hx' : Heap.ExtBut P s.heap h' := fun b o n e => hx b o n (Heap.get?_push_of_some _ e)
    exact wpAny_bind (wpAny_builtinsFor hg' b1 b2 (hx' _ _ b4 b5) b6 b7 b8 (wpAny_bind (wpAny_nsGet hg' (wpAny_bind (wpAny_pure (wpAny_newObj_type (fin c' _ h' tk hx' (Nat.le_trans (by rw [Heap.size_push]; omega) ge) lt rec tb.2) (by size_fits)))))))
theorem tailDhit {cv : Value} (hcl : closureFor scope env = pure clos) (g0 : env.globals = mainGlobals) (hg : s.heap.Ns mainGlobals mg) (hcode : env.code = .ref c) (C : CodeHd s.heap c P) (hP : s.heap.get? P = some (tabObj ps)) (ht : TriplesOk ps.toList) (hf : codeAmong pos ps.toList = some cv) (hb : s.heap.BuiltinsAt mg P)
    (fin : ∀ (ct : Value) (h' : Heap) (tk : Tok), (∀ b o, s.heap.get? b = some o → h'.get? b = some o) → s.heap.objs.size ≤ h'.objs.size → Q (.ref h'.objs.size) { s with heap := h'.push { cls := .type "function", data := .func (fdD qual params body scope clos dV ((mg "__name__").getD .none) cv ct) }, toks := tk }) :
    wpAny M A (makeTail "<lambda>" qual params (.expr body) scope env dV .none none pos ln) Q E s := by
  obtain ⟨bm, ob, b1, b2, _, b4, b5, b6, b7, b8⟩ := hb
  unfold makeTail; rw [hcl, g0]; refine wpAny_bind (wpAny_pure ?_)
  cases clos with
  | nil =>
    simp only [List.isEmpty_nil, if_true]
    refine wpAny_bind (wpAny_pure (wpAny_bind (wpAny_functionCode_hit hcode (C.code hP ht) hf ?_)))
    refine wpAny_bind (wpAny_builtinsFor hg b1 b2 b5 b6 b7 b8 (wpAny_bind (wpAny_nsGet hg ?_)))
    exact wpAny_bind (wpAny_pure (wpAny_newObj_type (fin .none s.heap s.toks (fun _ _ e => e) (Nat.le_refl _)) (by size_fits)))
  | cons q r =>
    simp only [List.isEmpty_cons, Bool.false_eq_true, if_false]
    have sz : ∀ oT : Obj, s.heap.objs.size ≤ (s.heap.push oT).objs.size := fun oT => by rw [Heap.size_push]; omega
    refine wpAny_bind (wpAny_newTextTuple (wpAny_bind (wpAny_functionCode_hit hcode ((C.keeps fun b o e => Heap.get?_push_of_some _ e).code (Heap.get?_push_of_some _ hP) ht) hf ?_)))
    refine wpAny_bind (wpAny_builtinsFor (hg.push _) b1 b2 (Heap.get?_push_of_some _ b5) b6 b7 b8 (wpAny_bind (wpAny_nsGet (hg.push _) ?_)))
    exact wpAny_bind (wpAny_pure (wpAny_newObj_type (fin _ _ s.toks (fun b o e => Heap.get?_push_of_some _ e) (sz _)) (by size_fits)))
/-- lambda a=k: body -/
theorem evalD {i : Int} {kk : Nat} {cp : Pos} {ag : Arg} (hp : params = { posonlyargs := [], args := [ag], vararg := none, kwonlyargs := [], kw_defaults := [], kwarg := none, defaults := [.Constant (.int i) kk cp] })
    (fin : ∀ t tk, wpAny M A (makeTail "<lambda>" (env.qual ++ "<lambda>") params (.expr body) scope env (.ref s.heap.objs.size) .none none pos pos.line) Q E { s with heap := s.heap.push { cls := .type "tuple", data := .seq #[.int i t] }, toks := tk }) :
    wpAny M A (eval (.Lambda params body scope pos) env) Q E s := by
  subst hp
  rw [arm_eval_Lambda]
  show wpAny M A (do let dv ← evalAll [eval (.Constant (.int i) kk cp) env]; let kdv ← holding dv (evalAllOpt []); makeFunction "<lambda>" (env.qual ++ "<lambda>") _ (.expr body) scope env dv kdv [] pos pos.line) Q E s
  refine wpAny_bind ?_
  show wpAny M A (do let v ← eval (.Constant (.int i) kk cp) env; return v :: (← holding [v] (evalAll []))) _ E s
  refine wpAny_bind (wpAny_Constant_int ?_)
  refine wpAny_bind (wpAny_holding (wpAny_pure (wpAny_pure (wpAny_bind (wpAny_holding (wpAny_pure ?_))))))
  rw [makeFunction_eq]
  simp only [List.zip_nil_right, List.filterMap_nil, List.isEmpty_nil, List.isEmpty_cons, if_true, Bool.false_eq_true, if_false, pure_bind]
  exact wpAny_bind (wpAny_newTextTuple (fin _ _))
end
end PySem.W

namespace Ev
variable [Wd]
open PySem PySem.Spec PyProof.Rows L2
open LamX (ExtN Tabs TabS TabB CodeO codeO_ne inv_table among_app)
section
variable {X : Cx} {pins : List (Addr × Obj)} {σ : L2.St} {H : Hp} {s : Shared}
abbrev lq (X : Cx) : Str := X.env.qual ++ "<lambda>"
theorem lam_tailD {T : List (Addr × Str)} {c P : Addr} {params : Arguments} {body : Expr} {scope : Scope} {pos : Pos} {dV : Value} {E Q : Value → Shared → Prop} (I : Inv X pins σ H s) (B : TabB X.base X.mg c P) (hcode : X.env.code = .ref c) (hm : (P, lq X) ∈ T) (hu : ∀ p ∈ T, p.1 = P → p.2 = lq X) (hT : Tabs T H)
    (hfree : ∀ y ∈ scope.names, y.2 = .free → ∃ c, X.env.cells.lookup y.1 = some c)
    (fin : ∀ (f c' : Addr) (pm ct : Value) (H1 : Hp) (s' : Shared), Inv X pins σ H1 s' → Sm T H H1 → s'.heap.get? f = some (PySem.W.obD (lq X) params body scope (cloFrom X.env.cells scope.names []) dV pm c' ct) → H1 f = none → f ∉ frs X.stack → H1 c' = some (CodeO c' (lq X)) → Q (.ref f) s') :
    wpAny (model X.prog X.w) X.A (PySem.makeTail "<lambda>" (lq X) params (.expr body) scope X.env dV .none none pos pos.line) Q E s := by
  obtain ⟨ps, hP, ht, ha⟩ := hT _ hm
  have bP : s.heap.BuiltinsAt X.mg P := B.bm.keeps I.bk
  have hP' : s.heap.get? P = some { cls := .none, data := .fields ps } := I.hok P _ hP
  have off : ∀ f, s.heap.objs.size ≤ f → f ∉ frs X.stack := fun f hf z => by
    rcases List.mem_cons.mp (I.stkSub _ z) with e | e
    · have := I.lt
      rw [← e] at this
      exact Nat.lt_irrefl _ (Nat.lt_of_lt_of_le this hf)
    · exact I.nofs hf e
  cases hc : codeAmong pos ps.toList with
  | none =>
    refine PySem.W.tailD (mg := X.mg) (c := c) (P := P) (ps := ps) (closure_ok hfree) I.ok.glob (I.mod.glob.keeps I.bk) hcode (B.code.keeps I.bk) hP' ht hc B.gP bP fun c' ct h' tk hx ge lt rec tb => ?_
    obtain ⟨c2, oc, vs, t, e2, hoc, hd, hv⟩ := rec
    cases e2
    have hsz : s.heap.objs.size ≤ h'.objs.size := Nat.le_trans ge (Nat.le_of_lt lt)
    have nC : H c' = none := I.hok.fresh ge
    have J := inv_table (t' := tk) (more := #[rawInt pos.line, rawInt pos.col, .ref c']) (h' := h'.push (PySem.W.obD (lq X) params body scope (cloFrom X.env.cells scope.names []) dV ((X.mg "__name__").getD .none) c' ct)) I hP
      (fun b o n e => Heap.get?_push_of_some _ (hx b o n e)) (Heap.get?_push_of_some _ tb) ge ⟨oc, vs, t, Heap.get?_push_of_some _ hoc, hd, hv⟩
    have hE : ExtN H (upd (upd H P (.tbl (ps ++ #[rawInt pos.line, rawInt pos.col, .ref c']))) c' (CodeO c' (lq X))) := fun b o e n => by
      rw [upd_ne (ne_of_none e nC), upd_ne (fun z => n ps (by rw [← Option.some.injEq, ← e, z]; exact hP))]
      exact e
    have eL : (ps ++ #[rawInt pos.line, rawInt pos.col, .ref c']).toList = ps.toList ++ [rawInt pos.line, rawInt pos.col, .ref c'] := by simp
    have hE2 : Exs H (upd (upd H P (.tbl (ps ++ #[rawInt pos.line, rawInt pos.col, .ref c']))) c' (CodeO c' (lq X))) := ⟨fun b o e n => hE b o e fun q z => by rw [z] at n; exact n⟩
    refine fin h'.objs.size c' ((X.mg "__name__").getD .none) ct _ _ J ⟨hE2, fun _ p hp => ?_, fun b e => ?_⟩ (Heap.get?_push_size _ rfl) ?_ (off _ hsz) upd_same
    · by_cases hb : p.1 = P
      · rw [hu p hp hb, hb]
        refine ⟨_, by rw [upd_ne (ne_of_none hP nC), upd_same], by rw [eL]; exact PySem.TriplesOk_snoc _ _ _ _ ht, fun p' cv z => ?_⟩
        rw [eL] at z
        rcases among_app _ ht z with z | z
        · obtain ⟨c0, e1, e2⟩ := ha p' cv z
          exact ⟨c0, e1, hE _ _ e2 codeO_ne⟩
        · exact ⟨c', z, upd_same⟩
      · obtain ⟨ps', a1, a2, a3⟩ := hT p hp
        refine ⟨ps', by rw [upd_ne (ne_of_none a1 nC), upd_ne hb]; exact a1, a2, fun p' cv z => ?_⟩
        obtain ⟨c0, e1, e2⟩ := a3 p' cv z
        exact ⟨c0, e1, hE _ _ e2 codeO_ne⟩
    · by_cases hb : b = c'
      · rw [hb]; exact nC
      · rw [upd_ne hb] at e
        by_cases hb2 : b = P
        · rw [hb2, upd_same] at e; cases e
        · rw [upd_ne hb2] at e; exact e
    · rw [upd_ne (Nat.ne_of_gt lt), upd_ne (Nat.ne_of_gt (Nat.lt_of_lt_of_le (Heap.lt_size hP') hsz))]
      exact I.hok.fresh hsz
  | some cv =>
    obtain ⟨c', e, hco⟩ := ha pos cv hc
    subst e
    refine PySem.W.tailDhit (mg := X.mg) (c := c) (P := P) (ps := ps) (closure_ok hfree) I.ok.glob (I.mod.glob.keeps I.bk) hcode (B.code.keeps I.bk) hP' ht hc bP fun ct h' tk hx hsz => ?_
    exact fin h'.objs.size c' ((X.mg "__name__").getD .none) ct H _ (I.kept fun b o e => Heap.get?_push_of_some _ (hx b o e)) (Sm.refl H) (Heap.get?_push_size _ rfl) (I.hok.fresh hsz) (off _ hsz) hco
theorem lam_makeD {T : List (Addr × Str)} {c P : Addr} {params : Arguments} {body : Expr} {scope : Scope} {pos : Pos} {i : Int} {kk : Nat} {cp : Pos} {ag : Arg} {E Q : Value → Shared → Prop} (I : Inv X pins σ H s) (B : TabB X.base X.mg c P) (hcode : X.env.code = .ref c) (hm : (P, lq X) ∈ T) (hu : ∀ p ∈ T, p.1 = P → p.2 = lq X) (hT : Tabs T H)
    (hp : params = { posonlyargs := [], args := [ag], vararg := none, kwonlyargs := [], kw_defaults := [], kwarg := none, defaults := [.Constant (.int i) kk cp] }) (hfree : ∀ y ∈ scope.names, y.2 = .free → ∃ c, X.env.cells.lookup y.1 = some c)
    (fin : ∀ (f c' T0 : Addr) (pm ct : Value) (H1 : Hp) (s' : Shared), Inv X pins σ H1 s' → Sm T H H1 → s'.heap.get? f = some (PySem.W.obD (lq X) params body scope (cloFrom X.env.cells scope.names []) (.ref T0) pm c' ct) → H1 f = none → f ∉ frs X.stack → H1 c' = some (CodeO c' (lq X)) → H1 T0 = some (.tup [.int i]) → Q (.ref f) s') :
    wpAny (model X.prog X.w) X.A (eval (.Lambda params body scope pos) X.env) Q E s := by
  refine PySem.W.evalD hp fun t tk => ?_
  have hn : H s.heap.objs.size = none := I.hok.fresh (Nat.le_refl _)
  have I1 : Inv X pins σ (upd H s.heap.objs.size (.tup [.int i])) { s with heap := s.heap.push { cls := .type "tuple", data := .seq #[.int i t] }, toks := tk } :=
    I.laid (fun b o e => Heap.get?_push_of_some _ e) (Nat.le_refl _) ⟨by show 1 ≤ sizeLine; decide, [.int i t], .cons ⟨_, rfl⟩ .nil, ⟨_, Heap.get?_push_size _ rfl, rfl, _, rfl⟩⟩
  have hx : ∀ b o, H b = some o → upd H s.heap.objs.size (.tup [.int i]) b = some o := fun b o e => by rw [upd_ne (ne_of_none e hn)]; exact e
  exact lam_tailD I1 B hcode hm hu (hT.ext hx) hfree fun f c' pm ct H1 s' J e1 e3 e4 e5 e6 => fin f c' _ pm ct H1 s' J ((Sm.all hx).trans e1) e3 e4 e5 e6 (e1.g _ _ upd_same)
/-- a lambda without parameters -/
theorem eval0 {M : Model} {A : Around} {E Q : Value → Shared → Prop} {env : Env} {params : Arguments} {body : Expr} {scope : Scope} {pos : Pos} (hp : params = { posonlyargs := [], args := [], vararg := none, kwonlyargs := [], kw_defaults := [], kwarg := none, defaults := [] })
    (fin : wpAny M A (PySem.makeTail "<lambda>" (env.qual ++ "<lambda>") params (.expr body) scope env .none .none none pos pos.line) Q E s) : wpAny M A (eval (.Lambda params body scope pos) env) Q E s := by
  subst hp
  refine PySem.W.kla_eval rfl ?_
  rw [makeFunction_eq]
  simp only [List.zip_nil_right, List.filterMap_nil, List.isEmpty_nil, if_true, pure_bind]
  exact fin
end
end Ev

namespace Ev
variable [Wd]
open PySem PySem.Spec PyProof.Rows L2
open LamX (ExtN Tabs TabS TabB CodeO codeO_ne lamEnv lamCx)
theorem bindD {M : Model} {A : Around} {E : Value → Shared → Prop} {Q : List (Str × Value) → Shared → Prop} {s : Shared} {qual : Str} {params : Arguments} {body : Expr} {scope : Scope} {cl : List (Str × Addr)} {T0 : Addr} {pm cv ct : Value} {i : Int} {t : Tok} {kk : Nat} {cp : Pos} {ag : Arg} {oT : Obj} {nT : Nat}
    (hp : params = { posonlyargs := [], args := [ag], vararg := none, kwonlyargs := [], kw_defaults := [], kwarg := none, defaults := [.Constant (.int i) kk cp] }) (ho : s.heap.get? T0 = some oT) (hd : oT.data = .seq #[.int i t] nT) (fin : Q [(ag.arg, .int i t)] s) :
    wpAny M A (bindArgs (PySem.W.fdD qual params body scope cl (.ref T0) pm cv ct) ⟨[], []⟩) Q E s := by
  subst hp
  unfold bindArgs
  simp only [List.map_nil, List.map_cons, List.nil_append, List.append_nil, List.zip_nil_right, List.length_nil, List.length_cons, List.forIn_nil, pure_bind, bind_pure_comp]
  refine wpAny_bind (wpAny_seqItems ho hd ?_)
  simp
  exact wpAny_pure fin
section
variable {X : Cx} {pins : List (Addr × Obj)} {σ : L2.St} {H HZ : Hp} {s s1 : Shared}
theorem LamD.has {scope : Scope} (L : LamD X.N X.env.scope scope) (ok : X.Ok) : ∀ y ∈ scope.names, y.2 = .free → ∃ c, X.env.cells.lookup y.1 = some c := fun y hy e => (L.free y hy e).elim (fun k => ok.has _ (.inl k)) fun k => ok.has _ (.inr k)
theorem lam_startD {A : Around} {outer : List Env} {E : XK} {scope : Scope} {f c' : Addr} {h₁ : Heap} {tk : Nat} {m : Str → Option Value} (I : Inv X pins σ H s) (L : LamD X.N X.env.scope scope) (e0 : Env0 X.prog X.w X.K X.mg X.base A outer s1 HZ) (hd : A.handled = none)
    (un : Un (frs X.stack) [] H HZ s.heap s1.heap) (hns : h₁.Ns s1.heap.objs.size m) (kp : ∀ b o, s1.heap.get? b = some o → h₁.get? b = some o) : Inv (lamCx X A outer s1 HZ E scope f c') [] σ HZ { s1 with heap := h₁, toks := tk } := by
  have hfree := L.has I.ok
  have cm : ∀ {y c}, (cloFrom X.env.cells scope.names []).lookup y = some c → X.env.cells.lookup y = some c := fun {y c} e => by
    rcases cloFrom_mem (PySem.mem_of_lookup e) with z | ⟨h1, h2⟩
    · cases z
    · obtain ⟨c1, hc⟩ := hfree _ h1 rfl
      have hc : X.env.cells.lookup y = some c1 := hc
      rw [h2, hc]; rfl
  have look : ∀ {y}, scope.names.lookup y = some .free → ∃ c, (cloFrom X.env.cells scope.names []).lookup y = some c := fun {y} hl => mem_lookup (cloFrom_has (cells := X.env.cells) (acc := []) (PySem.mem_of_lookup hl))
  have cellK : ∀ {c : Addr} {v : Option Value}, H c = none → s.heap.IsCell c v → h₁.IsCell c v := fun {c v} n ⟨o, ho, hd⟩ => by
    obtain ⟨sl, q⟩ := un.any ho n (by simp)
    exact ⟨_, kp _ _ q, hd⟩
  have noA : ∀ b : Addr, b ∉ (lamCx X A outer s1 HZ E scope f c').ex := fun b z => absurd (show b ∈ ([] : List Addr) from z) (by simp)
  refine ⟨⟨e0.mod, L.kind, rfl, rfl, Nat.le_refl _, fun y z c e1 e2 => I.ok.inj y z c (cm e1) (cm e2), fun y hy => ?_, fun y c z _ => absurd (show false = true from z) Bool.false_ne_true, fun _ => hd, Around.frames_deeper e0.frames, .inr ⟨rfl, rfl⟩, fun b z => absurd z (noA b), e0.bs, e0.bsz, fun b _ _ => noA b, fun b z => absurd z (noA b), e0.funs, e0.frf⟩,
    rfl, e0.bare, Un.kept kp, ⟨_, hns, fun i y v e1 e2 e3 => ?_⟩, fun y c e => ?_, e0.hok.fresh (Nat.le_refl _), fun y c e => ?_, fun q hq => absurd (show q ∈ ([] : List (Addr × Obj)) ++ [] from hq) (by simp), e0.hok.kept kp, I.len⟩
  · have hy : scope.names.lookup y = some .cell ∨ scope.names.lookup y = some .free := hy
    rcases hy with hy | hy
    · exact absurd rfl (L.own _ (PySem.mem_of_lookup hy)).1
    · exact look hy
  · have e3 : Vis scope y := e3
    rcases e3 with k | k | k
    · exact absurd (List.mem_of_getElem? e1) ((L.own _ (PySem.mem_of_lookup k)).2 rfl)
    · exact absurd rfl (L.own _ (PySem.mem_of_lookup k)).1
    · obtain ⟨m', hn, hl⟩ := I.loc
      have hvis : Vis X.env.scope y := (L.free _ (PySem.mem_of_lookup k) rfl).elim (fun k => .inr (.inl k)) (fun k => .inr (.inr k))
      obtain ⟨w', r, q⟩ := hl i y v e1 e2 hvis
      obtain ⟨c2, h2⟩ := look k
      refine ⟨w', r, .inr ⟨.inr k, c2, h2, ?_⟩⟩
      rcases q with ⟨k', _⟩ | ⟨_, c3, e', z⟩
      · have k' : X.env.scope.names.lookup y = some .local := k'
        rcases L.free _ (PySem.mem_of_lookup k) rfl with k2 | k2 <;> rw [show X.env.scope.names.lookup y = _ from k2] at k' <;> cases k'
      · rw [cm h2] at e'
        cases e'
        exact cellK (I.freeC y _ (cm h2)) z
  · obtain ⟨w', z⟩ := I.cell y c (cm e)
    exact ⟨w', cellK (I.freeC y c (cm e)) z⟩
  · obtain ⟨v, o, ho, hd⟩ := I.cell y c (cm e)
    exact un.free c o ho (I.freeC y c (cm e)) (by simp)
/-- how a lambda's parameters are bound when nothing is given; TC: what its defaults need of the heap -/
def BindG (P : Program) (w : World) (scope : Scope) (fd : FuncData) (TC : Hp → Prop) : Prop := ∀ (s : Shared) (H : Hp), HOk P w H s.heap → TC H → ∃ bs : List (Str × Value), (∀ (M : Model) (A : Around) (E : Value → Shared → Prop) (Q : List (Str × Value) → Shared → Prop), Q bs s → wpAny M A (bindArgs fd ⟨[], []⟩) Q E s) ∧ ∀ y ∈ bs, scope.names.lookup y.1 = some .local
theorem bindG_0 {P : Program} {w : World} {scope : Scope} {fd : FuncData} {TC : Hp → Prop} (h : bindArgs fd ⟨[], []⟩ = pure []) : BindG P w scope fd TC := fun s H _ _ => ⟨[], fun M A E Q q => by rw [h]; exact wpAny_pure q, fun y hy => by cases hy⟩
theorem bindG_1 {P : Program} {w : World} {qual : Str} {params : Arguments} {body : Expr} {scope : Scope} {cl : List (Str × Addr)} {T0 : Addr} {pm cv ct : Value} {i : Int} {kk : Nat} {cp : Pos} {ag : Arg} (hp : params = { posonlyargs := [], args := [ag], vararg := none, kwonlyargs := [], kw_defaults := [], kwarg := none, defaults := [.Constant (.int i) kk cp] })
    (hl : scope.names.lookup ag.arg = some .local) : BindG P w scope (PySem.W.fdD qual params body scope cl (.ref T0) pm cv ct) (fun H => H T0 = some (.tup [.int i])) := fun s H hok hT => by
  obtain ⟨_, its, rv, oT, hoT, hcT, nT, hdT⟩ := (show ObjOk P w H s.heap T0 (.tup [.int i]) from hok T0 _ hT)
  obtain ⟨tt, hits⟩ : ∃ tt, its = [.int i tt] := by
    cases rv with
    | cons r rr =>
      cases rr
      obtain ⟨tt, rfl⟩ := r
      exact ⟨tt, rfl⟩
  subst hits
  exact ⟨[(ag.arg, .int i tt)], fun M A E Q q => bindD hp hoT hdT q, fun y hy => by rcases List.mem_singleton.mp hy with rfl; exact hl⟩
/-- a(), in the def that got the lambda -/
theorem pe_actG {CXg : CXT} {Eg : XK} {Ng : List Str} {qg : Str} {sg : Scope} {g f c' : Addr} {dV cdg pm ct : Value} {params : Arguments} {body : Expr} {scope : Scope} {k i : Nat} {x : Str} {pn : List (Addr × Obj)} {xe : Value → Shared → Prop} {W : WX} {tb : XK → TE} {TC : Hp → Prop} {p1 p2 : Pos}
    (I : Inv X pins σ H s) (L : LamD X.N X.env.scope scope) (hf : s.heap.get? f = some (PySem.W.obD (lq X) params body scope (cloFrom X.env.cells scope.names []) dV pm c' ct)) (hfn : H f = none) (hfr : f ∉ frs X.stack)
    (hb : BindG X.prog X.w scope (PySem.W.fdD (lq X) params body scope (cloFrom X.env.cells scope.names []) dV pm (.ref c') ct) TC) (tk : Takes ((cxOf CXg X.prog X.w X.K X.mg X.base Ng qg sg g cdg X.A X.stack s H Eg).tr pn xe) W) (hr : Room (k + 1) (X.A.deeper (envOfC qg sg s.heap.objs.size g cdg)))
    (hbody : ∀ (A : Around) (outer : List Env) (s : Shared) (H : Hp) (E : XK), Room k (A.deeper (lamEnv X scope s.heap.objs.size f c')) → A.guards = X.A.guards → PE (lamCx X A outer s H E scope f c') body (tb E))
    (hN : Ng[i]? = some x) (hv : Vis sg x) (hd : (x == ("__debug__" : Str)) = false) (hcd : (x == ("__classdict__" : Str)) = false) :
    PE ((cxOf CXg X.prog X.w X.K X.mg X.base Ng qg sg g cdg X.A X.stack s H Eg).tr pn xe) (.Call (.Name x p1) [] [] p2)
      (fun σZ HZ Q => ∃ E : XK, (∀ cls d H', E cls d H' → W cls d σZ H') ∧ σZ[i]? = some (some (.ref f)) ∧ HZ c' = some (CodeO c' (lq X)) ∧ TC HZ ∧ tb E σ HZ Q) := by
  refine ⟨fun pinsZ sZ σZ HZ Q IZ ⟨E, hW, hs, hc, hT, ht⟩ => ?_⟩
  refine wpAny_Call_Name_kw (thn ((pe_var (pos := p1) (i := i) hN hv hd hcd).run pinsZ sZ σZ HZ (fun v H1 => v = .ref f ∧ H1 = HZ) IZ ⟨.ref f, hs, rfl, rfl⟩) fun u s1 ⟨v, H1, I1, r1, ev, eH⟩ => ?_)
  subst ev
  rw [eH] at I1
  obtain rfl : u = Value.ref f := r1
  have of1 : s1.heap.get? f = some (PySem.W.obD (lq X) params body scope (cloFrom X.env.cells scope.names []) dV pm c' ct) := I1.base.keep f _ hf hfn hfr (fun z => nomatch (show f ∈ ([] : List Addr) from z))
  refine PySem.W.callWith_F0 ⟨_, _, _, _, of1⟩ ?_
  have un : Un (frs X.stack) [] H HZ s.heap s1.heap := I1.base
  obtain ⟨⟨oc, vs, t, hoc, hdc, hvc⟩, _, _⟩ := I1.hok c' _ hc
  obtain ⟨bs, hbs, hloc⟩ := hb s1 HZ I1.hok hT
  have rc : codeAny (model X.prog X.w) (X.A.deeper (envOfC qg sg s.heap.objs.size g cdg)) (.call (.ref f) ⟨[], []⟩) (CR (L2.CX X.prog X.w) (envOfC qg sg s.heap.objs.size g cdg :: X.stack) X.prog X.w HZ s1 Q E) s1 := by
    refine PySem.W.kla_callFunE hr.depth of1 rfl L.co L.gen rfl ⟨c', oc, vs, t, rfl, hoc, hdc, hvc⟩ (hbs _ _ _ _ ?_)
    refine wpAny_newFunctionEnv (fun y hy => (L.own y hy).1) hloc (fun h₁ hns hsb => ⟨I1.nolimit.fresh _ hsb, ?_⟩) L.kind
    show codeAny _ _ (.expr body (lamEnv X scope s1.heap.objs.size f c')) _ _
    have kp : ∀ b o, s1.heap.get? b = some o → h₁.get? b = some o := fun b o e => hsb.extBut b o (Nat.ne_of_lt (Heap.lt_size e)) (Heap.get?_push_of_some _ e)
    have J : Inv (lamCx X (X.A.deeper (envOfC qg sg s.heap.objs.size g cdg)) (envOfC qg sg s.heap.objs.size g cdg :: X.stack) s1 HZ E scope f c') [] σ HZ { s1 with heap := h₁, toks := s1.toks + bs.length } := lam_startD I L I1.env0 hr.hd un hns kp
    exact PySem.W.kla_codeExpr (wpAny_mono ((hbody _ _ s1 HZ E (hr.deeper _) rfl).run [] _ _ HZ Q J ht) (fun v s' ⟨w', H', J', rv, q⟩ => ⟨w', H', J'.os, J'.bare, J'.base, J'.hok, rv, q⟩) fun e s' hq => hq)
  refine wpAny_call (codeAny_mono rc fun r s' hq => ?_)
  match r, hq with
  | .error e, hq => exact tk e s' (XE.of_call I1 hW hq)
  | .ok (.ret u), hq => exact I1.after hq
  | .ok .next, hq => exact False.elim hq
  | .ok .brk, hq => exact False.elim hq
  | .ok .cont, hq => exact False.elim hq
end
end Ev

namespace Ev
variable [Wd]
open PySem PySem.Spec PyProof.Rows L2
open LamX (ExtN Tabs TabS TabB CodeO codeO_ne lamEnv lamCx)
section
variable {X : Cx} {pins : List (Addr × Obj)} {σ : L2.St} {H : Hp} {s : Shared}
theorem lam_madeG {T : List (Addr × Str)} {c P : Addr} {params : Arguments} {body : Expr} {scope : Scope} {pos : Pos} {E Q : Value → Shared → Prop} (I : Inv X pins σ H s) (B : TabB X.base X.mg c P) (hcode : X.env.code = .ref c) (hm : (P, lq X) ∈ T) (hu : ∀ p ∈ T, p.1 = P → p.2 = lq X) (hT : Tabs T H) (hp : ParG scope params)
    (hfree : ∀ y ∈ scope.names, y.2 = .free → ∃ c, X.env.cells.lookup y.1 = some c)
    (fin : ∀ (f c' : Addr) (dV pm ct : Value) (TC : Hp → Prop) (H1 : Hp) (s' : Shared), Inv X pins σ H1 s' → Sm T H H1 → s'.heap.get? f = some (PySem.W.obD (lq X) params body scope (cloFrom X.env.cells scope.names []) dV pm c' ct) → H1 f = none → f ∉ frs X.stack → H1 c' = some (CodeO c' (lq X)) →
      BindG X.prog X.w scope (PySem.W.fdD (lq X) params body scope (cloFrom X.env.cells scope.names []) dV pm (.ref c') ct) TC → TC H1 → (∀ H2, Ex H1 H2 → TC H2) → Q (.ref f) s') :
    wpAny (model X.prog X.w) X.A (eval (.Lambda params body scope pos) X.env) Q E s := by
  rcases hp with hp | ⟨hp, hl⟩
  · exact eval0 hp (lam_tailD I B hcode hm hu hT hfree fun f c' pm ct H1 s' J e1 e2 e3 e4 e5 => fin f c' .none pm ct (fun _ => True) H1 s' J e1 e2 e3 e4 e5 (bindG_0 (by subst hp; rfl)) trivial fun _ _ => trivial)
  · exact lam_makeD I B hcode hm hu hT hp hfree fun f c' T0 pm ct H1 s' J e1 e2 e3 e4 e5 e6 => fin f c' (.ref T0) pm ct _ H1 s' J e1 e2 e3 e4 e5 (bindG_1 hp hl) e6 fun H2 x => x.g _ _ e6
end
/-- the def that calls what it got: a calls it; TT: what it makes of the lambda's reading -/
def GivesG (X : Cx) (k : Nat) (Ng : List Str) (x : Str) (sg : Scope) (g : Addr) (cdg : Value) (bg : List Stmt) (a : Str) (TT : (XK → Hp → VK → Prop) → Hp → VK → Prop) : Prop :=
  ∀ (f c' : Addr) (s : Shared) (H : Hp) (Q : VK) (TC : Hp → Prop) (tb : XK → Hp → VK → Prop), Room k (X.A.deeper (envOfC x sg s.heap.objs.size g cdg)) →
    (∀ (W : WX) (pn : List (Addr × Obj)) (xe : Value → Shared → Prop) (p1 p2 : Pos), Takes ((cxOf C8.CX0 X.prog X.w X.K X.mg X.base Ng x sg g cdg X.A X.stack s H C8.E0).tr pn xe) W →
      PE ((cxOf C8.CX0 X.prog X.w X.K X.mg X.base Ng x sg g cdg X.A X.stack s H C8.E0).tr pn xe) (.Call (.Name a p1) [] [] p2) (fun σZ HZ Q => ∃ E : XK, (∀ cls d H', E cls d H' → W cls d σZ H') ∧ σZ[0]? = some (some (.ref f)) ∧ HZ c' = some (CodeO c' (lq X)) ∧ TC HZ ∧ tb E HZ Q)) →
    H c' = some (CodeO c' (lq X)) → TC H → (∀ H2, Ex H H2 → TC H2) → TT tb H Q →
    ∃ t, PSs (cxOf C8.CX0 X.prog X.w X.K X.mg X.base Ng x sg g cdg X.A X.stack s H C8.E0).nox bg t ∧ t { nx := fun _ H' => Q .non H', rt := Q } (L2.start Ng [.ref f]) H
def tLamG (T : List (Addr × Str)) (TT : (XK → Hp → VK → Prop) → Hp → VK → Prop) (t : XK → TE) : TE := fun σ H Q => Tabs T H ∧ ∀ H1, Sm T H H1 → TT (fun E H' Q' => t E σ H' Q') H1 Q
section
variable {X : Cx}
/-- x(lambda: body), x(lambda a=0: body) -/
theorem pe_lamcallG {T : List (Addr × Str)} {TT : (XK → Hp → VK → Prop) → Hp → VK → Prop} {x a : Str} {g c P : Addr} {k : Nat} {pg : Arguments} {bg : List Stmt} {sg : Scope} {dV kV doc pm cdv ct oc : Value} {an od : Option Addr} {osl : Array (Option Value)} {Ng : List Str} {params : Arguments} {body : Expr} {scope : Scope} {t : XK → TE} {p lpos pos : Pos}
    (hg : Gl X x) (hm : X.mg x = some (.ref g)) (hk : PySem.W.keepIn X.K (.ref g) = true) (lk : X.K.lookup g = some ⟨oc, od, .func (PySem.W.fnOf x x pg bg sg dV kV doc pm an cdv ct), osl⟩) (hcg : PySem.W.codeIn X.K cdv x = true) (hb : L2.Binds X.K (PySem.W.fnOf x x pg bg sg dV kV doc pm an cdv ct) [a] []) (Sg : FnScope Ng [a] sg) (hNg : Ng[0]? = some a) (hva : Vis sg a)
    (hG : GivesG X (k + 1) Ng x sg g cdv bg a TT) (B : TabB X.base X.mg c P) (hcode : X.env.code = .ref c) (hmT : (P, lq X) ∈ T) (hu : ∀ p ∈ T, p.1 = P → p.2 = lq X) (hr : Room (k + 2) X.A) (L : LamD X.N X.env.scope scope) (hp : ParG scope params)
    (hbody : ∀ (A : Around) (outer : List Env) (s : Shared) (H : Hp) (E : XK) (f c' : Addr), Room k (A.deeper (lamEnv X scope s.heap.objs.size f c')) → A.guards = X.A.guards → PE (lamCx X A outer s H E scope f c') body (t E))
    (hdb : (x == ("__debug__" : Str)) = false) (hd : (a == ("__debug__" : Str)) = false) (hcd : (a == ("__classdict__" : Str)) = false) : PE X (.Call (.Name x p) [.Lambda params body scope lpos] [] pos) (tLamG T TT t) := by
  refine ⟨fun pins s σ H Q I ⟨hT, h⟩ => wpAny_Call_Name_kw (ld_glob I hg hm (PySem.W.callWith_K (h₀ := X.base) I.ok.mod.kin hk ?_ (by rfl) (by rfl)) hdb)⟩
  show wpAny _ _ (spliced ((false, eval (.Lambda params body scope lpos) X.env) :: backTo pos (starEach [] X.env))) _ _ s
  refine Calls.spliced_cons (lam_madeG I B hcode hmT hu hT hp (L.has I.ok) fun f c' dV' pm' ct' TC H1 s' I1 e1 e2 e3 e4 e5 e6 e7 e8 => Calls.spliced_nil ⟨I1.kIn, ?_⟩)
  have rc : codeAny (model X.prog X.w) X.A (.call (.ref g) ⟨[.ref f], []⟩) (CR C8.CX0 X.stack X.prog X.w H1 s' Q C8.E0) s' := by
    refine LamX.run_ofS (N := Ng) (ps := [a]) (us := [.ref f]) (vs := [.ref f]) lk hcg Sg hr I1.env0 (hb s' [.ref f] I1.kIn rfl) (.cons rfl .nil) rfl fun hr' => ?_
    obtain ⟨t', ht', hq'⟩ := hG f c' s' H1 Q TC (fun E H' Q' => t E σ H' Q') hr' (fun W pn xe p1 p2 tk => pe_actG (i := 0) (tb := t) I1 L e2 e3 e4 e6 tk hr' (fun A outer s H E hr2 hgd => hbody A outer s H E f c' hr2 hgd) hNg hva hd hcd) e5 e7 e8 (h H1 e1)
    exact ⟨t', ht'.nox, hq'⟩
  refine wpAny_call (codeAny_mono rc fun r s2 z => ?_)
  match r, z with
  | .error e, z => exact (show False from z).elim
  | .ok (.ret u), z => exact I1.after z
  | .ok .next, z => exact False.elim z
  | .ok .brk, z => exact False.elim z
  | .ok .cont, z => exact False.elim z
end
end Ev

namespace Ev
variable [Wd]
open PySem PySem.Spec PyProof.Rows L2
open LamX (ExtN Tabs TabS TabB CodeO codeO_ne lamEnv lamCx)
/-- what the catcher makes of a lambda whose body comes out as r -/
def TTh (K : PySem.W.Frag) (C : CT) (hr : Res PyData → Res PyData) : (XK → Hp → VK → Prop) → Hp → VK → Prop := fun tb H Q => ∃ A r, Trk A H ∧ Tabs C.tabs H ∧
  (∀ (Ech : XK) (Q' : VK) (HZ : Hp), Sm C.tabs H HZ → Out K C A Ech HZ r (fun d H' => ∀ v, R K (hid A H') d v → Q' v H') → tb Ech HZ Q') ∧ Out K C A (fun _ _ _ => False) H (hr r) fun d H' => ∀ v, R K (hid A H') d v → Q v H'
theorem hear_read {K : PySem.W.Frag} {C : CT} {hr : Res PyData → Res PyData} {W : WX} {m : SG → Res PyData} (hx : ∀ r c d, hr r ≠ .exn c d) (ha : ∀ r n f, hr r ≠ .ask n f) {σ : L2.St} {H : Hp} {Q : VK} (h : T K C W (mHear hr m) σ H Q) : tLamG C.tabs (TTh K C hr) (fun E => T K C (WE E) m) σ H Q := by
  obtain ⟨sg, A, rl, o⟩ := h
  refine ⟨rl.tab, fun H1 s1 => ⟨A, m sg, (rl.mono s1).trk, (rl.mono s1).tab, fun Ech Q' HZ s oo => ⟨sg, A, (rl.mono s1.w).mono s.w, oo⟩, ?_⟩⟩
  have o' : Out K C A (fun cx dx H' => W cx dx σ H') H (hr (m sg)) fun d H' => ∀ v, R K (hid A H') d v → Q v H' := o
  cases hm : hr (m sg) with
  | ok d => rw [hm] at o'; exact fun H2 s2 => o' H2 (s1.trans s2)
  | exn c d => exact absurd hm (hx _ _ _)
  | bad => rw [hm] at o'; exact o'.elim
  | ask n f => exact absurd hm (ha _ _ _)
/-- the catcher's slots behind its first row -/
def hb0 (n ifo ica : Nat) : SG := put (put (List.replicate n none) ifo (.v .none)) ica (.v .none)
def runHear (F : Nat → List PyData → Res PyData) (b : E .blk) (n ifo ica nc : Nat) (r : Res PyData) : Res PyData := match r with
  | .ok d => noX (outF (ev F (fun _ => .bad) b (put (hb0 n ifo ica) ifo (.v d))))
  | .exn c d => match Nat.blt c nc with | true => noX (outF (ev F (fun _ => .bad) b (put (hb0 n ifo ica) ica (.x c d)))) | false => .bad
  | .bad => .bad
  | .ask _ _ => .bad
theorem runHear_noexn {F : Nat → List PyData → Res PyData} {b : E .blk} {n ifo ica nc : Nat} : ∀ r c d, runHear F b n ifo ica nc r ≠ .exn c d := by
  have key : ∀ (q : Res PyData) c d, noX q ≠ .exn c d := fun q c d => by cases q <;> (intro z; cases z)
  intro r c d
  cases r with
  | ok d' => exact key _ _ _
  | exn c' d' =>
    show (match Nat.blt c' nc with | true => _ | false => _) ≠ _
    split
    · exact key _ _ _
    · intro z; cases z
  | bad => intro z; cases z
  | ask n f => intro z; cases z
theorem runHear_noask {F : Nat → List PyData → Res PyData} {b : E .blk} {n ifo ica nc : Nat} : ∀ r m f, runHear F b n ifo ica nc r ≠ .ask m f := by
  have key : ∀ (q : Res PyData) c d, noX q ≠ .ask c d := fun q c d => by cases q <;> (intro z; cases z)
  intro r c d
  cases r with
  | ok d' => exact key _ _ _
  | exn c' d' =>
    show (match Nat.blt c' nc with | true => _ | false => _) ≠ _
    split
    · exact key _ _ _
    · intro z; cases z
  | bad => intro z; cases z
  | ask n f => intro z; cases z
theorem rel_none {K : PySem.W.Frag} {C : CT} {A : Ow} {H : Hp} {n : Nat} {σ : L2.St} (hl : σ.length = n) (t : Trk A H) (tb : Tabs C.tabs H) : Rel K C A H (List.replicate n none) σ := by
  have key : ∀ (i : Nat) (x : Sl), (List.replicate n (none : Option Sl))[i]? ≠ some (some x) := fun i x e => by
    rw [List.getElem?_replicate] at e
    split at e <;> cases e
  exact ⟨by simp [hl], fun i d e => absurd e (key i _), t, tb⟩
/-- the catcher's last rows -/
theorem body_fin {K : PySem.W.Frag} {C : CT} {b : SG → Res Fl} {A : Ow} {H HX : Hp} {sgX : SG} {σX : L2.St} {Q : VK} {n : Nat} (hl : σX.length = n) (t : Trk A H) (s : Sm C.tabs H HX) (rl : Rel K C (foreign A n) HX sgX σX)
    (o : Out K C A (fun _ _ _ => False) H (noX (outF (b sgX))) fun d H' => ∀ v, R K (hid A H') d v → Q v H') : TSt K C (fun _ _ _ => False) b { nx := fun _ H' => Q .non H', rt := Q } σX HX := by
  refine ⟨sgX, foreign A n, A, H, rl, ⟨t, s, fun a h => by unfold foreign; rw [if_pos h, hl], fun a i h hi => ?_⟩, ?_⟩
  · unfold foreign at h
    split at h
    · cases h
      rw [hl] at hi
      exact absurd hi (Nat.lt_irrefl _)
    · cases h
  · cases hb : b sgX with
    | bad => rw [hb] at o; exact o.elim
    | exn c d => rw [hb] at o; exact o.elim
    | ask n f => rw [hb] at o; exact o.elim
    | ok f =>
      rw [hb] at o
      cases f with
      | nx sg => exact fun σ' A' H' _ _ bo q' _ => o H' ((Dn.refl H).sm bo.sm (s.tq.trans q')) _ R.none'
      | rt d => exact fun A' H' v bo _ q' q => o H' ((Dn.refl H).sm bo.sm (s.tq.trans q')) v (q.mono (Exs.w ⟨fun a o e _ => by
          unfold hid at e ⊢
          split at e
          · cases e
          · rename_i z
            rw [if_neg fun y => z (by rw [bo.ext a y]; rfl)]; exact e⟩))
end Ev

namespace Ev
variable [Wd]
open PySem PySem.Spec PyProof.Rows L2
open LamX (ExtN Tabs TabS TabB CodeO codeO_ne lamEnv lamCx)
/-- the catcher's text: two slots, the try, the rest -/
structure HearT (Ng : List Str) (a fo ca en CE : Str) (ifo ica ien : Nat) (bg rest : List Stmt) : Prop where
  bd : ∃ (pf pc pt p1 p2 pt2 q1 pfo pa pcl q2 np mp np2 apos pos' q3 : Pos) (kt k2 i1 i2 : Nat),
    bg = .Assign [.Tuple [.Name fo pf, .Name ca pc] kt pt] (.Tuple [.Constant .none i1 p1, .Constant .none i2 p2] k2 pt2) q1 ::
      .Try [.Assign [.Name fo pfo] (.Call (.Name a pa) [] [] pcl) q2] [.ExceptHandler (some (.Name CE np)) (some en) [.Assign [.Name ca mp] (.Name en np2) apos] pos'] [] [] q3 :: rest
  a0 : Ng[0]? = some a
  fo0 : Ng[ifo]? = some fo
  ca0 : Ng[ica]? = some ca
  en0 : Ng[ien]? = some en
  d1 : ifo ≠ 0
  d2 : ica ≠ 0
  d4 : ien ≠ ifo
  d5 : ien ≠ ica
theorem upd_ne {H : Hp} {p q : Addr} {o : HO} (h : q ≠ p) : upd H p o q = H q := by
  unfold upd
  simp [h]
theorem ex_new {H : Hp} {p : Addr} {o : HO} (h : H p = none) : Ex H (upd H p o) := (Sm.new (TT := []) h).e
theorem hear_gives {G : GS} {X : Cx} {C : CT} {F : Nat → List PyData → Res PyData} {b : E .blk} {k n nc ifo ica ien : Nat} {Ng : List Str} {x a fo ca en CE : Str} {sg : Scope} {g : Addr} {cdg : Value} {bg rest : List Stmt} {ce : Value}
    (hT : HearT Ng a fo ca en CE ifo ica ien bg rest) (S : FnScope Ng [a] sg) (dbg : ∀ x ∈ Ng, (x == ("__debug__" : Str)) = false ∧ (x == ("__classdict__" : Str)) = false) (hva : Vis sg a) (hlf : sg.names.lookup fo = some .local) (hlc : sg.names.lookup ca = some .local) (hle : sg.names.lookup en = some .local)
    (hk : 2 ≤ n) (hnk : n ≤ k) (hg : Glob G X.prog X.w X.K X.mg X.base C F n) (hC : ∀ s H, Names (cxOf C8.CX0 X.prog X.w X.K X.mg X.base Ng x sg g cdg X.A X.stack s H C8.E0) CE ce) (hex : ∀ c, c < nc → PySem.W.exmOne X.K (.ref (C.cls c)) ce = some true)
    (hc : chk G b ⟨Ng, sg, sg.names, true, false, false⟩ false rest = true) : GivesG X k Ng x sg g cdg bg a (TTh X.K C (runHear F b Ng.length ifo ica nc)) := by
  intro f c' s H Q TC tb hrm hact hc' hTC hTCm hTT
  obtain ⟨A, r, trk, tabs, htb, hout⟩ := hTT
  obtain ⟨pf, pc, pt, p1, p2, pt2, q1, pfo, pa, pcl, q2, np, mp, np2, apos, pos', q3, kt, k2, i1, i2, rfl⟩ := hT.bd
  let Y : Cx := (cxOf C8.CX0 X.prog X.w X.K X.mg X.base Ng x sg g cdg X.A X.stack s H C8.E0).nox
  have ct : Ct G Y C ⟨Ng, sg, sg.names, true, false, false⟩ F (fun _ => .bad) (fun _ _ _ => False) n :=
    { n := rfl, sc := rfl, nd := S.nd, dbg := dbg, wr := fun x h => ⟨h, .inl rfl⟩, calm := rfl, room := hrm.mono hnk, k2 := hk, gd := fun z => by (cases z), ps := Ct.ps0, tk := fun _ => ⟨LamX.takes0, PassesOwn.never, S.kind⟩, g := hg, hear := fun z => by (cases z) }
  have hrest : PSs Y rest (TSt Y.K C (fun _ _ _ => False) (ev F (fun _ => .bad) b)) := sound (hr := fun _ => .bad) b ct (fun _ => rfl) hc
  have hda := dbg a (List.mem_of_getElem? hT.a0)
  have hde := dbg en (List.mem_of_getElem? hT.en0)
  have row1 : PS Y (.Assign [.Tuple [.Name fo pf, .Name ca pc] kt pt] (.Tuple [.Constant .none i1 p1, .Constant .none i2 p2] k2 pt2) q1) _ :=
    ps_asg (pe_tup (pa_cons pe_non (pa_cons pe_non pa_nil))) (pg_tup (n := 2) rfl (pgs_cons (pg_name S.nd hT.fo0 (.inl hlf) (.inl rfl)) (pgs_cons (pg_name S.nd hT.ca0 (.inl hlc) (.inl rfl)) pgs_nil))) (by rfl) (sw_fold (px := pf) (py := pf) (by rfl)) (by rfl)
  have row2 : PS Y (.Try [.Assign [.Name fo pfo] (.Call (.Name a pa) [] [] pcl) q2] [.ExceptHandler (some (.Name CE np)) (some en) [.Assign [.Name ca mp] (.Name en np2) apos] pos'] [] [] q3) _ :=
    ps_try_keep (Wout := fun _ _ _ _ => False) rfl rfl S.nd hT.en0 hle hT.ca0 hlc hde.1 hde.2 (hC s H) LamX.takes0 fun W pn xe tk _ =>
      pss_one (ps_set (X := Y.tr pn xe) S.nd hT.fo0 (.inl hlf) (hact W pn xe pa pcl tk) (by rfl) (.inr hlf))
  refine ⟨_, pss_cons row1 (pss_cons row2 hrest), ?_⟩
  have hlen : (L2.start Ng [V.ref f]).length = Ng.length := by
    unfold L2.start
    have := (List.getElem?_eq_some_iff.mp hT.a0).1
    simp
    omega
  have hst0 : (L2.start Ng [V.ref f])[0]? = some (some (.ref f)) := by unfold L2.start; simp
  have lfo := (List.getElem?_eq_some_iff.mp hT.fo0).1
  have lca := (List.getElem?_eq_some_iff.mp hT.ca0).1
  generalize hσ : L2.start Ng [V.ref f] = σ at hlen hst0
  refine ⟨by show 2 ≤ sizeLine; decide, fun p hp => ⟨p, [.non, .non], rfl, .inl (Rd.of upd_same), rfl, .non, [.non], rfl, .non, [], rfl, rfl, ?_⟩⟩
  have sm1 : Sm C.tabs H (upd H p (.tup [.non, .non])) := Sm.new hp
  generalize hH1 : upd H p (.tup [.non, .non]) = H1 at sm1
  have rel1 : ∀ {σ' : L2.St} {HX : Hp}, σ'.length = Ng.length → Sm C.tabs H HX → Rel X.K C (foreign A Ng.length) HX (hb0 Ng.length ifo ica) ((σ'.set ifo (some .non)).set ica (some .non)) := fun {σ' HX} hl sx => by
    have tf : Trk (foreign A Ng.length) HX := fun y hy => (trk.mono sx) y (by rw [← foreign_some]; exact hy)
    exact rel_put (s := .v .none) (rel_put (s := .v .none) (rel_none hl tf (sx.tab tabs)) (by simpa using lfo) (R.none' (K := X.K) (H := hid (foreign A Ng.length) HX))) (by rw [put_len]; simpa using lca) (R.none' (K := X.K) (H := hid (foreign A Ng.length) HX))
  refine ⟨fun cls d H' => wKeep X.K ce ien ica (fun _ _ _ _ => False) _ cls d _ H', fun _ _ _ h => h, ?_, ?_, hTCm H1 sm1.ex, ?_⟩
  · rw [List.getElem?_set_ne hT.d2, List.getElem?_set_ne hT.d1]; exact hst0
  · rw [← hH1, upd_ne (fun z => by rw [z, hp] at hc'; cases hc')]; exact hc'
  · refine htb _ _ H1 sm1 ?_
    cases r with
    | bad => exact hout.elim
    | ask n f => exact hout.elim
    | ok d =>
      intro H2 s2 v rv
      refine body_fin (n := Ng.length) (A := A) (H := H) (by simp [hlen]) trk (sm1.trans s2) ?_ hout
      exact rel_put (s := .v d) (rel1 hlen (sm1.trans s2)) (by unfold hb0; rw [put_len, put_len]; simpa using lfo) (by show R _ (hid (foreign A Ng.length) H2) d v; rw [hid_foreign]; exact rv)
    | exn c d =>
      intro H2 cx dx s2 t2 xr
      obtain ⟨rfl, q, v, rfl, hq, rv⟩ := xr
      have hlt : Nat.blt c nc = true := by
        cases hb : Nat.blt c nc with
        | true => rfl
        | false =>
          have : runHear F b Ng.length ifo ica nc (.exn c d) = .bad := by unfold runHear; simp only [hb]
          rw [this] at hout
          exact hout.elim
      have ho : runHear F b Ng.length ifo ica nc (.exn c d) = noX (outF (ev F (fun _ => .bad) b (put (hb0 Ng.length ifo ica) ica (.x c d)))) := by unfold runHear; simp only [hlt]
      rw [ho] at hout
      refine ⟨true, hex c (blt_lt hlt), fun _ e na => ?_, fun z => by cases z⟩
      have s3 : Sm C.tabs H2 (upd H2 e (ExK (.ref (C.cls c)) (some q) e)) := Sm.new na
      have hee : (A e).isSome = false := t2.new na
      refine body_fin (n := Ng.length) (A := A) (H := H) (by simp [hlen]) trk ((sm1.trans s2).trans s3) ?_ hout
      have es : ∀ (l : L2.St), ((((((l.set ifo (some V.non)).set ica (some V.non)).set ien (some (V.ref e))).set ica (some (V.ref e))).set ien none)) = ((((l.set ien none).set ifo (some V.non)).set ica (some V.non)).set ica (some (V.ref e))) := fun l => by
        rw [List.set_comm _ _ hT.d5, List.set_set, List.set_comm _ _ (Ne.symm hT.d5), List.set_comm _ _ (Ne.symm hT.d5), List.set_comm _ _ (Ne.symm hT.d4)]
      rw [es]
      refine rel_put (s := .x c d) (rel1 (by simpa using hlen) ((sm1.trans s2).trans s3)) (by unfold hb0; rw [put_len, put_len]; simpa using lca) ?_
      refine ⟨e, q, v, rfl, ?_, ?_, ?_⟩
      · rw [hid_foreign]; unfold hid; rw [hee]; exact upd_same
      · rw [hid_foreign]; exact (hid_sm s3).g _ _ hq
      · rw [hid_foreign]; exact rv.mono (hid_sm s3)
end Ev

namespace Ev
variable [Wd]
open PySem PySem.Spec PyProof.Rows L2
open LamX (ExtN Tabs TabS TabB CodeO codeO_ne lamEnv lamCx)
/-- the text has a catcher that is like b -/
structure HearF (G : GS) (P : Program) (w : World) (K : PySem.W.Frag) (mg : Str → Option Value) (base : Heap) (C : CT) (F : Nat → List PyData → Res PyData) (n : Nat) (b : E .blk) (Ng : List Str) (ifo ica nc : Nat) : Prop where
  ex : ∃ (g : Addr) (pg : Arguments) (bg rest : List Stmt) (sg : Scope) (dV kV doc pm cdv ct oc ce : Value) (an od : Option Addr) (osl : Array (Option Value)) (a fo ca en CE : Str) (ien : Nat),
    mg G.hear = some (.ref g) ∧ PySem.W.keepIn K (.ref g) = true ∧ K.lookup g = some ⟨oc, od, .func (PySem.W.fnOf G.hear G.hear pg bg sg dV kV doc pm an cdv ct), osl⟩ ∧ PySem.W.codeIn K cdv G.hear = true ∧ L2.Binds K (PySem.W.fnOf G.hear G.hear pg bg sg dV kV doc pm an cdv ct) [a] [] ∧ FnScope Ng [a] sg ∧
    HearT Ng a fo ca en CE ifo ica ien bg rest ∧ (∀ x ∈ Ng, (x == ("__debug__" : Str)) = false ∧ (x == ("__classdict__" : Str)) = false) ∧ Vis sg a ∧ sg.names.lookup fo = some .local ∧ sg.names.lookup ca = some .local ∧ sg.names.lookup en = some .local ∧
    sg.names.lookup CE = some .globalImplicit ∧ (CE == ("__debug__" : Str)) = false ∧ mg CE = some ce ∧ (∀ c, c < nc → PySem.W.exmOne K (.ref (C.cls c)) ce = some true) ∧ chk G b ⟨Ng, sg, sg.names, true, false, false⟩ false rest = true ∧ (G.hear == ("__debug__" : Str)) = false
theorem hear_ok {G : GS} {X : Cx} {C : CT} {F : Nat → List PyData → Res PyData} {E' : XK} {b : E .blk} {n ifo ica nc : Nat} {Ng : List Str} {c P : Addr} (hf : HearF G X.prog X.w X.K X.mg X.base C F n b Ng ifo ica nc) (hk : 2 ≤ n) (hg : Glob G X.prog X.w X.K X.mg X.base C F n) (B : TabB X.base X.mg c P) (hcode : X.env.code = .ref c) (hm : (P, lq X) ∈ C.tabs) (hu : ∀ p ∈ C.tabs, p.1 = P → p.2 = lq X) (hr : Room (n + 2) X.A) :
    HearOk G X C (runHear F b Ng.length ifo ica nc) E' n := by
  obtain ⟨g, pg, bg, rest, sg, dV, kV, doc, pm, cdv, ct, oc, ce, an, od, osl, a, fo, ca, en, CE, ien, h1, h2, h3, h4, h5, h6, h7, h8, h9, h10, h11, h12, h13, h14, h15, h16, h17, h18⟩ := hf.ex
  intro ps body scope lp p pos m hgl hp hL hbody
  have ha := h8 a (List.mem_of_getElem? h7.a0)
  have hG : GivesG X (n + 1) Ng G.hear sg g cdv bg a (TTh X.K C (runHear F b Ng.length ifo ica nc)) :=
    hear_gives h7 h6 h8 h9 h10 h11 h12 hk (Nat.le_succ n) hg (fun s H => ⟨h13, h14, .inl h15⟩) h16 h17
  exact pe_imp (pe_lamcallG (T := C.tabs) (t := fun E => T X.K C (WE E) m) hgl h1 h2 h3 h4 h5 h6 h7.a0 h9 hG B hcode hm hu hr hL hp hbody h18 ha.1 ha.2) fun σ H Q h => hear_read (hx := runHear_noexn) (ha := runHear_noask) h
end Ev

namespace Ev
variable [Wd]
open PySem PySem.Spec PyProof.Rows L2
open LamX (ExtN Tabs TabS TabB CodeO codeO_ne lamEnv lamCx)
/-- a function of the text whose body is like b and that calls the catcher -/
theorem fn_lam {P : Program} {w : World} {K : PySem.W.Frag} {mg : Str → Option Value} {base : Heap} {G : GS} {C : CT} {F : Nat → List PyData → Res PyData} {gd : Bool} {k n : Nat} {f c Pt : Addr} {name qual : Str} {params : Arguments} {body : List Stmt} {scope : Scope} {dV kV doc pm ct oc : Value} {an od : Option Addr} {osl : Array (Option Value)} {N ps : List Str} {b bh : E .blk} {Nh : List Str} {ifo ica nc : Nat}
    (lk : K.lookup f = some ⟨oc, od, .func (PySem.W.fnOf name qual params body scope dV kV doc pm an (.ref c) ct), osl⟩) (hcd : PySem.W.codeIn K (.ref c) qual = true) (S : FnScope N ps scope) (dbg : ∀ x ∈ N, (x == ("__debug__" : Str)) = false ∧ (x == ("__classdict__" : Str)) = false)
    (hk : 2 ≤ n) (hnk : n + 2 ≤ k) (hg : Glob G P w K mg base C F n) (hc : chk G b ⟨N, scope, scope.names, true, gd, true⟩ false body = true)
    (hf : HearF G P w K mg base C F n bh Nh ifo ica nc) (B : TabB base mg c Pt) (hm : (Pt, qual ++ ".<locals>." ++ "<lambda>") ∈ C.tabs ∧ ∀ p ∈ C.tabs, p.1 = Pt → p.2 = qual ++ ".<locals>." ++ "<lambda>") :
    FnG P w K mg base gd (k + 1) f (PySem.W.fnOf name qual params body scope dV kV doc pm an (.ref c) ct) ps (spG K C ps.length (runF F (runHear F bh Nh.length ifo ica nc) N.length b)) :=
  fn_sound lk hcd S dbg hk (by omega) hg hc fun _ A outer s H E' hr => hear_ok hf hk hg B rfl hm.1 hm.2 (hr.mono hnk)
end Ev

namespace Ev
variable [Wd]
open PySem PySem.Spec PyProof.Rows L2
open LamX (ExtN Tabs TabS TabB CodeO codeO_ne lamEnv lamCx)
/-- what may be tracked when the law is called: empty tables, a script that stays -/
structure Quiet (tabs : List Addr) (H : Hp) (h : Heap) (K : PySem.W.Frag) : Prop where
  tb : ∀ q ∈ tabs, H q = some (.tbl #[])
  em : ∀ q ∈ tabs, h.get? q = some { cls := .none, data := .fields #[] }
  fz : ∀ q, H q ≠ none → q ∈ tabs ∨ ∃ ob us, H q = some (.frz ob (.lst us)) ∧ h.get? q = some ob ∧ ∃ vs n, ob.data = .seq vs n
  nk : ∀ q, H q ≠ none → K.lookup q = none
theorem Quiet.off {tabs : List Addr} {H : Hp} {h : Heap} {K : PySem.W.Frag} (Z : Quiet tabs H h K) {q : Addr} {ob : Obj} (e : h.get? q = some ob) (h1 : ob.data ≠ .fields #[]) (h2 : ∀ vs n, ob.data ≠ .seq vs n) : H q = none := by
  refine Classical.byContradiction fun nz => ?_
  rcases Z.fz q nz with m | ⟨o', us, _, e', vs, n, d⟩
  · rw [Z.em q m] at e; cases e; exact h1 rfl
  · rw [e'] at e; cases e; exact h2 vs n d
theorem Quiet.ns {tabs : List Addr} {H : Hp} {h : Heap} {K : PySem.W.Frag} (Z : Quiet tabs H h K) {q : Addr} {m : Str → Option Value} (n : h.Ns q m) : (hidT h H).Ns q m := by
  obtain ⟨ob, es, ep, e, d, r⟩ := n
  exact ⟨ob, es, ep, hidT_get e (Z.off e (by rw [d]; intro z; cases z) (fun _ _ => by rw [d]; intro z; cases z)), d, r⟩
/-- a law is called: its promise may ask that no repr is under way -/
theorem law_callG {P : Program} {w : World} {K : PySem.W.Frag} {mg mb : Str → Option Value} {gd : Bool} {k : Nat} {fa a : Addr} {cs : List (Addr × Addr)} {fd : FuncData} {x : Str} {sp : Sp} {s₁ : Shared} {H : Hp}
    (KX : K.In s₁.heap) (hns : s₁.heap.Ns mainGlobals mg) (hb : s₁.heap.Ns builtinsNs mb) (hbb : ∀ x : Str, x ≠ "__name__" → mb x = bootBuiltins x) (hlim : s₁.heap.NoLimit) (hg : s₁.gens = #[])
    (Z : Quiet (cs.map (·.2)) H s₁.heap K) (hok : HOk P w H s₁.heap) (C : ∀ p ∈ cs, PySem.W.CodeHd s₁.heap p.1 p.2)
    (hbm : ∃ (bm : Addr) (ob : Obj), mg "__builtins__" = some (.ref bm) ∧ bm ≠ builtinsNs ∧ s₁.heap.get? bm = some ob ∧ ob.cls = .type "module" ∧ ob.dict = some builtinsNs ∧ ob.data = .plain) (hr : Room k callerA)
    (F : ∀ base : Heap, K.In base → base.Ns mainGlobals mg → (∀ p ∈ cs, TabB base mg p.1 p.2) → FnG P w K mg base gd k fa fd [x] sp) (hbind : ∀ (s : Shared) (u : Value), BindsTo s fd ⟨[u], []⟩ [(x, u)])
    (hsp : sp [.ref a] H (fun v _ => v = .bl true) fun _ _ _ => False) :
    codeAny (model P w) callerA (.call (.ref fa) ⟨[.ref a], []⟩) (fun r s' => r = .ok (.ret (.bool true)) ∧ OldK s₁.heap s'.heap ∧ s'.os = s₁.os ∧ AllBare s'.gens) s₁ := by
  have hKb : K.In (hidT s₁.heap H) := fun b o e => hidT_get (KX b o e) (Classical.byContradiction fun nz => by
    rw [Z.nk b nz] at e; cases e)
  have hM : L2.Mod K mg (hidT s₁.heap H) := ⟨hKb, Z.ns hns, ⟨mb, Z.ns hb, hbb⟩, let ⟨mc, h1, h2⟩ := hlim; ⟨mc, Z.ns h1, h2⟩⟩
  have notG : ∀ {q : Addr} {ob : Obj}, s₁.heap.get? q = some ob → (∀ es ep, ob.data ≠ .dict es ep) → mainGlobals ≠ q := fun {q ob} e hd z => by
    obtain ⟨o', es, ep, e', d', _⟩ := hns
    rw [z, e] at e'
    cases e'
    exact hd es ep d'
  have TB : ∀ p ∈ cs, TabB (hidT s₁.heap H) mg p.1 p.2 := fun p hp => by
    have hTp := Z.em p.2 (List.mem_map.mpr ⟨p, hp, rfl⟩)
    refine ⟨?_, ?_, notG hTp (fun es ep z => by cases z)⟩
    · obtain ⟨oc, us, file, tf, flags, tg, inF, text, tt, e1, r1, r2, r3, r⟩ := C p hp
      refine ⟨oc, us, file, tf, flags, tg, inF, text, tt, hidT_get e1 (Z.off e1 (fun z => ?_) fun vs n z => ?_), r1, r2, r3, r⟩
      · rw [r2] at z
        cases z
        simp at r3
      · rw [r2] at z; cases z
    · obtain ⟨bm, ob, b1, b2, b3, b4, b5, b6⟩ := hbm
      refine ⟨bm, ob, b1, b2, Ne.symm (notG b3 (fun es ep z => by rw [b6] at z; cases z)), fun z => ?_, hidT_get b3 (Z.off b3 (fun z => by rw [b6] at z; cases z) fun vs n z => by rw [b6] at z; cases z), b4, b5, b6⟩
      rw [z, hTp] at b3
      cases b3
      cases b6
  have e0 : Env0 P w K mg (hidT s₁.heap H) callerA [] s₁ H := ⟨rfl, hM, fun b o e => of_hidT e, Nat.le_of_eq (hidT_size _ _), trivial, fun b hm => absurd (show b ∈ ([] : List Addr) from hm) (by simp), hok, .of_eq hg⟩
  refine codeAny_mono ((F _ hKb (Z.ns hns) TB).go callerA [] s₁ H ⟨[.ref a], []⟩ [.ref a] [.ref a] _ _ (fun _ => rfl) hr e0 (hbind s₁ (.ref a)) (.cons rfl .nil) hsp) fun r s' hq => ?_
  match r, hq with
  | .error e, hq =>
    obtain ⟨_, _, _, _, _, _, _, _, _, _, _, _, z⟩ := hq
    exact z.elim
  | .ok .next, hq => exact False.elim hq
  | .ok .brk, hq => exact False.elim hq
  | .ok .cont, hq => exact False.elim hq
  | .ok (.ret u), hq =>
    obtain ⟨v, H', os, bare, un, hok', r', q⟩ := hq
    obtain rfl : v = .bl true := q
    obtain rfl : u = Value.bool true := r'
    have kept : ∀ q ob, q ∉ cs.map (·.2) → s₁.heap.get? q = some ob → s'.heap.get? q = some ob := fun q ob nm e => by
      by_cases hn : H q = none
      · exact un.keep q ob e hn (fun z => absurd (show q ∈ ([] : List Addr) from z) (by simp)) (by simp)
      · rcases Z.fz q hn with m | ⟨o', us, hz, e', _⟩
        · exact absurd m nm
        · rw [e'] at e; cases e
          exact (hok' q _ (un.frzs q _ _ hz)).1
    have grown : ∀ q ∈ cs.map (·.2), ∃ more : Array Value, s'.heap.get? q = some { cls := .none, data := .fields more } := fun q hm => by
      obtain ⟨more, z⟩ := un.tbls q #[] (Z.tb q hm)
      exact ⟨_, hok' q _ z⟩
    refine ⟨rfl, ⟨fun q ob e => ?_, fun q ob e => ?_⟩, os, bare⟩
    · by_cases hm : q ∈ cs.map (·.2)
      · obtain ⟨p, hp, ep⟩ := List.mem_map.mp hm
        obtain ⟨more, hM⟩ := grown q hm
        rw [Z.em q hm] at e
        cases e
        have ct := ((C p hp).tab (Z.em p.2 (List.mem_map.mpr ⟨p, hp, rfl⟩))).isCodeTable
        rw [ep] at ct
        exact .inr (.inl ⟨ct, rfl, #[], more, rfl, by rw [Array.empty_append]; exact hM⟩)
      · exact .inl (kept q ob hm e)
    · by_cases hm : q ∈ cs.map (·.2)
      · obtain ⟨more, hM⟩ := grown q hm
        exact ⟨_, hM⟩
      · exact ⟨ob, kept q ob hm e⟩
end Ev

namespace Ev
variable [Wd]
open PySem PySem.Spec PyProof.Rows L2
open LamX (ExtN Tabs TabS TabB CodeO codeO_ne lamEnv lamCx)
/-- a law that does not read its script -/
def spL (K : PySem.W.Frag) (C : CT) (m : Res PyData) : Sp := fun vs H Q _ => (∃ v, vs = [v]) ∧ Tabs C.tabs H ∧ Out K C (fun _ => none) (fun _ _ _ => False) H m fun d H' => ∀ v, R K (hid (fun _ => none) H') d v → Q v H'
theorem law_sound {P : Program} {w : World} {K : PySem.W.Frag} {mg : Str → Option Value} {base : Heap} {G : GS} {C : CT} {F : Nat → List PyData → Res PyData} {hr : Res PyData → Res PyData} {gd lam : Bool} {k n : Nat} {f : Addr} {name qual x : Str} {params : Arguments} {body : List Stmt} {scope : Scope} {dV kV doc pm cdv ct oc : Value} {an od : Option Addr} {osl : Array (Option Value)} {N : List Str} {b : E .blk}
    (lk : K.lookup f = some ⟨oc, od, .func (PySem.W.fnOf name qual params body scope dV kV doc pm an cdv ct), osl⟩) (hcd : PySem.W.codeIn K cdv qual = true) (S : FnScope N [x] scope) (dbg : ∀ x ∈ N, (x == ("__debug__" : Str)) = false ∧ (x == ("__classdict__" : Str)) = false)
    (hk : 2 ≤ n) (hnk : n ≤ k) (hg : Glob G P w K mg base C F n) (hc : chk G b ⟨N, scope, scope.names, true, gd, lam⟩ false body = true)
    (hh : lam = true → ∀ (A : Around) (outer : List Env) (s : Shared) (H : Hp) (E' : XK), Room k (A.deeper (envOfC qual scope s.heap.objs.size f cdv)) → HearOk G (cxOf (CX P w) P w K mg base N qual scope f cdv A outer s H E') C hr (fun _ _ _ => False) n) :
    FnG P w K mg base gd (k + 1) f (PySem.W.fnOf name qual params body scope dV kV doc pm an cdv ct) [x] (spL K C (noX (outF (ev F hr b (List.replicate N.length none))))) := by
  refine fnG_of lk hcd S (fun vs H Q E h => ?_) fun A outer s H vs Q E' hgd hrm hs => ?_
  · obtain ⟨⟨v, rfl⟩, _⟩ := h
    rfl
  obtain ⟨⟨v, rfl⟩, tb, o⟩ := hs
  have hpl : 1 ≤ N.length := by
    have := congrArg List.length S.pre
    rw [List.length_take] at this
    simp at this; omega
  let X := cxOf (CX P w) P w K mg base N qual scope f cdv A outer s H E'
  have c : Ct G X C ⟨N, scope, scope.names, true, gd, lam⟩ F hr (fun _ _ _ => False) n :=
    { n := rfl, sc := rfl, nd := S.nd, dbg := dbg, wr := fun x h => ⟨h, .inl rfl⟩, calm := rfl, room := hrm.mono hnk, k2 := hk, gd := hgd, ps := Ct.ps0, tk := fun _ => ⟨LamX.takes0, passes_of (X := X) rfl, S.kind⟩, g := hg, hear := fun z => hh z A outer s H E' hrm }
  have hlen : (L2.start N [v]).length = N.length := by
    unfold L2.start
    simp
    omega
  have t0 : Trk (fun _ => none) H := fun a h => by cases h
  refine ⟨_, sound (hr := hr) b c (fun _ => rfl) hc, body_fin (n := N.length) hlen t0 (Sm.refl _) (rel_none hlen (fun a h => ?_) tb) o⟩
  unfold foreign at h
  cases h
/-- the same, and it calls the catcher -/
theorem law_lam {P : Program} {w : World} {K : PySem.W.Frag} {mg : Str → Option Value} {base : Heap} {G : GS} {C : CT} {F : Nat → List PyData → Res PyData} {gd : Bool} {k n : Nat} {f c Pt : Addr} {name qual x : Str} {params : Arguments} {body : List Stmt} {scope : Scope} {dV kV doc pm ct oc : Value} {an od : Option Addr} {osl : Array (Option Value)} {N : List Str} {b bh : E .blk} {Nh : List Str} {ifo ica nc : Nat}
    (lk : K.lookup f = some ⟨oc, od, .func (PySem.W.fnOf name qual params body scope dV kV doc pm an (.ref c) ct), osl⟩) (hcd : PySem.W.codeIn K (.ref c) qual = true) (S : FnScope N [x] scope) (dbg : ∀ x ∈ N, (x == ("__debug__" : Str)) = false ∧ (x == ("__classdict__" : Str)) = false)
    (hk : 2 ≤ n) (hnk : n + 2 ≤ k) (hg : Glob G P w K mg base C F n) (hc : chk G b ⟨N, scope, scope.names, true, gd, true⟩ false body = true)
    (hf : HearF G P w K mg base C F n bh Nh ifo ica nc) (B : TabB base mg c Pt) (hm : (Pt, qual ++ ".<locals>." ++ "<lambda>") ∈ C.tabs ∧ ∀ p ∈ C.tabs, p.1 = Pt → p.2 = qual ++ ".<locals>." ++ "<lambda>") :
    FnG P w K mg base gd (k + 1) f (PySem.W.fnOf name qual params body scope dV kV doc pm an (.ref c) ct) [x] (spL K C (noX (outF (ev F (runHear F bh Nh.length ifo ica nc) b (List.replicate N.length none))))) :=
  law_sound lk hcd S dbg hk (by omega) hg hc fun _ A outer s H E' hr => hear_ok hf hk hg B rfl hm.1 hm.2 (hr.mono hnk)
end Ev

namespace Ev
variable [Wd]
open PySem PySem.Spec PyProof.Rows L2
open LamX (ExtN Tabs TabS TabB CodeO codeO_ne lamEnv lamCx)
open He (ga ma fAd ba eqO eqO_ok Defn cT)
open PySem.W.Z (ltB leB eqB ltB_iff leB_iff eqB_iff)

/-! classes of exceptions -/
def slB (l : List (Option Value)) : Bool := match l with
  | [_, _, _, _, some (.builtin n), _] => decide (n = "ValueError.__new__")
  | _ => false
theorem slB_ok {l : List (Option Value)} (h : slB l = true) : ∃ k0 k1 k2 k3 k5, l = [k0, k1, k2, k3, some (.builtin "ValueError.__new__"), k5] := by
  unfold slB at h
  split at h
  · rename_i k0 k1 k2 k3 n k5
    have h := of_decide_eq_true h
    subst h
    exact ⟨k0, k1, k2, k3, k5, rfl⟩
  · cases h
def oexB (K : PySem.W.Frag) (C : Addr) : Bool := (match K.lookup C with
  | some ⟨.type t, _, .cls ⟨_, _, .ref c :: bm, _, _, true, _, _, _, _, false⟩, sl⟩ => decide (t = "type") && (decide (c = C) && (PySem.HandSPX.refsVE bm && slB sl.toList))
  | _ => false) && (eqO (PySem.W.findIn K (.ref C) "__setattr__") (some (some (.builtin "object.__setattr__"))) && (decide (PySem.W.subIn K (.ref C) (.type "BaseException") = some true) && (decide (PySem.W.typeIn K (.ref C) = some (.type "type")) && PySem.W.keepIn K (.ref C))))
theorem oexB_ok {K : PySem.W.Frag} {C : Addr} (h : oexB K C = true) : OexC K C := by
  obtain ⟨h1, h⟩ := ba h
  obtain ⟨h2, h⟩ := ba h
  obtain ⟨h3, h⟩ := ba h
  obtain ⟨h4, h5⟩ := ba h
  refine ⟨?_, eqO_ok h2, of_decide_eq_true h3, of_decide_eq_true h4, h5⟩
  split at h1
  · rename_i t d nm bs c bm ns q sn sub ab col sl lk
    obtain ⟨g1, u1⟩ := ba h1
    obtain ⟨g2, u2⟩ := ba u1
    obtain ⟨g3, u3⟩ := ba u2
    obtain ⟨k0, k1, k2, k3, k5, e⟩ := slB_ok u3
    have g1 := of_decide_eq_true g1
    have g2 := of_decide_eq_true g2
    subst g1 g2
    have es : sl = #[k0, k1, k2, k3, some (.builtin "ValueError.__new__"), k5] := by
      apply Array.toList_inj.mp
      rw [e]
    subst es
    exact ⟨nm, q, ns, bs, bm, sn, sub, ab, col, d, k0, k1, k2, k3, k5, lk, g3⟩
  · cases h1
def excB (K : PySem.W.Frag) (D : Addr) : Bool := eqO (PySem.W.findIn K (.ref D) "__getattribute__") (some (some (.builtin "BaseException.__getattribute__"))) && (eqO (PySem.W.findIn K (.ref D) "__getattr__") (some none) &&
  (decide (PySem.W.subIn K (.ref D) (.type "BaseException") = some true) && (PySem.W.hasDictIn K D && (eqO (PySem.W.findIn K (.ref D) "__class__") (some (some (.builtin "object.__class__"))) &&
  (eqO (PySem.W.specialIn K (.builtin "object.__class__") "__get__") (some (some (.builtin "getset_descriptor.__get__"))) && (decide (PySem.W.takesIn K (.builtin "object.__class__") = some true) && decide (PySem.W.mroIn K D (.type "object") = some true)))))))
theorem excB_ok {K : PySem.W.Frag} {D : Addr} (h : excB K D = true) : ExcC K D := by
  obtain ⟨h1, h⟩ := ba h
  obtain ⟨h2, h⟩ := ba h
  obtain ⟨h3, h⟩ := ba h
  obtain ⟨h4, h⟩ := ba h
  obtain ⟨h5, h⟩ := ba h
  obtain ⟨h6, h⟩ := ba h
  obtain ⟨h7, h8⟩ := ba h
  exact ⟨eqO_ok h1, eqO_ok h2, of_decide_eq_true h3, h4, eqO_ok h5, eqO_ok h6, of_decide_eq_true h7, of_decide_eq_true h8⟩
/-- the i-th name of the classes -/
def nmAt : List (Str × List Bool × Str) → Nat → Str
  | [], _ => "?"
  | p :: l, i => match i with | 0 => p.1 | i + 1 => nmAt l i
def fdAt : List (Str × List Bool × Str) → Nat → Str
  | [], _ => "?"
  | p :: l, i => match i with | 0 => p.2.2 | i + 1 => fdAt l i
theorem nmAt_of : ∀ {l : List (Str × List Bool × Str)} {i : Nat} {q : Str × List Bool × Str}, l[i]? = some q → nmAt l i = q.1 ∧ fdAt l i = q.2.2
  | [], i, q, h => by simp at h
  | p :: l, 0, q, h => by simp at h; subst h; exact ⟨rfl, rfl⟩
  | p :: l, i + 1, q, h => nmAt_of (l := l) (i := i) (by simpa using h)
def relsB (K : PySem.W.Frag) (C : Addr) (cl : Nat → Addr) : Nat → List Bool → Bool
  | _, [] => true
  | i, b :: l => decide (PySem.W.kitOne K (.ref (cl i)) (.ref C) = some b) && (decide (PySem.W.exmOne K (.ref (cl i)) (.ref C) = some b) && (excB K (cl i) && relsB K C cl (i + 1) l))
theorem relsB_ok {K : PySem.W.Frag} {C : Addr} {cl : Nat → Addr} : ∀ {l : List Bool} {i : Nat}, relsB K C cl i l = true → ∀ (c : Nat) b, l[c]? = some b → PySem.W.kitOne K (.ref (cl (i + c))) (.ref C) = some b ∧ ExcC K (cl (i + c)) ∧ PySem.W.exmOne K (.ref (cl (i + c))) (.ref C) = some b
  | [], i, _, c, b, e => by simp at e
  | x :: l, i, h, c, b, e => by
    obtain ⟨h1, h⟩ := ba h
    obtain ⟨h0, h⟩ := ba h
    obtain ⟨h2, h3⟩ := ba h
    cases c with
    | zero => simp at e; subst e; exact ⟨of_decide_eq_true h1, excB_ok h2, of_decide_eq_true h0⟩
    | succ c =>
      have := relsB_ok h3 c b (by simpa using e)
      rw [show i + 1 + c = i + (c + 1) by omega] at this
      exact this
def clsB1 (K : PySem.W.Frag) (cl : Nat → Addr) (q : Str × List Bool × Str) : Bool := eqO (PySem.W.nsIn K mainGlobals q.1) (some (some (.ref (ga K q.1)))) && (oexB K (ga K q.1) && (eqO (PySem.W.findIn K (.ref (ga K q.1)) q.2.2) (some none) && (eqO (PySem.W.findIn K (.ref (ga K q.1)) "__init__") (some (some (.ref (ma K (ga K q.1) "__init__")))) &&
  (decide (PySem.W.typeIn K (.ref (ma K (ga K q.1) "__init__")) = some (.type "function")) && (xfB K (ga K q.1) && (decide (PySem.W.kitOne K (.type "NoneType") (.ref (ga K q.1)) = some false) && relsB K (ga K q.1) cl 0 q.2.1))))))
def clsB (K : PySem.W.Frag) (l : List (Str × List Bool × Str)) : Bool := l.all fun q => !(q.1 == ("__debug__" : Str)) && clsB1 K (fun c => ga K (nmAt l c)) q

/-! __init__(self, f): self.f = f -/
def initB (b : List Stmt) (f : Str) : Bool := match b with
  | [.Assign [.Attribute (.Name s _) g _] (.Name y _) _] => strEq s "self" && (strEq g f && strEq y f)
  | _ => false
def initS (sc : Scope) (f : Str) : Bool := isFun sc.kind && (!sc.isCoroutine && (!sc.isGenerator && (nkIs sc.names "self" .local && (nkIs sc.names f .local && (sc.names.all (fun y => !freeK y.2) && (!strEq f "self" && (!(f == ("__debug__" : Str)) && !(f == ("__classdict__" : Str)))))))))
theorem init_ok {P : Program} {w : World} {K : PySem.W.Frag} {mg : Str → Option Value} {base : Heap} {f : Addr} {fd : FuncData} {name qual x : Str} {params : Arguments} {body : List Stmt} {scope : Scope} (F : FunD K name qual params body scope [] [] f fd) (hb : initB body x = true) (hs : initS scope x = true) :
    FnOk P w K mg base (CX P w) 1 f fd ["self", x] (spI K x) := by
  unfold initB at hb
  split at hb
  · rename_i s p1 g p2 y p3 p4
    obtain ⟨h1, hb⟩ := ba hb
    obtain ⟨h2, h3⟩ := ba hb
    rw [strEq_iff] at h1 h2 h3
    subst h1 h2 h3
    obtain ⟨s1, hs⟩ := ba hs
    obtain ⟨s2, hs⟩ := ba hs
    obtain ⟨s3, hs⟩ := ba hs
    obtain ⟨s4, hs⟩ := ba hs
    obtain ⟨s5, hs⟩ := ba hs
    obtain ⟨s6, hs⟩ := ba hs
    obtain ⟨s7, hs⟩ := ba hs
    obtain ⟨s8, s9⟩ := ba hs
    simp only [Bool.not_eq_true'] at s2 s3 s7 s8 s9
    have hne : ("self" : Str) ≠ y := fun z => by
      have : strEq y "self" = true := strEq_iff.mpr z.symm
      rw [this] at s7; cases s7
    have e4 := nkIs_eq s4
    have e5 := nkIs_eq s5
    have nd : (["self", y] : List Str).Nodup := by simp [hne]
    have S : FnScope ["self", y] ["self", y] scope := ⟨isFun_eq s1, s2, s3, nd, rfl, fun z hz => by
      rcases List.mem_cons.mp hz with rfl | hz
      · exact .inl e4
      · rw [List.mem_singleton] at hz; subst hz; exact .inl e5, fun z hz e => by
      have := List.all_eq_true.mp s6 z hz
      rw [e] at this; cases this⟩
    refine F.ok S (fun vs H Q E h => ?_) (fun cdv A outer s H vs Q E hr h => ?_)
    · obtain ⟨a, C, y', rfl, _⟩ := h; rfl
    · obtain ⟨a, C, y', rfl, oc, no, ha, k⟩ := h
      refine ⟨_, pss_one (ps_ost (pe_var (i := 0) rfl (.inl e4) (by decide) (by decide)) (pe_var (i := 1) rfl (.inl e5) s8 s9) rfl), ?_⟩
      exact ⟨y', rfl, _, rfl, a, C, rfl, oc, no, .inl ⟨ha, fun dx h1 h2 => k dx h1 h2⟩⟩
  · cases hb
end Ev

namespace Ev
variable [Wd]
open PySem PySem.Spec PyProof.Rows L2
open LamX (ExtN Tabs TabS TabB CodeO codeO_ne lamEnv lamCx)
open He (ga ma fAd ba eqO eqO_ok Defn cT DefD SaysD Fa)
open PySem.W.Z (ltB leB eqB ltB_iff leB_iff eqB_iff)

/-! constants of the top -/
mutual
def dvB (K : PySem.W.Frag) : PyData → Value → Bool
  | .none, u => (match u with | .none => true | _ => false)
  | .bool b, u => (match u with | .bool c => (match b with | true => c | false => !c) | _ => false)
  | .int i, u => (match u with | .int j _ => eqB i j | _ => false)
  | .str s, u => (match u with | .str y _ => strEq s y | _ => false)
  | .tuple ds, u => (match u with
    | .ref a => (match K.lookup a with
      | some ⟨.type c, _, .seq its _, _⟩ => decide (c = "tuple") && (Nat.ble its.size sizeLine && dvsB K ds its.toList)
      | _ => false)
    | _ => false)
  | _, _ => false
def dvsB (K : PySem.W.Frag) : List PyData → List Value → Bool
  | [], us => (match us with | [] => true | _ => false)
  | d :: ds, us => (match us with | u :: us => dvB K d u && dvsB K ds us | [] => false)
end
mutual
theorem dvB_ok {K : PySem.W.Frag} : ∀ {d : PyData} {u : Value}, dvB K d u = true → ∃ v, RelV v u ∧ ∀ H, R K H d v
  | .none, u, h => by
    cases u <;> simp [dvB] at h
    exact ⟨.non, rfl, fun H => R.none'⟩
  | .bool b, u, h => by
    cases u <;> simp only [dvB] at h <;> first | (cases h; done) | skip
    rename_i c
    refine ⟨.bl b, ?_, fun H => R.bool'⟩
    cases b <;> cases c <;> first | rfl | cases h
  | .int i, u, h => by
    cases u <;> simp only [dvB] at h <;> first | (cases h; done) | skip
    rename_i j t
    rw [eqB_iff] at h
    subst h
    exact ⟨.int i, ⟨t, rfl⟩, fun H => R.int'⟩
  | .str s, u, h => by
    cases u <;> simp only [dvB] at h <;> first | (cases h; done) | skip
    rename_i y t
    rw [strEq_iff] at h
    subst h
    exact ⟨.str s, ⟨t, rfl⟩, fun H => R.str'⟩
  | .tuple ds, u, h => by
    cases u <;> simp only [dvB] at h <;> first | (cases h; done) | skip
    rename_i a
    split at h
    · rename_i c od its n sl lk
      obtain ⟨h1, h2⟩ := ba h
      obtain ⟨h3, h4⟩ := ba h2
      obtain ⟨vs, rv, r⟩ := dvsB_ok h4
      have hc := of_decide_eq_true h1
      subst hc
      exact ⟨.ref a, rfl, fun H => R.tuple_iff.mpr ⟨a, vs, rfl, .inr ⟨_, its, n, lk, rfl, rfl, Nat.le_of_ble_eq_true h3, rv⟩, r H⟩⟩
    · cases h
  | .list _, u, h => by cases u <;> simp [dvB] at h
  | .dict _, u, h => by cases u <;> simp [dvB] at h
theorem dvsB_ok {K : PySem.W.Frag} : ∀ {ds : List PyData} {us : List Value}, dvsB K ds us = true → ∃ vs, Vals vs us ∧ ∀ H, Rs K H ds vs
  | [], us, h => by
    cases us with
    | nil => exact ⟨[], .nil, fun H => Rs.nil⟩
    | cons _ _ => simp [dvsB] at h
  | d :: ds, us, h => by
    cases us with
    | nil => simp [dvsB] at h
    | cons u us =>
      obtain ⟨h1, h2⟩ := ba (show (dvB K d u && dvsB K ds us) = true from h)
      obtain ⟨v, r1, q1⟩ := dvB_ok h1
      obtain ⟨vs, r2, q2⟩ := dvsB_ok h2
      exact ⟨v :: vs, .cons r1 r2, fun H => .cons (q1 H) (q2 H)⟩
end
def conB1 (K : PySem.W.Frag) (q : Str × PyData) : Bool := !(q.1 == ("__debug__" : Str)) && (match PySem.W.nsIn K mainGlobals q.1 with
  | some (some u) => dvB K q.2 u
  | _ => false)
theorem conB1_ok {K : PySem.W.Frag} {h : Heap} {mg : Str → Option Value} (X : K.In h) (G : h.Ns mainGlobals mg) {q : Str × PyData} (c : conB1 K q = true) : (q.1 == ("__debug__" : Str)) = false ∧ ∃ u v, mg q.1 = some u ∧ RelV v u ∧ ∀ H, R K H q.2 v := by
  obtain ⟨c1, c2⟩ := ba c
  refine ⟨by simpa using c1, ?_⟩
  split at c2
  · rename_i u e
    obtain ⟨v, r, k⟩ := dvB_ok c2
    exact ⟨u, v, PySem.W.mg_of X G e, r, k⟩
  · cases c2
/-! dicts of the top with text keys -/
def entB (K : PySem.W.Frag) : List DictEntry → List (Str × PyData) → Bool
  | [], l => (match l with | [] => true | _ => false)
  | e :: es, l => (match l with
    | q :: l => (match e.key with | .str x _ => strEq x q.1 | _ => false) && (dvB K q.2 e.val && entB K es l)
    | [] => false)
theorem entB_ok {K : PySem.W.Frag} : ∀ {es : List DictEntry} {tab : List (Str × PyData)}, entB K es tab = true → ∀ z, match dlook tab z with
    | some dd => ∃ e v, es.find? (·.key.isStr z) = some e ∧ RelV v e.val ∧ ∀ H, R K H dd v
    | none => es.find? (·.key.isStr z) = none ∧ es.any (·.refKey) = false
  | [], tab, h, z => by
    cases tab with
    | nil => exact ⟨rfl, rfl⟩
    | cons _ _ => simp [entB] at h
  | e :: es, tab, h, z => by
    cases tab with
    | nil => simp [entB] at h
    | cons q l =>
      obtain ⟨h1, h2⟩ := ba (show ((match e.key with | .str x _ => strEq x q.1 | _ => false) && (dvB K q.2 e.val && entB K es l)) = true from h)
      obtain ⟨h3, h4⟩ := ba h2
      split at h1
      · rename_i x t ek
        rw [strEq_iff] at h1
        subst h1
        unfold dlook
        cases hz : strEq q.1 z with
        | true =>
          simp only
          obtain ⟨v, r, k⟩ := dvB_ok h3
          refine ⟨e, v, ?_, r, k⟩
          rw [List.find?_cons]
          have : e.key.isStr z = true := by rw [ek]; exact beq_iff_eq.mpr (strEq_iff.mp hz)
          rw [this]
        | false =>
          simp only
          have hne : e.key.isStr z = false := by
            rw [ek]
            show (q.1 == z) = false
            rw [beq_eq_false_iff_ne]
            intro y
            rw [← strEq_iff] at y
            rw [y] at hz; cases hz
          have ih := entB_ok h4 z
          rw [List.find?_cons, hne]
          cases hd : dlook l z with
          | some dd => rw [hd] at ih; exact ih
          | none =>
            rw [hd] at ih
            refine ⟨ih.1, ?_⟩
            rw [List.any_cons, ih.2, Bool.or_false]
            unfold DictEntry.refKey
            rw [ek] <;> rfl
      · cases h1
def dctB1 (K : PySem.W.Frag) (q : Str × List (Str × PyData)) : Bool := !(q.1 == ("__debug__" : Str)) && (eqO (PySem.W.nsIn K mainGlobals q.1) (some (some (.ref (ga K q.1)))) && (match K.lookup (ga K q.1) with
  | some ⟨_, _, .dict es _, _⟩ => entB K es.toList q.2
  | _ => false))
theorem dctB1_ok {K : PySem.W.Frag} {q : Str × List (Str × PyData)} (c : dctB1 K q = true) : GD K (ga K q.1) q.2 := by
  obtain ⟨_, c⟩ := ba c
  obtain ⟨_, c⟩ := ba c
  split at c
  · rename_i oc od es n sl lk
    refine ⟨fun z => ?_⟩
    have h := entB_ok c z
    unfold PySem.W.nsIn
    rw [lk]
    simp only
    cases hd : dlook q.2 z with
    | some dd =>
      rw [hd] at h
      obtain ⟨e, v, e1, r, k⟩ := h
      exact ⟨e.val, v, by rw [e1], r, k⟩
    | none =>
      rw [hd] at h
      simp only
      rw [h.1]
      simp only
      rw [if_neg (by rw [h.2]; decide)]
  · cases c
end Ev

namespace Ev
variable [Wd]
open PySem PySem.Spec PyProof.Rows L2
open LamX (ExtN Tabs TabS TabB CodeO codeO_ne lamEnv lamCx)
open He (ga ma fAd ba eqO eqO_ok Defn cT DefD SaysD SaysX Fa codeOf tabOf)
open PySem.W.Z (ltB leB eqB ltB_iff leB_iff eqB_iff)

/-! one more function -/
def extF (F : Nat → List PyData → Res PyData) (j : Nat) (m : List PyData → Res PyData) : Nat → List PyData → Res PyData := fun i => match Nat.beq i j with | true => m | false => F i
theorem extF_same {F : Nat → List PyData → Res PyData} {j : Nat} {m : List PyData → Res PyData} : extF F j m j = m := by
  unfold extF
  rw [Nat.beq_refl]
theorem extF_ne {F : Nat → List PyData → Res PyData} {i j : Nat} {m : List PyData → Res PyData} (h : i ≠ j) : extF F j m i = F i := by
  unfold extF
  cases e : Nat.beq i j with
  | true => exact absurd (Nat.eq_of_beq_eq_true e) h
  | false => rfl
section
variable {P : Program} {w : World} {K : PySem.W.Frag} {mg : Str → Option Value} {base : Heap} {G : GS} {C : CT} {F : Nat → List PyData → Res PyData} {k k' : Nat}
/-- the draws' function -/
theorem Glob.draw (g : Glob G P w K mg base C F k) {nm : Str} {f : Addr} {fd : FuncData} {ps : List Str} (hdb : (nm == ("__debug__" : Str)) = false) (hm : mg nm = some (.ref f)) (kp : PySem.W.keepIn K (.ref f) = true) (hb : L2.Binds K fd ps []) (hF : FnG P w K mg base false k' f fd ps spT) (hk : k ≤ k') :
    Glob { G with draw := some nm } P w K mg base C F k' :=
  ⟨fun i x y z e => let ⟨h1, f', fd', ps', h2, h3, h4, h5⟩ := g.fn i x y z e; ⟨h1, f', fd', ps', h2, h3, h4, h5.mono hk⟩, g.blt, fun y e => by
    cases e
    exact ⟨hdb, f, fd, ps, hm, kp, hb, hF⟩, g.con, g.dct, fun j nm bs f e => g.cls j nm bs f e⟩
def GS.add (G : GS) (nm : Str) (n : Nat) (gd : Bool) : GS := { G with fns := G.fns ++ [(nm, n, gd)] }
theorem Glob.add (g : Glob G P w K mg base C F k) {nm : Str} {n j : Nat} {gd : Bool} {f : Addr} {fd : FuncData} {ps : List Str} {m : List PyData → Res PyData} (hj : G.fns.length = j) (hdb : (nm == ("__debug__" : Str)) = false) (hm : mg nm = some (.ref f)) (kp : PySem.W.keepIn K (.ref f) = true) (hb : L2.Binds K fd ps [])
    (hF : FnG P w K mg base gd k' f fd ps (spG K C n m)) (hk : k ≤ k') : Glob (G.add nm n gd) P w K mg base C (extF F j m) k' := by
  refine ⟨fun i x y z e => ?_, g.blt, fun y e => let ⟨h1, f', fd', ps', h2, h3, h4, h5⟩ := g.drw y e; ⟨h1, f', fd', ps', h2, h3, h4, h5.mono hk⟩, g.con, g.dct, g.cls⟩
  have e' : (G.fns ++ [(nm, n, gd)])[i]? = some (x, y, z) := e
  rw [List.getElem?_append] at e'
  split at e'
  · rename_i hi
    obtain ⟨h1, f', fd', ps', h2, h3, h4, h5⟩ := g.fn i x y z e'
    rw [extF_ne (by omega)]
    exact ⟨h1, f', fd', ps', h2, h3, h4, h5.mono hk⟩
  · rename_i hi
    have hi0 : i - G.fns.length = 0 := by
      cases q : i - G.fns.length with
      | zero => rfl
      | succ r => rw [q] at e'; simp at e'
    rw [hi0] at e'
    have e2 : (nm, n, gd) = (x, y, z) := by simpa using e'
    cases e2
    have : i = j := by omega
    subst this
    rw [extF_same]
    exact ⟨hdb, f, fd, ps, hm, kp, hb, hF⟩
end
/-! what is looked at of a def -/
def nodupB : List Str → Bool
  | [] => true
  | x :: l => !memS x l && nodupB l
theorem nodupB_ok : ∀ {l : List Str}, nodupB l = true → l.Nodup
  | [], _ => List.nodup_nil
  | x :: l, h => by
    obtain ⟨h1, h2⟩ := ba h
    refine List.nodup_cons.mpr ⟨fun m => ?_, nodupB_ok h2⟩
    rw [memS_iff.mpr m] at h1; cases h1
def preB : List Str → List Str → Bool
  | [], _ => true
  | x :: l, N => (match N with | y :: N => strEq x y && preB l N | [] => false)
theorem preB_ok : ∀ {l N : List Str}, preB l N = true → N.take l.length = l
  | [], N, _ => rfl
  | x :: l, N, h => by
    cases N with
    | nil => cases h
    | cons y N =>
      obtain ⟨h1, h2⟩ := ba (show (strEq x y && preB l N) = true from h)
      rw [strEq_iff] at h1
      rw [List.length_cons, List.take_succ_cons, preB_ok h2, h1]
def lcB : Option NameKind → Bool
  | some .local => true
  | some .cell => true
  | _ => false
def fsB (N ps : List Str) (sc : Scope) : Bool := isFun sc.kind && (!sc.isCoroutine && (!sc.isGenerator && (nodupB N && (preB ps N && (ps.all (fun x => lcB (nk sc.names x)) && sc.names.all (fun y => !freeK y.2))))))
theorem fsB_ok {N ps : List Str} {sc : Scope} (h : fsB N ps sc = true) : FnScope N ps sc := by
  obtain ⟨h1, h⟩ := ba h
  obtain ⟨h2, h⟩ := ba h
  obtain ⟨h3, h⟩ := ba h
  obtain ⟨h4, h⟩ := ba h
  obtain ⟨h5, h⟩ := ba h
  obtain ⟨h6, h7⟩ := ba h
  refine ⟨isFun_eq h1, by simpa using h2, by simpa using h3, nodupB_ok h4, preB_ok h5, fun x hx => ?_, fun y hy e => ?_⟩
  · have z := List.all_eq_true.mp h6 x hx
    rw [nk_eq] at z
    unfold lcB at z
    split at z
    · rename_i q; exact .inl q
    · rename_i q; exact .inr q
    · cases z
  · have z := List.all_eq_true.mp h7 y hy
    rw [e] at z; cases z
def dbgB (N : List Str) : Bool := N.all fun x => !(x == ("__debug__" : Str)) && !(x == ("__classdict__" : Str))
theorem dbgB_ok {N : List Str} (h : dbgB N = true) : ∀ x ∈ N, (x == ("__debug__" : Str)) = false ∧ (x == ("__classdict__" : Str)) = false := fun x hx => by
  obtain ⟨h1, h2⟩ := ba (List.all_eq_true.mp h x hx)
  exact ⟨by simpa using h1, by simpa using h2⟩
def okD (G : GS) (N ps : List Str) (b : E .blk) (gd lam : Bool) (st : Stmt) : Bool := fsB N ps (defScope st) && (dbgB N && chk G b ⟨N, defScope st, (defScope st).names, true, gd, lam⟩ false (defBody st))
abbrev dOf (nm : Str) (st : Stmt) : DefD := ⟨(nm, none), nm, nm, defArgs st, defBody st, defScope st, [], []⟩
section
variable {P : Program} {w : World} {K : PySem.W.Frag} {mg : Str → Option Value} {base : Heap} {G : GS} {C : CT} {F : Nat → List PyData → Res PyData} {k j : Nat} {nm : Str} {st : Stmt} {N ps : List Str} {b : E .blk} {gd : Bool}
def noHr : Res PyData → Res PyData := fun _ => .bad
/-- how arguments come to names -/
abbrev BindA (nm : Str) (st : Stmt) (ps : List Str) : Prop := ∀ (kV doc pm : Value) (an : Option Addr) (cdv ct : Value) (us : List Value), us.length = ps.length → bindArgs (PySem.W.fnOf nm nm (defArgs st) (defBody st) (defScope st) .none kV doc pm an cdv ct) ⟨us, []⟩ = pure (ps.zip us)
theorem addD {fd : FuncData} (g : Glob G P w K mg base C F k) (hk : 2 ≤ k) (hj : G.fns.length = j) (FD : FunD K nm nm (defArgs st) (defBody st) (defScope st) [] [] (ga K nm) fd) (hm : mg nm = some (.ref (ga K nm))) (hdb : (nm == ("__debug__" : Str)) = false) (ok : okD G N ps b gd false st = true) (bd : BindA nm st ps) :
    Glob (G.add nm ps.length gd) P w K mg base C (extF F j (runF F noHr N.length b)) (k + 1) := by
  have hB : L2.Binds K fd ps [] := FD.bindsN bd
  have kp := FD.kp
  obtain ⟨oc, od, dV, kV, doc, pm, an, cdv, ct, osl, rfl, lk, hcd, hD, hK⟩ := FD.ex
  obtain ⟨o1, o⟩ := ba ok
  obtain ⟨o2, o3⟩ := ba o
  exact g.add hj hdb hm kp hB (fn_sound (hr := noHr) lk hcd (fsB_ok o1) (dbgB_ok o2) hk (Nat.le_refl k) g o3 (fun z => by cases z)) (Nat.le_succ k)
/-- a def that calls itself: n levels deep at most -/
def recF (F : Nat → List PyData → Res PyData) (j m : Nat) (b : E .blk) : Nat → List PyData → Res PyData
  | 0 => fun _ => .bad
  | n + 1 => runF (extF F j (recF F j m b n)) noHr m b
theorem addRec {fd : FuncData} (g : Glob G P w K mg base C F k) (hk : 2 ≤ k) (hj : G.fns.length = j) (FD : FunD K nm nm (defArgs st) (defBody st) (defScope st) [] [] (ga K nm) fd) (hm : mg nm = some (.ref (ga K nm))) (hdb : (nm == ("__debug__" : Str)) = false) (ok : okD (G.add nm ps.length gd) N ps b gd false st = true) (bd : BindA nm st ps) (n : Nat) :
    Glob (G.add nm ps.length gd) P w K mg base C (extF F j (recF F j N.length b n)) (k + n + 1) := by
  have hB : L2.Binds K fd ps [] := FD.bindsN bd
  have kp := FD.kp
  obtain ⟨oc, od, dV, kV, doc, pm, an, cdv, ct, osl, rfl, lk, hcd, hD, hK⟩ := FD.ex
  obtain ⟨o1, o⟩ := ba ok
  obtain ⟨o2, o3⟩ := ba o
  refine g.add hj hdb hm kp hB ?_ (by omega)
  induction n with
  | zero =>
    refine fnG_of lk hcd (fsB_ok o1) (fun vs H Q E h => h.1) fun A outer s H vs Q E' hgd hrm hs => ?_
    obtain ⟨hl, ds, A0, r, t, tb, o⟩ := hs
    exact (show False from o).elim
  | succ n ih =>
    have g2 := g.add hj hdb hm kp hB ih (by omega)
    exact fn_sound (hr := noHr) (k := k + n + 1) (n := k + n + 1) lk hcd (fsB_ok o1) (dbgB_ok o2) (by omega) (Nat.le_refl _) g2 o3 (fun z => by cases z)
/-- the catcher -/
structure Hr (K : PySem.W.Frag) (mg : Str → Option Value) (C : CT) (hn : Str) (st : Stmt) (Nh : List Str) (rest : List Stmt) (ifo ica nc : Nat) : Prop where
  ex : ∃ (a fo ca en CE : Str) (ien : Nat) (fd : FuncData) (ce : Value), FunD K hn hn (defArgs st) (defBody st) (defScope st) [] [] (ga K hn) fd ∧ L2.Binds K fd [a] [] ∧ FnScope Nh [a] (defScope st) ∧ HearT Nh a fo ca en CE ifo ica ien (defBody st) rest ∧ dbgB Nh = true ∧ Vis (defScope st) a ∧
    (defScope st).names.lookup fo = some .local ∧ (defScope st).names.lookup ca = some .local ∧ (defScope st).names.lookup en = some .local ∧ (defScope st).names.lookup CE = some .globalImplicit ∧ (CE == ("__debug__" : Str)) = false ∧ mg CE = some ce ∧ (∀ c, c < nc → PySem.W.exmOne K (.ref (C.cls c)) ce = some true)
  mg : mg hn = some (.ref (ga K hn))
  db : (hn == ("__debug__" : Str)) = false
theorem Hr.hearF {hst : Stmt} {Nh : List Str} {rest : List Stmt} {ifo ica nc n : Nat} {bh : E .blk} (h : Hr K mg C G.hear hst Nh rest ifo ica nc) (hc : chk G bh ⟨Nh, defScope hst, (defScope hst).names, true, false, false⟩ false rest = true) : HearF G P w K mg base C F n bh Nh ifo ica nc := by
  obtain ⟨a, fo, ca, en, CE, ien, fd, ce, FD, hB, S, hT, dbg, hva, l1, l2, l3, l4, d4, hce, hx⟩ := h.ex
  have kp := FD.kp
  obtain ⟨oc, od, dV, kV, doc, pm, an, cdv, ct, osl, rfl, lk, hcd, hD, hK⟩ := FD.ex
  exact ⟨_, _, _, rest, _, dV, kV, doc, pm, cdv, ct, oc, ce, an, od, osl, a, fo, ca, en, CE, ien, h.mg, kp, lk, hcd, hB, S, hT, dbgB_ok dbg, hva, l1, l2, l3, l4, d4, hce, hx, hc, h.db⟩
abbrev lamQ (nm : Str) : Str := nm ++ ".<locals>." ++ "<lambda>"
theorem addLm {fd : FuncData} {hst : Stmt} {Nh : List Str} {rest : List Stmt} {ifo ica nc : Nat} {bh : E .blk} (g : Glob G P w K mg base C F k) (hk : 2 ≤ k) (hj : G.fns.length = j) (FD : FunD K nm nm (defArgs st) (defBody st) (defScope st) [] [] (ga K nm) fd) (hm : mg nm = some (.ref (ga K nm))) (hdb : (nm == ("__debug__" : Str)) = false) (ok : okD G N ps b gd true st = true) (bd : BindA nm st ps)
    (h : Hr K mg C G.hear hst Nh rest ifo ica nc) (hc : chk G bh ⟨Nh, defScope hst, (defScope hst).names, true, false, false⟩ false rest = true) (B : TabB base mg (cT K (nm, none)).1 (cT K (nm, none)).2)
    (ht : ((cT K (nm, none)).2, lamQ nm) ∈ C.tabs ∧ ∀ p ∈ C.tabs, p.1 = (cT K (nm, none)).2 → p.2 = lamQ nm) :
    Glob (G.add nm ps.length gd) P w K mg base C (extF F j (runF F (runHear F bh Nh.length ifo ica nc) N.length b)) (k + 3) := by
  have hB : L2.Binds K fd ps [] := FD.bindsN bd
  have kp := FD.kp
  obtain ⟨oc, od, dV, kV, doc, pm, an, cdv, ct, osl, rfl, lk, hcd, hD, hK⟩ := FD.ex
  obtain ⟨o1, o⟩ := ba ok
  obtain ⟨o2, o3⟩ := ba o
  obtain ⟨c, rfl⟩ := He.codeIn_ref hcd
  have e1 : (cT K (nm, none)).1 = c := He.codeOf_eq (p := (nm, none)) lk rfl
  rw [e1] at B
  exact g.add hj hdb hm kp hB (fn_lam lk hcd (fsB_ok o1) (dbgB_ok o2) hk (Nat.le_refl (k + 2)) g o3 (h.hearF hc) B ht) (by omega)
/-- the law, which does not read its script -/
theorem lawL {fd : FuncData} {x : Str} (g : Glob G P w K mg base C F k) (hk : 2 ≤ k) (FD : FunD K nm nm (defArgs st) (defBody st) (defScope st) [] [] (ga K nm) fd) (ok : okD G N [x] b gd false st = true) :
    FnG P w K mg base gd (k + 1) (ga K nm) fd [x] (spL K C (noX (outF (ev F noHr b (List.replicate N.length none))))) := by
  obtain ⟨oc, od, dV, kV, doc, pm, an, cdv, ct, osl, rfl, lk, hcd, hD, hK⟩ := FD.ex
  obtain ⟨o1, o⟩ := ba ok
  obtain ⟨o2, o3⟩ := ba o
  exact law_sound (hr := noHr) lk hcd (fsB_ok o1) (dbgB_ok o2) hk (Nat.le_refl k) g o3 (fun z => by cases z)
end
/-! the head's facts -/
def freeB (K : PySem.W.Frag) : Bool := blts.all fun x => eqO (PySem.W.nsIn K mainGlobals x) (some none)
def tabsU (K : PySem.W.Frag) (tf : List Defn) : Bool := tf.all fun p => tf.all fun q => !(decide ((cT K p).2 = (cT K q).2)) || strEq p.1 q.1
/-- all that we look at in the head: classes, constants, dicts, built-ins -/
def exB (G : GS) (CE : Str) (tf : List Defn) (K : PySem.W.Frag) : Bool := clsB K G.clss && (G.cons.all (conB1 K) && (G.dcts.all (dctB1 K) && (freeB K && (tabsU K tf && (G.clss.all fun q => decide (PySem.W.exmOne K (.ref (ga K q.1)) (.ref (ga K CE)) = some true))))))
def CTof (K : PySem.W.Frag) (G : GS) (tf : List Defn) : CT := ⟨fun c => ga K (nmAt G.clss c), fun c => fdAt G.clss c, tf.map fun p => ((cT K p).2, lamQ p.1)⟩
/-- a class's __init__ -/
structure InitD where
  nm : Str
  st : Stmt
abbrev iOf (c : Str) (q : Str) (st : Stmt) : DefD := ⟨(c, some "__init__"), "__init__", q, defArgs st, defBody st, defScope st, [], []⟩
theorem glob0 {P : Program} {w : World} {K : PySem.W.Frag} {mg : Str → Option Value} {base : Heap} {G : GS} {CE : Str} {tf : List Defn} {h : Heap} {F : Nat → List PyData → Res PyData} (X : K.In h) (Gh : h.Ns mainGlobals mg) (hx : exB G CE tf K = true)
    (hd : ∀ q ∈ G.dcts, ∃ es n, KDict K w (ga K q.1) es n) (hi : ∀ q ∈ G.clss, ∃ fd ps, FnOk P w K mg base (CX P w) 1 (ma K (ga K q.1) "__init__") fd ps (spI K q.2.2) ∧ L2.Binds K fd ps []) :
    Glob { G with fns := [], draw := none } P w K mg base (CTof K G tf) F 2 := by
  obtain ⟨x1, hx⟩ := ba hx
  obtain ⟨x2, hx⟩ := ba hx
  obtain ⟨x3, hx⟩ := ba hx
  obtain ⟨x4, hx⟩ := ba hx
  refine ⟨fun i _ _ _ e => by simp at e, fun x hx' => ?_, fun y e => (by cases e), fun j nm d e => ?_, fun j nm tab e => ?_, fun j nm bs f e => ?_⟩
  · exact PySem.W.mg_none_of X Gh (eqO_ok (List.all_eq_true.mp x4 x hx'))
  · exact conB1_ok X Gh (List.all_eq_true.mp x2 (nm, d) (List.mem_of_getElem? e))
  · have m := List.mem_of_getElem? e
    have z := List.all_eq_true.mp x3 (nm, tab) m
    obtain ⟨z1, z2⟩ := ba z
    obtain ⟨z3, _⟩ := ba z2
    obtain ⟨es, n, kd⟩ := hd _ m
    exact ⟨by simpa using z1, ga K nm, es, n, PySem.W.mg_of X Gh (eqO_ok z3), kd, dctB1_ok z⟩
  · have m := List.mem_of_getElem? e
    obtain ⟨z0, z⟩ := ba (List.all_eq_true.mp x1 (nm, bs, f) m)
    obtain ⟨z1, z⟩ := ba z
    obtain ⟨z2, z⟩ := ba z
    obtain ⟨z3, z⟩ := ba z
    obtain ⟨z4, z⟩ := ba z
    obtain ⟨z5, z⟩ := ba z
    obtain ⟨z6, z⟩ := ba z
    obtain ⟨z7, z8⟩ := ba z
    obtain ⟨en, ef⟩ := nmAt_of e
    obtain ⟨fd, ps, i1, i2⟩ := hi _ m
    have ec : (CTof K G tf).cls j = ga K nm := by show ga K (nmAt G.clss j) = _; rw [en]
    have efl : (CTof K G tf).fld j = f := ef
    refine ⟨by simpa using z0, ?_, ?_, efl, ?_, ?_, fun c b hb => ?_⟩
    · rw [ec]; exact PySem.W.mg_of X Gh (eqO_ok z1)
    · refine ⟨?_, ?_, ?_⟩
      · rw [ec]; exact oexB_ok z2
      · rw [ec, efl]; exact eqO_ok z3
      · rw [ec, efl]
        exact ⟨_, fd, ps, eqO_ok z4, of_decide_eq_true z5, i1, i2⟩
    · rw [ec]; exact xfB_ok z6
    · rw [ec]; exact of_decide_eq_true z7
    · have := relsB_ok z8 c b hb
      rw [Nat.zero_add] at this
      rw [ec]
      exact this
theorem exm_all {K : PySem.W.Frag} {G : GS} {CE : Str} {tf : List Defn} (hx : exB G CE tf K = true) : ∀ c, c < G.clss.length → PySem.W.exmOne K (.ref ((CTof K G tf).cls c)) (.ref (ga K CE)) = some true := by
  obtain ⟨_, hx⟩ := ba hx
  obtain ⟨_, hx⟩ := ba hx
  obtain ⟨_, hx⟩ := ba hx
  obtain ⟨_, hx⟩ := ba hx
  obtain ⟨_, x6⟩ := ba hx
  intro c hc
  have e : G.clss[c]? = some G.clss[c] := List.getElem?_eq_getElem hc
  have z := of_decide_eq_true (List.all_eq_true.mp x6 _ (List.mem_of_getElem? e))
  obtain ⟨en, _⟩ := nmAt_of e
  show PySem.W.exmOne K (.ref (ga K (nmAt G.clss c))) _ = _
  rw [en]; exact z
theorem tab_mem {K : PySem.W.Frag} {G : GS} {CE nm : Str} {tf : List Defn} (hx : exB G CE tf K = true) (hm : (nm, none) ∈ tf) (hno : ∀ p ∈ tf, p.2 = none) : ((cT K (nm, none)).2, lamQ nm) ∈ (CTof K G tf).tabs ∧ ∀ p ∈ (CTof K G tf).tabs, p.1 = (cT K (nm, none)).2 → p.2 = lamQ nm := by
  obtain ⟨_, hx⟩ := ba hx
  obtain ⟨_, hx⟩ := ba hx
  obtain ⟨_, hx⟩ := ba hx
  obtain ⟨_, hx⟩ := ba hx
  obtain ⟨x5, _⟩ := ba hx
  refine ⟨List.mem_map.mpr ⟨_, hm, rfl⟩, fun p hp e => ?_⟩
  obtain ⟨q, hq, rfl⟩ := List.mem_map.mp hp
  have z := List.all_eq_true.mp (List.all_eq_true.mp x5 q hq) _ hm
  have e' : (cT K q).2 = (cT K (nm, none)).2 := e
  rw [decide_eq_true e'] at z
  have z2 : strEq q.1 nm = true := by simpa using z
  show lamQ q.1 = lamQ nm
  rw [strEq_iff.mp z2]
end Ev

namespace Ev
variable [Wd]
open PySem PySem.Spec PyProof.Rows L2
open LamX (ExtN Tabs TabS TabB CodeO codeO_ne lamEnv lamCx)
open He (ga ma fAd ba eqO eqO_ok Defn cT DefD SaysD SaysX Fa codeOf tabOf)
def tabH (ts : List Addr) : Hp := fun b => if b ∈ ts then some (.tbl #[]) else none
theorem tabH_in {ts : List Addr} {b : Addr} (h : b ∈ ts) : tabH ts b = some (.tbl #[]) := if_pos h
theorem tabH_of {ts : List Addr} {b : Addr} {u : HO} (h : tabH ts b = some u) : b ∈ ts ∧ u = .tbl #[] := by
  unfold tabH at h
  split at h
  · rename_i m; cases h; exact ⟨m, rfl⟩
  · cases h
theorem tabs_tabH {ts : List (Addr × Str)} : Tabs ts (tabH (ts.map (·.1))) := fun p hp => ⟨#[], tabH_in (List.mem_map.mpr ⟨p, hp, rfl⟩), trivial, fun pos cv h => by cases h⟩
/-- what a law that is true promises -/
theorem spL_true {K : PySem.W.Frag} {C : CT} {a : Addr} {m : Res PyData} (h : m = .ok (.bool true)) : spL K C m [.ref a] (tabH (C.tabs.map (·.1))) (fun v _ => v = .bl true) fun _ _ _ => False := by
  subst h
  exact ⟨⟨_, rfl⟩, tabs_tabH, fun H' s v r => by unfold R at r; exact r⟩
/-- a law's end: it does not read its script -/
theorem walk_L {l : PySem.W.OpenLaw} {n k : Nat} {q : Program} {loose : List Str} {XP : (Str → Option Value) → Heap → Prop} {YP : World → Heap → Prop} {d : DefRec} {x : Str}
    (hn : l.most = some n) (hdf : d.params.defaults = []) (hr : Room k callerA)
    (F : ∀ (w : World) (mg : Str → Option Value) (fa : Addr) (h : Heap), YP w h → h.Ns mainGlobals mg → mg d.name = some (.ref fa) → ∃ (K : PySem.W.Frag) (C : CT) (fd : FuncData) (cs : List (Addr × Addr)) (gd : Bool) (m : Res PyData), K.In h ∧ C.tabs.map (·.1) = cs.map (·.2) ∧ m = .ok (.bool true) ∧
      (∀ p ∈ cs, h.get? p.2 = some { cls := .none, data := .fields #[] }) ∧ (∀ p ∈ cs, K.lookup p.2 = none) ∧ (∀ p ∈ cs, PySem.W.CodeHd h p.1 p.2) ∧ (∀ (s : Shared) (u : Value), BindsTo s fd ⟨[u], []⟩ [(x, u)]) ∧
      ∀ base : Heap, K.In base → base.Ns mainGlobals mg → (∀ p ∈ cs, TabB base mg p.1 p.2) → FnG l.prog w K mg base gd k fa fd [x] (spL K C m)) :
    PySem.W.WalkO q loose XP YP l.row.toRowW d [] (fun f vs => PySem.call f vs) := by
  refine Att.attach_callB hn hdf fun w s₀ s₁ mg mb fa o pm cd doc a vs ns G Y ho hd hcd hmg hobj hints hlen hbits hg => ?_
  obtain ⟨K, C, fd, cs, gd, m, KX, ht, hm, hT, nT, hC, hb, hF⟩ := F w mg fa _ Y G.T.g hmg
  have isT : ∀ b : Addr, b ∈ cs.map (·.2) → s₁.heap.get? b = some { cls := .none, data := .fields #[] } := fun b hb => by
    obtain ⟨p, hp, e⟩ := List.mem_map.mp hb
    rw [← e]
    exact hT p hp
  refine law_callG (H := tabH (cs.map (·.2))) KX G.T.g G.T.b G.T.builtins G.T.nolimit hg ?_ ?_ hC G.T.bmain hr hF hb ?_
  · refine ⟨fun q hq => tabH_in hq, isT, fun q hq => .inl ?_, fun q hq => ?_⟩
    · cases e : tabH (cs.map (·.2)) q with
      | none => exact absurd e hq
      | some u => exact (tabH_of e).1
    · cases e : tabH (cs.map (·.2)) q with
      | none => exact absurd e hq
      | some u =>
        obtain ⟨p, hp, e2⟩ := List.mem_map.mp (tabH_of e).1
        rw [← e2]; exact nT p hp
  · intro b u z
    obtain ⟨m, rfl⟩ := tabH_of z
    exact isT b m
  · rw [← ht]
    exact spL_true hm
end Ev

namespace Ev
variable [Wd]
open PySem PySem.Spec PyProof.Rows L2
open He (ga ma fAd ba eqO eqO_ok Defn cT DefD SaysD SaysT SaysX Fa Tab codeOf tabOf frT frG AlX obsT valX valT tabsB emptyTab frT_in frT_none emptyTab_eq)
/-! which objects are looked at: three steps from the module's names, code objects not entered -/
def refN (o : Obj) : List Addr := match o.data with
  | .func fd => He.refV fd.code
  | .cls cd => cd.ns :: cd.mro.flatMap He.refV
  | .dict es _ => es.toList.flatMap fun e => He.refV e.val
  | .seq its _ => its.toList.flatMap He.refV
  | _ => []
def refA (g : Addr → Option Obj) (a : Addr) : List Addr := match g a with
  | some o => refN o
  | none => []
/-- a list, made whole ahead of its use -/
def whole {β : Type} : List Addr → (List Addr → β) → β
  | [], k => k []
  | a :: l, k => (match a with | 0 => whole l fun r => k (0 :: r) | n + 1 => whole l fun r => k ((n + 1) :: r))
theorem whole_eq {β : Type} : ∀ (l : List Addr) (k : List Addr → β), whole l k = k l
  | [], k => rfl
  | a :: l, k => by
    cases a with
    | zero => exact whole_eq l fun r => k (0 :: r)
    | succ n => exact whole_eq l fun r => k ((n + 1) :: r)
def seen {β : Type} (g : Addr → Option Obj) (k : List Addr → β) : β := whole (refA g mainGlobals) fun s0 => whole (s0.flatMap (refA g)) fun s1 => whole (s1.flatMap (refA g)) fun s2 => whole (s2.flatMap (refA g)) fun s3 => k (mainGlobals :: (s0 ++ (s1 ++ (s2 ++ s3))))
def seenL (g : Addr → Option Obj) : List Addr := seen g id
theorem seen_eq {β : Type} (g : Addr → Option Obj) (k : List Addr → β) : seen g k = k (seenL g) := by
  unfold seenL seen
  simp only [whole_eq]
  rfl
def inL (a : Addr) : List Addr → Bool
  | [] => false
  | b :: l => match Nat.beq a b with | true => true | false => inL a l
/-- their objects, each once, made whole -/
def fragK {β : Type} (g : Addr → Option Obj) : List Addr → List Addr → (PySem.W.Frag → β) → β
  | [], _, k => k []
  | a :: l, done, k => (match inL a done with
    | true => fragK g l done k
    | false => (match g a with
      | some ⟨c, d, dt, sl⟩ => (match emptyTab ⟨c, d, dt, sl⟩ with
        | true => fragK g l done k
        | false => fragK g l (a :: done) fun r => k ((a, ⟨c, d, dt, sl⟩) :: r))
      | none => fragK g l done k))
/-- a part of the heap -/
def PartOf (g : Addr → Option Obj) (K : PySem.W.Frag) : Prop := ∀ a o, K.lookup a = some o → g a = some o ∧ emptyTab o = false
theorem part_nil {g : Addr → Option Obj} : PartOf g [] := fun a o e => by cases e
theorem part_cons {g : Addr → Option Obj} {a : Addr} {o : Obj} {K : PySem.W.Frag} (h : PartOf g K) (e : g a = some o) (t : emptyTab o = false) : PartOf g ((a, o) :: K) := fun b u q => by
  rw [List.lookup_cons] at q
  split at q
  · rename_i z
    cases q
    have : b = a := by simpa using z
    rw [this]; exact ⟨e, t⟩
  · exact h b u q
theorem fragK_ok {β : Type} {g : Addr → Option Obj} {P : β → Prop} : ∀ (l done : List Addr) (k : PySem.W.Frag → β), P (fragK g l done k) → ∃ K, PartOf g K ∧ P (k K)
  | [], _, k, h => ⟨[], part_nil, h⟩
  | a :: l, done, k, h => by
    unfold fragK at h
    split at h
    · exact fragK_ok l done k h
    · split at h
      · rename_i c d dt sl e
        split at h
        · exact fragK_ok l done k h
        · rename_i z
          obtain ⟨K, p, q⟩ := fragK_ok l (a :: done) (fun r => k ((a, ⟨c, d, dt, sl⟩) :: r)) h
          exact ⟨_, part_cons p e z, q⟩
      · exact fragK_ok l done k h
def obsY (fa : List Fa) (fn : List DefD) (ts : List Tab) (tf : List Defn) (ex : PySem.W.Frag → Bool) (g : Addr → Option Obj) : AlX := seen g fun l => fragK g l [] fun K => (obsT fa fn ts K, ex K && tabsB g tf K)
theorem saysY {fa : List Fa} {fn : List DefD} {ts : List Tab} {tf : List Defn} {ex : PySem.W.Frag → Bool} {w : World} {h : Heap} (e : obsY fa fn ts tf ex h.get? = valX fn ts w) : ∃ K : PySem.W.Frag, K.In h ∧ SaysX fa fn ts tf ex w h K := by
  unfold obsY at e
  rw [seen_eq] at e
  obtain ⟨K, p, q⟩ := fragK_ok (P := fun z => z = valX fn ts w) _ _ _ e
  have q1 : obsT fa fn ts K = valT fn ts w := congrArg Prod.fst q
  have q2 : (ex K && tabsB h.get? tf K) = true := congrArg Prod.snd q
  rw [Bool.and_eq_true] at q2
  have t : ∀ d ∈ tf, PySem.W.codeHdIn K (cT K d).1 (cT K d).2 = true ∧ ∃ o, h.get? (cT K d).2 = some o ∧ emptyTab o = true := fun d hd => by
    have z := List.all_eq_true.mp q2.2 d hd
    rw [Bool.and_eq_true] at z
    refine ⟨z.1, ?_⟩
    cases u : h.get? (cT K d).2 with
    | none => rw [u] at z; cases z.2
    | some o => rw [u] at z; exact ⟨o, rfl, z.2⟩
  refine ⟨K, fun a o z => (p a o z).1, ⟨q1, q2.1, fun d hd => (t d hd).1, fun d hd => ?_, fun d hd => ?_⟩⟩
  · obtain ⟨_, o, u, v⟩ := t d hd
    cases z : K.lookup (cT K d).2 with
    | none => rfl
    | some o' =>
      obtain ⟨y1, y2⟩ := p _ _ z
      rw [u] at y1; cases y1
      rw [v] at y2; cases y2
  · obtain ⟨_, o, u, v⟩ := t d hd
    rw [u, emptyTab_eq v]
def hookY (fa : List Fa) (fn : List DefD) (ts : List Tab) (tf : List Defn) (ex : PySem.W.Frag → Bool) : PySem.W.Hook where
  α := AlX
  obs := fun s => obsY fa fn ts tf ex s.heap.get?
  val := fun w => valX fn ts w
  says := fun w h => ∃ K : PySem.W.Frag, K.In h ∧ SaysX fa fn ts tf ex w h K
  of := fun _ _ e => saysY e
  keeps := fun _ _ _ ⟨K, hK, c⟩ k => ⟨K, PySem.W.Frag.In.keeps hK k, { c with empty := fun p hp => k _ _ (c.empty p hp) }⟩
theorem obsY_eq {fa : List Fa} {fn : List DefD} {ts : List Tab} {tf : List Defn} {ex : PySem.W.Frag → Bool} {g : Addr → Option Obj} {s : Shared} (h : ∀ a, g a = s.heap.get? a) : obsY fa fn ts tf ex g = (hookY fa fn ts tf ex).obs s := by
  rw [show g = s.heap.get? from funext h]; rfl
/-- the dicts of the top, as tables -/
def tsOf (l : List (Str × List (Str × PyData))) : List Tab := l.map fun q => (fun K => ga K q.1, q.2.map (·.1))
theorem kd_of {fa : List Fa} {fn : List DefD} {l : List (Str × List (Str × PyData))} {w : World} {K : PySem.W.Frag} (c : SaysT fa fn (tsOf l) w K) : ∀ q ∈ l, ∃ es n, KDict K w (ga K q.1) es n := fun q hq => by
  obtain ⟨i, hi, e⟩ := List.mem_iff_getElem.mp hq
  exact c.tab i (t := (fun K => ga K q.1, q.2.map (·.1))) (by
    unfold tsOf
    rw [List.getElem?_map, List.getElem?_eq_getElem hi, e]; rfl)
theorem GS.add_len {G : GS} {nm : Str} {n j : Nat} {gd : Bool} (h : G.fns.length = j) : (G.add nm n gd).fns.length = j + 1 := by
  unfold GS.add
  rw [List.length_append, h]; rfl
end Ev

namespace Ev
variable [Wd]
open PySem PySem.Spec PyProof.Rows L2
open LamX (ExtN Tabs TabS TabB CodeO codeO_ne lamEnv lamCx)
/-- the script beside the tables -/
def scrH (a : Addr) (o : HO) (ts : List Addr) : Hp := fun b => if b = a then some o else tabH ts b
theorem tabs_nil {ts : List (Addr × Str)} {H : Hp} (h : ∀ b ∈ ts.map (·.1), H b = some (.tbl #[])) : Tabs ts H := fun p hp => .nil (h _ (List.mem_map.mpr ⟨p, hp, rfl⟩))
/-- a law's end: its script is a list of ints -/
theorem walk_S {l : PySem.W.OpenLaw} {n k : Nat} {q : Program} {loose : List Str} {XP : (Str → Option Value) → Heap → Prop} {YP : World → Heap → Prop} {d : DefRec} {x : Str}
    (hn : l.most = some n) (hn2 : n ≤ sizeLine) (hdf : d.params.defaults = []) (hr : Room k callerA)
    (F : ∀ (w : World) (mg : Str → Option Value) (fa : Addr) (h : Heap), YP w h → h.Ns mainGlobals mg → mg d.name = some (.ref fa) → ∃ (K : PySem.W.Frag) (C : CT) (fd : FuncData) (cs : List (Addr × Addr)) (gd : Bool) (sp : Sp), K.In h ∧ C.tabs.map (·.1) = cs.map (·.2) ∧
      (∀ p ∈ cs, h.get? p.2 = some { cls := .none, data := .fields #[] }) ∧ (∀ p ∈ cs, K.lookup p.2 = none) ∧ (∀ p ∈ cs, PySem.W.CodeHd h p.1 p.2) ∧ (∀ (s : Shared) (u : Value), BindsTo s fd ⟨[u], []⟩ [(x, u)]) ∧
      (∀ (H : Hp) (a : Addr) (ns : List Int), ns.length ≤ n → (∀ z ∈ ns, Builtin.Int.intBits z ≤ 1048576) → Tabs C.tabs H → SqL K H a (ns.map V.int) → sp [.ref a] H (fun v _ => v = .bl true) fun _ _ _ => False) ∧
      ∀ base : Heap, K.In base → base.Ns mainGlobals mg → (∀ p ∈ cs, TabB base mg p.1 p.2) → FnG l.prog w K mg base gd k fa fd [x] sp) :
    PySem.W.WalkO q loose XP YP l.row.toRowW d [] (fun f vs => PySem.call f vs) := by
  refine Att.attach_callB hn hdf fun w s₀ s₁ mg mb fa o pm cd doc a vs ns G Y ho hd hcd hmg hobj hints hlen hbits hg => ?_
  obtain ⟨K, C, fd, cs, gd, sp, KX, ht, hT, nT, hC, hb, hsp, hF⟩ := F w mg fa _ Y G.T.g hmg
  have isT : ∀ b : Addr, b ∈ cs.map (·.2) → s₁.heap.get? b = some { cls := .none, data := .fields #[] } := fun b hb => by
    obtain ⟨p, hp, e⟩ := List.mem_map.mp hb
    rw [← e]
    exact hT p hp
  have notK : ∀ b : Addr, b ∈ cs.map (·.2) → K.lookup b = none := fun b hb => by
    obtain ⟨p, hp, e⟩ := List.mem_map.mp hb
    rw [← e]
    exact nT p hp
  have aT : a ∉ cs.map (·.2) := fun z => by
    have y := isT a z
    rw [hobj] at y
    have y' := congrArg (fun o : Option Obj => o.map (·.data)) y
    cases y'
  have rv := vals_ints hints
  have lv := hints.length
  have hl : ns.length ≤ sizeLine := Nat.le_trans hlen hn2
  cases hk : K.lookup a with
  | some o' =>
    have e := KX a o' hk
    rw [hobj] at e
    cases e
    refine law_callG (H := tabH (cs.map (·.2))) KX G.T.g G.T.b G.T.builtins G.T.nolimit hg ⟨fun b hb => tabH_in hb, isT, fun b hb => .inl ?_, fun b hb => ?_⟩ (fun b u z => ?_) hC G.T.bmain hr hF hb ?_
    · cases e : tabH (cs.map (·.2)) b with
      | none => exact absurd e hb
      | some u => exact (tabH_of e).1
    · cases e : tabH (cs.map (·.2)) b with
      | none => exact absurd e hb
      | some u => exact notK b (tabH_of e).1
    · obtain ⟨m, rfl⟩ := tabH_of z
      exact isT b m
    · refine hsp _ a ns hlen hbits (tabs_nil fun b hb => tabH_in (by rw [← ht]; exact hb)) (.inr ⟨_, vs.toArray, _, hk, rfl, rfl, rfl, by rw [List.size_toArray, lv]; exact hl, by simpa using rv⟩)
  | none =>
    have hH : ∀ {b : Addr} {u : HO}, scrH a (.frz { cls := .type "list", data := .seq vs.toArray } (.lst (ns.map V.int))) (cs.map (·.2)) b = some u → (b = a ∧ u = .frz { cls := .type "list", data := .seq vs.toArray } (.lst (ns.map V.int))) ∨ (b ∈ cs.map (·.2) ∧ u = .tbl #[]) := fun {b u} z => by
      unfold scrH at z
      split at z
      · rename_i e; cases z; exact .inl ⟨e, rfl⟩
      · exact .inr (tabH_of z)
    have hTb : ∀ b ∈ cs.map (·.2), scrH a (.frz { cls := .type "list", data := .seq vs.toArray } (.lst (ns.map V.int))) (cs.map (·.2)) b = some (.tbl #[]) := fun b hb => by
      unfold scrH
      rw [if_neg (fun z => aT (by rw [← z]; exact hb))]
      exact tabH_in hb
    refine law_callG (H := scrH a (.frz { cls := .type "list", data := .seq vs.toArray } (.lst (ns.map V.int))) (cs.map (·.2))) KX G.T.g G.T.b G.T.builtins G.T.nolimit hg ⟨hTb, isT, fun b hb => ?_, fun b hb => ?_⟩ (fun b u z => ?_) hC G.T.bmain hr hF hb ?_
    · cases e : scrH a (.frz { cls := .type "list", data := .seq vs.toArray } (.lst (ns.map V.int))) (cs.map (·.2)) b with
      | none => exact absurd e hb
      | some u =>
        rcases hH e with ⟨e1, e2⟩ | ⟨e1, _⟩
        · subst e1 e2
          exact .inr ⟨_, _, rfl, hobj, vs.toArray, _, rfl⟩
        · exact .inl e1
    · cases e : scrH a (.frz { cls := .type "list", data := .seq vs.toArray } (.lst (ns.map V.int))) (cs.map (·.2)) b with
      | none => exact absurd e hb
      | some u =>
        rcases hH e with ⟨e1, _⟩ | ⟨e1, _⟩
        · rw [e1]; exact hk
        · exact notK b e1
    · rcases hH z with ⟨e1, e2⟩ | ⟨e1, e2⟩
      · subst e1 e2
        exact ⟨hobj, by rw [List.length_map]; exact hl, vs, _, rv, hobj⟩
      · subst e2
        exact isT b e1
    · refine hsp _ a ns hlen hbits (tabs_nil fun b hb => hTb b (by rw [← ht]; exact hb)) (.inl (.inr ⟨{ cls := .type "list", data := .seq vs.toArray }, by unfold scrH; rw [if_pos rfl]⟩))
theorem funD_uni {K : PySem.W.Frag} {x q : Str} {p : Arguments} {b : List Stmt} {sc : Scope} {ds : List V} {ks : List (Str × V)} {f : Addr} {fd fd' : FuncData} (F : FunD K x q p b sc ds ks f fd) (F' : FunD K x q p b sc ds ks f fd') : fd = fd' := by
  obtain ⟨oc, od, dV, kV, doc, pm, an, cdv, ct, osl, e1, l1, _⟩ := F.ex
  obtain ⟨oc', od', dV', kV', doc', pm', an', cdv', ct', osl', e2, l2, _⟩ := F'.ex
  rw [l1] at l2
  have z := congrArg (fun o : Obj => o.data) (Option.some.inj l2)
  exact Data.func.inj z
end Ev

namespace Ev
open PySem PySem.Spec PyProof.Rows L2

/-! where nothing is drawn -/
def anyD (es : Array DictEntry) : Obj := { cls := .type "dict", data := .dict es }
instance wd0 : Wd where
  d := 0
  dr := fun _ h => ∃ o es ep, h.get? 0 = some o ∧ o.data = .dict es ep
  dct := fun _ _ h => h
  sepD := fun _ D es => by
    by_cases he : es.size = 0
    · refine ⟨Ev.one D (anyD #[default]), ?_, ?_⟩
      · refine ⟨anyD #[default], #[default], 0, ?_, rfl⟩
        unfold Ev.one Heap.get?
        simp only [Array.getElem?_replicate]
        rw [if_pos (Nat.succ_pos D)]
        rfl
      · rintro ⟨o, ep, h1, _, h2⟩
        rw [one_get h1] at h2
        cases h2
        cases he
    · refine ⟨Ev.one D (anyD #[]), ?_, ?_⟩
      · refine ⟨anyD #[], #[], 0, ?_, rfl⟩
        unfold Ev.one Heap.get?
        simp only [Array.getElem?_replicate]
        rw [if_pos (Nat.succ_pos D)]
        rfl
      · rintro ⟨o, ep, h1, _, h2⟩
        rw [one_get h1] at h2
        cases h2
        exact he rfl
  aux := fun _ => False
  auxm := fun _ _ _ h => h
end Ev

namespace Ev
open PySem PySem.Spec PyProof.Rows L2

/-! the state of the draws, known only as far as need be -/
def drK (l l2 : Addr) (t : Int) (room : V) : List (Key × V) := [(.inr "cells", .ref l), (.inr "lefts", .ref l2), (.inr "at", .int t), (.inr "room", room)]
section
variable (P : Program) (w : World)
def DrP (d l l2 : Addr) (T : Nat) (h : Heap) : Prop := ∃ (t : Int) (room : V), 0 ≤ t ∧ t ≤ T + 1 ∧ ObjOk P w (fun _ => none) h d (.dK (drK l l2 t room))
def DlP (l2 : Addr) (n : Nat) (h : Heap) : Prop := ∃ ls : List Int, ls.length = n ∧ ObjOk P w (fun _ => none) h l2 (.lst (ls.map V.int))
/-- such a dict -/
def drE (l l2 : Addr) (t : Int) : Array DictEntry := #[⟨(mixKind P w).hash (.inr "cells"), .str "cells" 0, .ref l⟩, ⟨(mixKind P w).hash (.inr "lefts"), .str "lefts" 0, .ref l2⟩, ⟨(mixKind P w).hash (.inr "at"), .str "at" 0, .int t 0⟩, ⟨(mixKind P w).hash (.inr "room"), .str "room" 0, .int 0 0⟩]
end
section
variable {P : Program} {w : World}
theorem mix_is (x : Str) (t : Tok) : (mixKind P w).is (.inr x) (.str x t) = true := by
  show keyIs (Sum.inr x) (Value.str x t) = true
  simp [keyIs, Value.isStr, Value.isStrOf]
theorem drE_ok {d l l2 : Addr} {t : Int} (hd : (d == sysModules) = false) : ObjOk P w (fun _ => none) (Ev.one d { cls := .type "dict", data := .dict (drE P w l l2 t) }) d (.dK (drK l l2 t (.int 0))) := by
  refine ⟨by show 4 ≤ sizeLine; rw [sizeLine_eq]; decide, hd, [(.inr "cells", .ref l), (.inr "lefts", .ref l2), (.inr "at", .int t 0), (.inr "room", .int 0 0)], ?_, ?_⟩
  · exact .cons ⟨rfl, rfl⟩ (.cons ⟨rfl, rfl⟩ (.cons ⟨rfl, ⟨0, rfl⟩⟩ (.cons ⟨rfl, ⟨0, rfl⟩⟩ .nil)))
  · refine ⟨_, drE P w l l2 t, 0, one_at (by simp), ⟨rfl, rfl, rfl⟩, rfl, fun e he => ?_, ?_, (by decide : ([.inr "cells", .inr "lefts", .inr "at", .inr "room"] : List Key).Nodup)⟩
    · simp [drE] at he
      rcases he with rfl | rfl | rfl | rfl <;> exact ⟨_, mix_is _ _, rfl⟩
    · exact .cons (mix_is _ _) rfl (.cons (mix_is _ _) rfl (.cons (mix_is _ _) rfl (.cons (mix_is _ _) rfl .nil)))
theorem objK_at {h h' : Heap} {a : Addr} {kvs : List (Key × V)} {H H' : Hp} (x : ObjOk P w H h a (.dK kvs)) (k : ∀ o, h.get? a = some o → h'.get? a = some o) : ObjOk P w H' h' a (.dK kvs) := by
  obtain ⟨z, y, vs, r, ob, es, ep, e, c⟩ := x
  exact ⟨z, y, vs, r, ob, es, ep, k _ e, c⟩
theorem objL_at {h h' : Heap} {a : Addr} {xs : List V} {H H' : Hp} (x : ObjOk P w H h a (.lst xs)) (k : ∀ o, h.get? a = some o → h'.get? a = some o) : ObjOk P w H' h' a (.lst xs) := by
  obtain ⟨z, its, n, r, e⟩ := x
  exact ⟨z, its, n, r, k _ e⟩
theorem drP_ext {d l l2 : Addr} {T : Nat} {h : Heap} {H : Hp} (x : DrP P w d l l2 T h) : ObjOk P w H h d (.ext (DrP P w d l l2 T)) := by
  refine ⟨x, ?_, fun h1 h2 ⟨t, room, a, b, c⟩ k => ⟨t, room, a, b, objK_at c k⟩⟩
  obtain ⟨t, room, _, _, z, y, vs, r, ob, es, ep, e, c⟩ := x
  exact ⟨ob, e⟩
theorem dlP_ext {l2 : Addr} {n : Nat} {h : Heap} {H : Hp} (x : DlP P w l2 n h) : ObjOk P w H h l2 (.ext (DlP P w l2 n)) := by
  refine ⟨x, ?_, fun h1 h2 ⟨ls, a, c⟩ k => ⟨ls, a, objL_at c k⟩⟩
  obtain ⟨ls, _, z, its, n, r, e⟩ := x
  exact ⟨_, e⟩
end
/-- what is known of the draws -/
@[reducible] def wdOf (P : Program) (w : World) (d l l2 : Addr) (cs : List Int) (hd : (d == sysModules) = false) (h1 : l ≠ d) (h2 : l2 ≠ d) : Wd where
  d := d
  dr := DrP P w d l l2
  dct := fun T h ⟨t, room, _, _, _, _, vs, _, ob, es, ep, e, _, c, _⟩ => ⟨ob, es, ep, e, c⟩
  sepD := fun T D es => by
    by_cases he : es = drE P w l l2 0
    · refine ⟨Ev.one d { cls := .type "dict", data := .dict (drE P w l l2 1) }, ⟨1, .int 0, by omega, by omega, drE_ok hd⟩, ?_⟩
      rintro ⟨o, ep, e1, _, e2⟩
      rw [one_get e1] at e2
      rw [he] at e2
      have e3 : drE P w l l2 1 = drE P w l l2 0 := by
        have := e2
        simp only [Data.dict.injEq] at this
        exact this.1
      have e4 := congrArg (fun a : Array DictEntry => (a.toList.map (·.val))) e3
      simp [drE] at e4
    · refine ⟨Ev.one d { cls := .type "dict", data := .dict (drE P w l l2 0) }, ⟨0, .int 0, by omega, by omega, drE_ok hd⟩, ?_⟩
      rintro ⟨o, ep, e1, _, e2⟩
      rw [one_get e1] at e2
      simp only [Data.dict.injEq] at e2
      exact he e2.1.symm
  aux := fun H => H l = some (.lst (cs.map V.int)) ∧ H l2 = some (.ext (DlP P w l2 cs.length)) ∧ 0 < cs.length
  auxm := fun H H' k ⟨a, b, c⟩ => ⟨k _ _ h1 a (fun _ z => by cases z), k _ _ h2 b (fun _ z => by cases z), c⟩
/-! the draws' function, told in full -/
structure StD (H : Hp) (d a1 a2 : Addr) (cs ls : List Int) (t : Int) : Prop where
  d : ∃ room : V, H d = some (.dK (drK a1 a2 t room))
  cells : H a1 = some (.lst (cs.map V.int))
  lefts : H a2 = some (.lst (ls.map V.int))
  len : cs.length = ls.length
  pos : 0 < cs.length
  t0 : 0 ≤ t
  t1 : t ≤ 900000
def spDx : Sp := fun vs H Q _ => ∃ (d a1 a2 : Addr) (cs ls : List Int) (t n : Int), vs = [.ref d, .int n] ∧ 0 < n ∧ n ≤ 100000 ∧ StD H d a1 a2 cs ls t ∧ ∀ (r : Int) (H' : Hp), 0 ≤ r → r < n → (∀ b, b ≠ d → b ≠ a2 → H' b = H b) →
  (∃ room, H' d = some (.dK (drK a1 a2 (t + 1) room))) → (∃ ls' : List Int, ls'.length = cs.length ∧ H' a2 = some (.lst (ls'.map V.int))) → Q (.int r) H'
theorem okT {P : Program} {w : World} {K : PySem.W.Frag} {mg : Str → Option Value} {base : Heap} {gd : Bool} {k : Nat} {f : Addr} {fd : FuncData} {ps : List Str} (F : FnG P w K mg base gd k f fd ps spDx) {d l l2 : Addr} {cs : List Int} (hd : (d == sysModules) = false) (h1 : l ≠ d) (h2 : l2 ≠ d) (h12 : l ≠ l2) (hps : ps.length = 2) :
    FnG P w K mg base gd k f fd ps (@spT (wdOf P w d l l2 cs hd h1 h2)) := by
  letI : Wd := wdOf P w d l l2 cs hd h1 h2
  refine ⟨fun vs H Q E ⟨n, T, e, _⟩ => by rw [e, hps]; rfl, fun A outer s H args us vs Q E hg hr e0 hb rv hs => ?_⟩
  obtain ⟨n, T, rfl, n0, n1, hH, hT, ⟨x1, x2, x3⟩, k⟩ := hs
  have hH : H d = some (.ext (DrP P w d l l2 T)) := hH
  obtain ⟨⟨t, room, t0, t1, od⟩, _, _⟩ := e0.hok d _ hH
  obtain ⟨⟨ls, hls, ol⟩, _, _⟩ := e0.hok l2 _ x2
  let H2 : Hp := upd (upd H d (.dK (drK l l2 t room))) l2 (.lst (ls.map V.int))
  have a2 : H2 l2 = some (.lst (ls.map V.int)) := upd_same
  have ad : H2 d = some (.dK (drK l l2 t room)) := by
    show upd (upd H d _) l2 _ d = _
    rw [upd_ne (Ne.symm h2), upd_same]
  have off : ∀ b, b ≠ d → b ≠ l2 → H2 b = H b := fun b q1 q2 => by
    show upd (upd H d _) l2 _ b = _
    rw [upd_ne q2, upd_ne q1]
  have out : ∀ b u, H b = some u → (∀ φ, u ≠ .ext φ) → b ≠ d ∧ b ≠ l2 := fun b u e q => ⟨fun z => by rw [z, hH] at e; exact q _ (Option.some.inj e).symm, fun z => by rw [z, x2] at e; exact q _ (Option.some.inj e).symm⟩
  have outn : ∀ b, H b = none → b ≠ d ∧ b ≠ l2 := fun b e => ⟨fun z => (by rw [z, hH] at e; cases e), fun z => (by rw [z, x2] at e; cases e)⟩
  have nn : ∀ b, H b = none → H2 b = none := fun b e => by rw [off b (outn b e).1 (outn b e).2]; exact e
  have ok2 : HOk P w H2 s.heap := fun b u e => by
    by_cases q2 : b = l2
    · subst q2
      rw [a2] at e; cases e
      exact objL_at ol fun _ z => z
    · by_cases q1 : b = d
      · subst q1
        rw [ad] at e; cases e
        exact objK_at od fun _ z => z
      · rw [off b q1 q2] at e
        exact (e0.hok b u e).stay (fun _ _ _ z => z) (fun c z => by rw [off c (out c _ z (fun _ y => by cases y)).1 (out c _ z (fun _ y => by cases y)).2]; exact z) fun c xs z => by rw [off c (out c _ z (fun _ y => by cases y)).1 (out c _ z (fun _ y => by cases y)).2]; exact z
  have e2 : Env0 P w K mg base A outer s H2 := ⟨e0.frames, e0.mod, fun b o z => ⟨(e0.bs b o z).1, nn b (e0.bs b o z).2⟩, e0.bsz, e0.funs, fun b z => nn b (e0.frf b z), ok2, e0.bare⟩
  refine codeAny_mono (F.go A outer s H2 args us _ (fun v H' => ∃ r : Int, v = .int r ∧ 0 ≤ r ∧ r < n ∧ (∀ b, b ≠ d → b ≠ l2 → H' b = H2 b) ∧ (∃ room, H' d = some (.dK (drK l l2 (t + 1) room))) ∧ ∃ ls' : List Int, ls'.length = cs.length ∧ H' l2 = some (.lst (ls'.map V.int))) (fun _ _ _ => False) hg hr e2 hb rv
    ⟨d, l, l2, cs, ls, t, n, rfl, n0, n1, ⟨⟨room, ad⟩, by rw [off l h1 h12]; exact x1, a2, hls.symm, x3, t0, by omega⟩, fun r H' r0 r1 q1 q2 q3 => ⟨r, rfl, r0, r1, q1, q2, q3⟩⟩) fun r s' z => ?_
  match r, z with
  | .error e, z =>
    obtain ⟨_, _, _, _, _, _, _, _, _, _, _, _, z⟩ := z
    exact z.elim
  | .ok .next, z => exact False.elim z
  | .ok .brk, z => exact False.elim z
  | .ok .cont, z => exact False.elim z
  | .ok (.ret u), z =>
    obtain ⟨v, H', z1, z2, un, hok, rvu, r, rfl, r0, r1, q1, ⟨room', q2⟩, ls', q3, q4⟩ := z
    have same : ∀ b, b ≠ d → b ≠ l2 → H' b = H b := fun b y1 y2 => by rw [q1 b y1 y2, off b y1 y2]
    refine ⟨.int r, drn H T, z1, z2, ⟨fun b o e q => un.keep b o e (nn b q), fun b o e q => un.slot b o e (nn b q), fun b o e q _ => ?_, un.there, fun b xs q => ?_, fun b o u q => ?_, fun b ps q => ⟨#[], ?_⟩⟩, fun b u e => ?_, rvu, k r r0 r1⟩
    · have := (outn b q).1
      show upd H d _ b = none
      rw [upd_ne this]; exact q
    · have := (out b _ q (fun _ y => by cases y)).1
      show upd H d _ b = _
      rw [upd_ne this]; exact q
    · have := (out b _ q (fun _ y => by cases y)).1
      show upd H d _ b = _
      rw [upd_ne this]; exact q
    · have := (out b _ q (fun _ y => by cases y)).1
      show upd H d _ b = _
      rw [upd_ne this]; simpa using q
    · replace e : upd H d (.ext (DrP P w d l l2 (T + 1))) b = some u := e
      by_cases y1 : b = d
      · subst y1
        rw [upd_same] at e; cases e
        exact drP_ext ⟨t + 1, room', by omega, by omega, objK_at (hok _ _ q2) fun _ z => z⟩
      · rw [upd_ne y1] at e
        by_cases y2 : b = l2
        · subst y2
          rw [x2] at e; cases e
          exact dlP_ext ⟨ls', q3, objL_at (hok _ _ q4) fun _ z => z⟩
        · have hb' : H' b = some u := by rw [same b y1 y2]; exact e
          have tr : ∀ c (o : HO), H' c = some o → (∀ φ, o ≠ .ext φ) → (∀ kvs, o ≠ .dK kvs) → (∀ xs, o ≠ .lst xs) → drn H T c = some o := fun c o q n1 n2 n3 => by
            have c1 : c ≠ d := fun z => by rw [z, q2] at q; exact n2 _ (Option.some.inj q).symm
            have c2 : c ≠ l2 := fun z => by rw [z, q4] at q; exact n3 _ (Option.some.inj q).symm
            show upd H d _ c = _
            rw [upd_ne c1, ← same c c1 c2]; exact q
          exact (hok b u hb').stay (fun _ _ _ z => z) (fun c z => tr c _ z (fun _ y => by cases y) (fun _ y => by cases y) fun _ y => by cases y) fun c xs z => tr c _ z (fun _ y => by cases y) (fun _ y => by cases y) fun _ y => by cases y
/-- from here on the draws' state is known only as far as need be -/
theorem pss_tok {X : Cx} {sts : List Stmt} {t : Wd → TS} (h : ∀ (d l l2 : Addr) (cs : List Int) (hd : (d == sysModules) = false) (h1 : l ≠ d) (h2 : l2 ≠ d), l ≠ l2 → PSs X sts (t (wdOf X.prog X.w d l l2 cs hd h1 h2))) :
    PSs X sts (fun D σ H => ∃ (d l l2 : Addr) (cs ls : List Int), l ≠ l2 ∧ StD H d l l2 cs ls 0 ∧ ∀ (hd : (d == sysModules) = false) (h1 : l ≠ d) (h2 : l2 ≠ d), t (wdOf X.prog X.w d l l2 cs hd h1 h2) D σ (upd (upd H d (.ext (DrP X.prog X.w d l l2 0))) l2 (.ext (DlP X.prog X.w l2 cs.length)))) :=
  ⟨fun pins s σ H D I ⟨d, l, l2, cs, ls, h12, S, q⟩ => by
    obtain ⟨room, ed⟩ := S.d
    have od := I.hok d _ ed
    have ol := I.hok l2 _ S.lefts
    have hd : (d == sysModules) = false := od.2.1
    have h1 : l ≠ d := fun z => by have := S.cells; rw [z, ed] at this; cases this
    have h2 : l2 ≠ d := fun z => by have := S.lefts; rw [z, ed] at this; cases this
    have I1 : L2.Inv X pins σ (upd H d (.ext (DrP X.prog X.w d l l2 0))) s := I.write (x := d) (e := d) (t' := s.toks) (h' := s.heap) (by rw [ed]; exact trivial) (.inl rfl) (fun _ _ _ z => z) (by obtain ⟨_, _, _, _, ob, _, _, e, _⟩ := od; exact ⟨ob, e⟩) (drP_ext ⟨0, room, by omega, by omega, objK_at od fun _ z => z⟩)
    have e2 : upd H d (.ext (DrP X.prog X.w d l l2 0)) l2 = some (.lst (ls.map V.int)) := by rw [L2.upd_ne h2]; exact S.lefts
    have I2 : L2.Inv X pins σ (upd (upd H d (.ext (DrP X.prog X.w d l l2 0))) l2 (.ext (DlP X.prog X.w l2 cs.length))) s := I1.write (x := l2) (e := l2) (t' := s.toks) (h' := s.heap) (by rw [e2]; exact trivial) (.inl rfl) (fun _ _ _ z => z) (by obtain ⟨_, _, _, _, e⟩ := ol; exact ⟨_, e⟩) (dlP_ext ⟨ls, S.len.symm, objL_at ol fun _ z => z⟩)
    exact (h d l l2 cs hd h1 h2 h12).run pins s σ _ D I2 (q hd h1 h2)⟩
/-! what all draws lead to -/
def Wp {α : Type} (n : Nat) (m : Res α) (P : α → Prop) : Prop := match m with
  | .ok a => P a
  | .exn _ _ => False
  | .bad => False
  | .ask k f => (0 < k ∧ k ≤ 100000) ∧ match n with
    | 0 => False
    | n + 1 => ∀ r, 0 ≤ r → r < k → Wp n (f r) P
termination_by structural m
theorem Wp.sout [Wd] {K : PySem.W.Frag} {C : CT} {E : XK} {A0 A : Ow} {Hi : Hp} {D : Ends} {j : Nat} {d : PyData} {v : V} (hR : ∀ H u, R K H d u → u = v) (hD : ∀ H', D.rt v H') : ∀ {m : Res Fl} {n : Nat} {H : Hp} {T : Nat}, Wp n m (fun f => f = .rt d) → H Wd.d = some (drO T) → T + n ≤ 900000 → SOut K C E A0 Hi D j A H m
  | .ok f, n, H, T, h, _, _ => by
    have h : f = .rt d := h
    subst h
    exact fun A' H' u _ _ _ r => by rw [hR _ _ r]; exact hD H'
  | .exn _ _, _, _, _, h, _, _ => (show False from h).elim
  | .bad, _, _, _, h, _, _ => (show False from h).elim
  | .ask k f, n, H, T, h, e, hT => by
    cases n with
    | zero => exact h.2.elim
    | succ n => exact ⟨h.1, T, e, by omega, fun r r0 r1 => Wp.sout hR hD (h.2 r r0 r1) (by unfold drn; exact upd_same) (by omega)⟩
/-- the law's state behind its first row -/
theorem tok_R {P : Program} {w : World} {d l l2 : Addr} {cs ls : List Int} {hd : (d == sysModules) = false} {h1 : l ≠ d} {h2 : l2 ≠ d} (h12 : l ≠ l2) {H : Hp} (S : StD H d l l2 cs ls 0) (K : PySem.W.Frag) :
    @R (wdOf P w d l l2 cs hd h1 h2) K (upd (upd H d (.ext (DrP P w d l l2 0))) l2 (.ext (DlP P w l2 cs.length))) tok (.ref d) := by
  letI : Wd := wdOf P w d l l2 cs hd h1 h2
  unfold tok R
  refine .inr ⟨rfl, rfl, ⟨0, ?_⟩, ?_, upd_same, S.pos⟩
  · show upd (upd H d _) l2 _ d = _
    rw [upd_ne (Ne.symm h2), upd_same]
    rfl
  · rw [upd_ne h12, upd_ne h1]; exact S.cells
/-- all draws, one by one -/
def allN (p : Nat → Bool) : Nat → Bool
  | 0 => true
  | n + 1 => allN p n && p n
theorem allN_at {p : Nat → Bool} : ∀ {n : Nat}, allN p n = true → ∀ i, i < n → p i = true
  | 0, _, i, h => absurd h (Nat.not_lt_zero i)
  | n + 1, h, i, hi => by
    have h' : (allN p n && p n) = true := h
    rw [Bool.and_eq_true] at h'
    rcases Nat.lt_succ_iff_lt_or_eq.mp hi with z | z
    · exact allN_at h'.1 i z
    · rw [z]; exact h'.2
def isT : Fl → Bool
  | .rt (.bool b) => b
  | _ => false
theorem isT_eq {f : Fl} (h : isT f = true) : f = .rt (.bool true) := by
  unfold isT at h
  split at h
  · subst h; rfl
  · cases h
def chkW (m : Res Fl) (n : Nat) : Bool := match m with
  | .ok f => isT f
  | .exn _ _ => false
  | .bad => false
  | .ask k f => match n with
    | 0 => false
    | n + 1 => PySem.W.Z.leB 1 k && PySem.W.Z.leB k 100000 && allN (fun i => chkW (f (i : Nat)) n) k.toNat
termination_by structural m
theorem chkW_ok : ∀ {m : Res Fl} {n : Nat}, chkW m n = true → Wp n m (fun f => f = .rt (.bool true))
  | .ok f, n, h => isT_eq h
  | .exn _ _, n, h => by cases h
  | .bad, n, h => by cases h
  | .ask k f, 0, h => by cases h
  | .ask k f, n + 1, h => by
    have h' : (PySem.W.Z.leB 1 k && PySem.W.Z.leB k 100000 && allN (fun i => chkW (f (i : Nat)) n) k.toNat) = true := h
    simp only [Bool.and_eq_true, PySem.W.Z.leB_iff] at h'
    refine ⟨⟨by omega, h'.1.2⟩, fun r r0 r1 => ?_⟩
    have := allN_at h'.2 r.toNat (by omega)
    have e : ((r.toNat : Nat) : Int) = r := by omega
    rw [e] at this
    exact chkW_ok this
end Ev

namespace Z
open PySem PySem.Spec PyProof.Rows L2 Ev
open He (DefD Fa Tab Defn)
abbrev rw' := PySem.Challenge.rw_shortbars_k10_part_b_by_hand_and_refused
def top (i : Nat) : Stmt := PySem.Challenge.pw_shortbars_k10_part_b_by_hand_and_refused.main.body.getD i (.Pass ⟨0, 0, 0, 0⟩)
def ini (i : Nat) : Stmt := match top i with
  | .ClassDef (body := b :: _) .. => b
  | s => s
def c_MOST_VALUE : PyData := (.int 1000000)
def c_MOST_CALLS : PyData := (.int 10)
def c_MOST_THINGS : PyData := (.int 4)
def c_MOST_ROOM : PyData := (.int 9)
def c_ROOM : PyData := (.str "room")
def c_GIVERS : PyData := (.tuple [(.str "write"), (.str "put"), (.str "enter"), (.str "leave"), (.str "join"), (.str "drop")])
def c_ASKERS : PyData := (.tuple [(.str "read"), (.str "take")])
def c_NUMBERS : PyData := (.tuple [(.str "count"), (.str "draw")])
def c_CELL : PyData := (.str "cell")
def c_WRITE : PyData := (.str "write")
def c_READ : PyData := (.str "read")
def c_ORDER : PyData := (.str "order")
def c_UNWRITTEN : PyData := (.str "unwritten")
def c_EARLY : PyData := (.str "early")
def c_OLD : PyData := (.str "old")
def c_ODDS : PyData := (.str "odds")
def t_WORDS : List (Str × PyData) := [("cell", (.tuple [(.str "write"), (.str "read")])), ("queue", (.tuple [(.str "put"), (.str "take")])), ("stack", (.tuple [(.str "put"), (.str "take")])), ("heads", (.tuple [(.str "put"), (.str "take")])), ("counter", (.tuple [(.str "add"), (.str "count")])), ("tickets", (.tuple [(.str "draw")])), ("set", (.tuple [(.str "join"), (.str "drop"), (.str "has")])), ("room", (.tuple [(.str "enter"), (.str "leave")]))]
def t_LENGTHS : List (Str × PyData) := [("order", (.int 2)), ("unwritten", (.int 2)), ("early", (.int 3)), ("old", (.int 3)), ("odds", (.int 5))]
def bs_BadHistory : List Bool := [true, false, false, false]
def bs_BadValue : List Bool := [false, true, false, false]
def bs_BadTurn : List Bool := [false, false, true, false]
def bs_BadPaper : List Bool := [false, false, false, true]
def cons : List (Str × PyData) := [("MOST_VALUE", c_MOST_VALUE), ("MOST_CALLS", c_MOST_CALLS), ("MOST_THINGS", c_MOST_THINGS), ("MOST_ROOM", c_MOST_ROOM), ("ROOM", c_ROOM), ("GIVERS", c_GIVERS), ("ASKERS", c_ASKERS), ("NUMBERS", c_NUMBERS), ("CELL", c_CELL), ("WRITE", c_WRITE), ("READ", c_READ), ("ORDER", c_ORDER), ("UNWRITTEN", c_UNWRITTEN), ("EARLY", c_EARLY), ("OLD", c_OLD), ("ODDS", c_ODDS)]
def dcts : List (Str × List (Str × PyData)) := [("WORDS", t_WORDS), ("LENGTHS", t_LENGTHS)]
def clss : List (Str × List Bool × Str) := [("BadHistory", bs_BadHistory, "given"), ("BadValue", bs_BadValue, "given"), ("BadTurn", bs_BadTurn, "given"), ("BadPaper", bs_BadPaper, "part")]
def G0 : GS := ⟨[], cons, dcts, clss, "_law_told", none⟩
def tf : List Defn := [("_law_histories_right", none), ("_law_marks_right", none)]
abbrev CC (K : PySem.W.Frag) : CT := CTof K G0 tf
def fn : List DefD := ([dOf "is_integer" (top 16), dOf "is_value" (top 17), dOf "is_sort" (top 18), dOf "words_of" (top 19), dOf "is_word_of" (top 20), dOf "can_give" (top 21), dOf "can_tell" (top 22), dOf "is_doing" (top 23), dOf "is_call" (top 24), dOf "are_sorts" (top 25), dOf "are_unlike" (top 26), dOf "givers_of" (top 27), dOf "are_calls" (top 28), dOf "are_in_time" (top 29), dOf "fault_of" (top 30), dOf "need_history" (top 31), dOf "is_before" (top 32), dOf "all_ahead" (top 33), dOf "are_numbers" (top 34), dOf "is_order_in" (top 35)] : List DefD) ++ ([dOf "value_of" (top 37), dOf "need_sort" (top 42), dOf "kins_in" (top 43), dOf "near_of" (top 44), dOf "far_of" (top 45), dOf "is_forced_in" (top 46), dOf "are_at_odds" (top 47), dOf "odds_by" (top 48), dOf "marks_of" (top 49), dOf "is_mark" (top 50), dOf "kin_by" (top 51), dOf "kin_of" (top 52), dOf "span_of" (top 53), dOf "is_forced" (top 54), dOf "odds_in" (top 55), dOf "is_sound" (top 57), dOf "is_explained_in" (top 58), dOf "may_come" (top 59), dOf "turns_from" (top 60), dOf "all_turns" (top 61)] : List DefD) ++ ([dOf "is_same_turn" (top 65), dOf "order_by" (top 64), dOf "cell_count" (top 67), dOf "is_tight" (top 68), dOf "state_at_first" (top 70), dOf "plain_step" (top 76), dOf "states_at_first" (top 77), dOf "with_state" (top 78), dOf "step_in" (top 79), dOf "states_behind" (top 80), dOf "is_explanation" (top 81), dOf "write_in" (top 89), dOf "cell_paper" (top 93), dOf "is_call_number" (top 94), dOf "does_bar" (top 95), dOf "does_hold" (top 96), dOf "check_cell" (top 97), dOf "_law_histories_right" (top 100), dOf "_law_marks_right" (top 101), dOf "_law_told" (top 99)] : List DefD) ++ ([dOf "law" (top 102), iOf "BadHistory" "BadHistory.__init__" (ini 3), iOf "BadValue" "BadValue.__init__" (ini 5), iOf "BadTurn" "BadTurn.__init__" (ini 4), iOf "BadPaper" "BadPaper.__init__" (ini 2)] : List DefD)
def fa : List Fa := ([.glo "is_integer", .glo "is_value", .glo "is_sort", .glo "words_of", .glo "is_word_of", .glo "can_give", .glo "can_tell", .glo "is_doing", .glo "is_call", .glo "are_sorts", .glo "are_unlike", .glo "givers_of", .glo "are_calls", .glo "are_in_time", .glo "fault_of", .glo "need_history", .glo "is_before", .glo "all_ahead", .glo "are_numbers", .glo "is_order_in"] : List Fa) ++ ([.glo "value_of", .glo "need_sort", .glo "kins_in", .glo "near_of", .glo "far_of", .glo "is_forced_in", .glo "are_at_odds", .glo "odds_by", .glo "marks_of", .glo "is_mark", .glo "kin_by", .glo "kin_of", .glo "span_of", .glo "is_forced", .glo "odds_in", .glo "is_sound", .glo "is_explained_in", .glo "may_come", .glo "turns_from", .glo "all_turns"] : List Fa) ++ ([.glo "is_same_turn", .glo "order_by", .glo "cell_count", .glo "is_tight", .glo "state_at_first", .glo "plain_step", .glo "states_at_first", .glo "with_state", .glo "step_in", .glo "states_behind", .glo "is_explanation", .glo "write_in", .glo "cell_paper", .glo "is_call_number", .glo "does_bar", .glo "does_hold", .glo "check_cell", .glo "_law_histories_right", .glo "_law_marks_right", .glo "_law_told"] : List Fa) ++ ([.glo "law", .glo "CallError"] : List Fa)
def ts : List Tab := [(fun K => He.ga K "WORDS", ["cell", "queue", "stack", "heads", "counter", "tickets", "set", "room"]), (fun K => He.ga K "LENGTHS", ["order", "unwritten", "early", "old", "odds"])]
/-! the catcher -/
def Nh : List Str := ["_law_call", "_law_found_so", "_law_caught", "_law_kinds", "_law_words", "error", "_law_word", "_law_holds_so"]
def bh : E .blk := (.ifs (.tisn 2) .dead .done (.ifs (.tr (.isx 2 3 bs_BadPaper)) (.ret (.tup (.cons (.k (.str "paper")) (.cons (.fldx 2 [3]) .nil))) .done) .done (.set 3 (.cv (.ofn (.lst (.cons (.tup (.cons (.k (.str "history")) (.cons (.isx 2 0 bs_BadHistory) .nil))) (.cons (.tup (.cons (.k (.str "value")) (.cons (.isx 2 1 bs_BadValue) .nil))) .nil))))) (.setl 4 false (.many [6, 7]) (.seq (.bin .add (.v 3) (.ofn (.lst (.cons (.tup (.cons (.k (.str "turn")) (.cons (.isx 2 2 bs_BadTurn) .nil))) .nil))))) (.one (.tr (.v 7))) (.v 6) [6, 7] (.ret (.ite (.tcmp .eq (.bf .len (.v 4)) (.k (.int 1))) (.tup (.cons (.ix (.v 4) (.k (.int 0))) (.cons (.fldx 2 [0, 1, 2]) .nil))) .un) .done)))))
def hst : Stmt := top 99
def rest : List Stmt := (defBody hst).drop 2
theorem hT : HearT Nh "_law_call" "_law_found_so" "_law_caught" "error" "CallError" 1 2 5 (defBody hst) rest := ⟨⟨_, _, _, _, _, _, _, _, _, _, _, _, _, _, _, _, _, _, _, _, _, rfl⟩, rfl, rfl, rfl, rfl, by decide, by decide, by decide, by decide⟩
/-! the defs -/
/- is_integer -/
def N0 : List Str := ["thing"]
def p0 : List Str := ["thing"]
def b0 : E .blk := (.ret (.bo true (.isi .int (.v 0)) (.bo1 (.not (.isi .bool (.v 0))))) .done)
def s0 : Stmt := top 16
theorem k0 : okD G0 N0 p0 b0 false false s0 = true := by kernel_rfl
theorem d0 : BindA "is_integer" s0 p0 := fun _ _ _ _ _ _ us hl => match us, hl with | [_], _ => rfl
def G1 : GS := G0.add "is_integer" p0.length false
/- is_value -/
def N1 : List Str := ["thing"]
def p1 : List Str := ["thing"]
def b1 : E .blk := (.ret (.bo true (.call 0 1 (.cons (.v 0) .nil)) (.bo1 (.chn .le .le (.k (.int 0)) (.v 0) (.gc 0 c_MOST_VALUE)))) .done)
def s1 : Stmt := top 17
theorem k1 : okD G1 N1 p1 b1 false false s1 = true := by kernel_rfl
theorem d1 : BindA "is_value" s1 p1 := fun _ _ _ _ _ _ us hl => match us, hl with | [_], _ => rfl
def G2 : GS := G1.add "is_value" p1.length false
/- is_sort -/
def N2 : List Str := ["thing"]
def p2 : List Str := ["thing"]
def b2 : E .blk := (.ifs (.tr (.isi .tuple (.v 0))) .dead .done (.ret (.bo true (.isi .str (.v 0)) (.bo true (.gdin 0 t_WORDS (.v 0)) (.bo1 (.cmp .ne (.v 0) (.gc 4 c_ROOM))))) .done))
def s2 : Stmt := top 18
theorem k2 : okD G2 N2 p2 b2 false false s2 = true := by kernel_rfl
theorem d2 : BindA "is_sort" s2 p2 := fun _ _ _ _ _ _ us hl => match us, hl with | [_], _ => rfl
def G3 : GS := G2.add "is_sort" p2.length false
/- words_of -/
def N3 : List Str := ["sort"]
def p3 : List Str := ["sort"]
def b3 : E .blk := (.ret (.ite (.tr (.isi .tuple (.v 0))) .un (.gdix 0 t_WORDS (.v 0))) .done)
def s3 : Stmt := top 19
theorem k3 : okD G3 N3 p3 b3 false false s3 = true := by kernel_rfl
theorem d3 : BindA "words_of" s3 p3 := fun _ _ _ _ _ _ us hl => match us, hl with | [_], _ => rfl
def G4 : GS := G3.add "words_of" p3.length false
/- is_word_of -/
def N4 : List Str := ["sort", "word"]
def p4 : List Str := ["sort", "word"]
def b4 : E .blk := (.ret (.bo true (.isi .str (.v 1)) (.bo1 (.cmp .inn (.v 1) (.call 3 1 (.cons (.v 0) .nil))))) .done)
def s4 : Stmt := top 20
theorem k4 : okD G4 N4 p4 b4 false false s4 = true := by kernel_rfl
theorem d4 : BindA "is_word_of" s4 p4 := fun _ _ _ _ _ _ us hl => match us, hl with | [_, _], _ => rfl
def G5 : GS := G4.add "is_word_of" p4.length false
/- can_give -/
def N5 : List Str := ["word", "given"]
def p5 : List Str := ["word", "given"]
def b5 : E .blk := (.ret (.ite (.tbo (.wc false (.tcmp .inn (.v 0) (.gc 5 c_GIVERS)) (.w1 (.tcmp .eq (.v 0) (.k (.str "has")))))) (.call 1 1 (.cons (.v 1) .nil)) (.cmp .isN (.v 1) (.k .none))) .done)
def s5 : Stmt := top 21
theorem k5 : okD G5 N5 p5 b5 false false s5 = true := by kernel_rfl
theorem d5 : BindA "can_give" s5 p5 := fun _ _ _ _ _ _ us hl => match us, hl with | [_, _], _ => rfl
def G6 : GS := G5.add "can_give" p5.length false
/- can_tell -/
def N6 : List Str := ["word", "told"]
def p6 : List Str := ["word", "told"]
def b6 : E .blk := (.ifs (.tcmp .inn (.v 0) (.gc 6 c_ASKERS)) (.ret (.bo false (.cmp .isN (.v 1) (.k .none)) (.bo1 (.call 1 1 (.cons (.v 1) .nil)))) .done) .done (.ifs (.tcmp .inn (.v 0) (.gc 7 c_NUMBERS)) .dead .done (.ifs (.tcmp .eq (.v 0) (.k (.str "has"))) .dead .done (.ret (.cmp .isN (.v 1) (.k .none)) .done))))
def s6 : Stmt := top 22
theorem k6 : okD G6 N6 p6 b6 false false s6 = true := by kernel_rfl
theorem d6 : BindA "can_tell" s6 p6 := fun _ _ _ _ _ _ us hl => match us, hl with | [_, _], _ => rfl
def G7 : GS := G6.add "can_tell" p6.length false
/- is_doing -/
def N7 : List Str := ["sorts", "doing", "thing", "word", "given", "told"]
def p7 : List Str := ["sorts", "doing"]
def b7 : E .blk := (.asg (.many [2, 3, 4, 5]) (.v 1) (.ifs (.tbo (.wc false (.tnot (.tr (.call 0 1 (.cons (.v 2) .nil)))) (.wc false (.tnot (.tchn .le .lt (.k (.int 0)) (.v 2) (.bf .len (.v 0)))) (.w1 (.tnot (.tr (.call 4 2 (.cons (.ix (.v 0) (.v 2)) (.cons (.v 3) .nil))))))))) .dead .done (.ret (.bo true (.call 5 2 (.cons (.v 3) (.cons (.v 4) .nil))) (.bo1 (.call 6 2 (.cons (.v 3) (.cons (.v 5) .nil))))) .done)))
def s7 : Stmt := top 23
theorem k7 : okD G7 N7 p7 b7 false false s7 = true := by kernel_rfl
theorem d7 : BindA "is_doing" s7 p7 := fun _ _ _ _ _ _ us hl => match us, hl with | [_, _], _ => rfl
def G8 : GS := G7.add "is_doing" p7.length false
/- is_call -/
def N8 : List Str := ["sorts", "thing"]
def p8 : List Str := ["sorts", "thing"]
def b8 : E .blk := (.ifs (.tbo (.wc false (.tnot (.tr (.isi .tuple (.v 1)))) (.wc false (.tcmp .ne (.bf .len (.v 1)) (.k (.int 6))) (.wc false (.tnot (.tr (.call 1 1 (.cons (.ix (.v 1) (.k (.int 0))) .nil)))) (.w1 (.tnot (.tr (.call 1 1 (.cons (.ix (.v 1) (.k (.int 1))) .nil))))))))) (.ret (.k (.bool false)) .done) .done (.ret (.bo true (.cmp .lt (.ix (.v 1) (.k (.int 0))) (.ix (.v 1) (.k (.int 1)))) (.bo1 (.call 7 2 (.cons (.v 0) (.cons (.slc (.v 1) (.pso (.k (.int 2))) .pno) .nil))))) .done))
def s8 : Stmt := top 24
theorem k8 : okD G8 N8 p8 b8 false false s8 = true := by kernel_rfl
theorem d8 : BindA "is_call" s8 p8 := fun _ _ _ _ _ _ us hl => match us, hl with | [_, _], _ => rfl
def G9 : GS := G8.add "is_call" p8.length false
/- are_sorts -/
def N9 : List Str := ["thing", "one"]
def p9 : List Str := ["thing"]
def b9 : E .blk := (.ret (.bo true (.isi .tuple (.v 0)) (.bo true (.chn .le .le (.k (.int 1)) (.bf .len (.v 0)) (.gc 2 c_MOST_THINGS)) (.bo1 (.bf .all (.ofn (.lc (.one 1) (.seq (.v 0)) .yes (.call 2 1 (.cons (.v 1) .nil)) [1])))))) .done)
def s9 : Stmt := top 25
theorem k9 : okD G9 N9 p9 b9 false false s9 = true := by kernel_rfl
theorem d9 : BindA "are_sorts" s9 p9 := fun _ _ _ _ _ _ us hl => match us, hl with | [_], _ => rfl
def G10 : GS := G9.add "are_sorts" p9.length false
/- are_unlike -/
def N10 : List Str := ["some", "one"]
def p10 : List Str := ["some"]
def b10 : E .blk := (.ret (.cmp .eq (.uq (.one 1) (.seq (.v 0)) (.v 1) [1]) (.bf .len (.v 0))) .done)
def s10 : Stmt := top 26
theorem k10 : okD G10 N10 p10 b10 false false s10 = true := by kernel_rfl
theorem d10 : BindA "are_unlike" s10 p10 := fun _ _ _ _ _ _ us hl => match us, hl with | [_], _ => rfl
def G11 : GS := G10.add "are_unlike" p10.length false
/- givers_of -/
def N11 : List Str := ["doings", "thing", "word", "given", "told"]
def p11 : List Str := ["doings"]
def b11 : E .blk := (.ret (.ofn (.lc (.many [1, 2, 3, 4]) (.seq (.v 0)) (.one (.tcmp .inn (.v 2) (.gc 5 c_GIVERS))) (.tup (.cons (.v 1) (.cons (.v 2) (.cons (.v 3) .nil)))) [1, 2, 3, 4])) .done)
def s11 : Stmt := top 27
theorem k11 : okD G11 N11 p11 b11 false false s11 = true := by kernel_rfl
theorem d11 : BindA "givers_of" s11 p11 := fun _ _ _ _ _ _ us hl => match us, hl with | [_], _ => rfl
def G12 : GS := G11.add "givers_of" p11.length false
/- are_calls -/
def N12 : List Str := ["sorts", "thing", "one"]
def p12 : List Str := ["sorts", "thing"]
def b12 : E .blk := (.ret (.bo true (.isi .tuple (.v 1)) (.bo true (.cmp .le (.bf .len (.v 1)) (.gc 1 c_MOST_CALLS)) (.bo1 (.bf .all (.ofn (.lc (.one 2) (.seq (.v 1)) .yes (.call 8 2 (.cons (.v 0) (.cons (.v 2) .nil))) [2])))))) .done)
def s12 : Stmt := top 28
theorem k12 : okD G12 N12 p12 b12 false false s12 = true := by kernel_rfl
theorem d12 : BindA "are_calls" s12 p12 := fun _ _ _ _ _ _ us hl => match us, hl with | [_, _], _ => rfl
def G13 : GS := G12.add "are_calls" p12.length false
/- are_in_time -/
def N13 : List Str := ["calls", "moments", "call", "near", "far"]
def p13 : List Str := ["calls"]
def b13 : E .blk := (.set 1 (.cv (.bin .add (.ofn (.lc (.one 2) (.seq (.v 0)) .yes (.ix (.v 2) (.k (.int 0))) [2])) (.ofn (.lc (.one 2) (.seq (.v 0)) .yes (.ix (.v 2) (.k (.int 1))) [2])))) (.ret (.bo true (.call 10 1 (.cons (.v 1) .nil)) (.bo1 (.bf .all (.ofn (.lc (.many [3, 4]) (.zip (.v 0) (.slc (.v 0) (.pso (.k (.int 1))) .pno)) .yes (.cmp .lt (.ix (.v 3) (.k (.int 0))) (.ix (.v 4) (.k (.int 0)))) [3, 4]))))) .done))
def s13 : Stmt := top 29
theorem k13 : okD G13 N13 p13 b13 false false s13 = true := by kernel_rfl
theorem d13 : BindA "are_in_time" s13 p13 := fun _ _ _ _ _ _ us hl => match us, hl with | [_], _ => rfl
def G14 : GS := G13.add "are_in_time" p13.length false
/- fault_of -/
def N14 : List Str := ["thing", "one", "call"]
def p14 : List Str := ["thing"]
def b14 : E .blk := (.ifs (.tbo (.wc false (.tnot (.tr (.isi .tuple (.v 0)))) (.wc false (.tcmp .ne (.bf .len (.v 0)) (.k (.int 2))) (.w1 (.tnot (.tr (.bf .all (.ofn (.lc (.one 1) (.seq (.v 0)) .yes (.isi .tuple (.v 1)) [1]))))))))) (.ret (.k (.str "form")) .done) .done (.ifs (.tnot (.tr (.call 9 1 (.cons (.ix (.v 0) (.k (.int 0))) .nil)))) (.ret (.k (.str "sorts")) .done) .done (.ifs (.tnot (.tr (.call 12 2 (.cons (.ix (.v 0) (.k (.int 0))) (.cons (.ix (.v 0) (.k (.int 1))) .nil))))) (.ret (.k (.str "calls")) .done) .done (.ifs (.tnot (.tr (.call 13 1 (.cons (.ix (.v 0) (.k (.int 1))) .nil)))) (.ret (.k (.str "moments")) .done) .done (.ret (.ite (.tr (.call 10 1 (.cons (.call 11 1 (.cons (.ofn (.lc (.one 2) (.seq (.ix (.v 0) (.k (.int 1)))) .yes (.slc (.v 2) (.pso (.k (.int 2))) .pno) [2])) .nil)) .nil))) (.k .none) (.k (.str "twice"))) .done)))))
def s14 : Stmt := top 30
theorem k14 : okD G14 N14 p14 b14 false false s14 = true := by kernel_rfl
theorem d14 : BindA "fault_of" s14 p14 := fun _ _ _ _ _ _ us hl => match us, hl with | [_], _ => rfl
def G15 : GS := G14.add "fault_of" p14.length false
/- need_history -/
def N15 : List Str := ["thing", "fault"]
def p15 : List Str := ["thing"]
def b15 : E .blk := (.set 1 (.cv (.call 14 1 (.cons (.v 0) .nil))) (.ifs (.tcmp .notN (.v 1) (.k .none)) (.rse 0 (.v 1) .done) .done (.ret (.v 0) .done)))
def s15 : Stmt := top 31
theorem k15 : okD G15 N15 p15 b15 false false s15 = true := by kernel_rfl
theorem d15 : BindA "need_history" s15 p15 := fun _ _ _ _ _ _ us hl => match us, hl with | [_], _ => rfl
def G16 : GS := G15.add "need_history" p15.length false
/- is_before -/
def N16 : List Str := ["calls", "number", "far"]
def p16 : List Str := ["calls", "number", "far"]
def b16 : E .blk := (.ret (.cmp .lt (.ix (.ix (.v 0) (.v 1)) (.k (.int 1))) (.ix (.ix (.v 0) (.v 2)) (.k (.int 0)))) .done)
def s16 : Stmt := top 32
theorem k16 : okD G16 N16 p16 b16 false false s16 = true := by kernel_rfl
theorem d16 : BindA "is_before" s16 p16 := fun _ _ _ _ _ _ us hl => match us, hl with | [_, _, _], _ => rfl
def G17 : GS := G16.add "is_before" p16.length false
/- all_ahead -/
def N17 : List Str := ["calls", "every", "far", "number"]
def p17 : List Str := ["calls"]
def b17 : E .blk := (.set 1 (.cv (.ofn (.rgn (.bf .len (.v 0))))) (.ret (.ofn (.lc (.one 2) (.seq (.v 1)) .yes (.ofn (.lc (.one 3) (.seq (.v 1)) (.one (.tr (.call 16 3 (.cons (.v 0) (.cons (.v 3) (.cons (.v 2) .nil)))))) (.v 3) [3])) [2])) .done))
def s17 : Stmt := top 33
theorem k17 : okD G17 N17 p17 b17 false false s17 = true := by kernel_rfl
theorem d17 : BindA "all_ahead" s17 p17 := fun _ _ _ _ _ _ us hl => match us, hl with | [_], _ => rfl
def G18 : GS := G17.add "all_ahead" p17.length false
/- are_numbers -/
def N18 : List Str := ["thing", "many", "one"]
def p18 : List Str := ["thing", "many"]
def b18 : E .blk := (.ret (.bo true (.isi .tuple (.v 0)) (.bo1 (.bf .all (.ofn (.lc (.one 2) (.seq (.v 0)) .yes (.bo true (.call 0 1 (.cons (.v 2) .nil)) (.bo1 (.chn .le .lt (.k (.int 0)) (.v 2) (.v 1)))) [2]))))) .done)
def s18 : Stmt := top 34
theorem k18 : okD G18 N18 p18 b18 false false s18 = true := by kernel_rfl
theorem d18 : BindA "are_numbers" s18 p18 := fun _ _ _ _ _ _ us hl => match us, hl with | [_, _], _ => rfl
def G19 : GS := G18.add "are_numbers" p18.length false
/- is_order_in -/
def N19 : List Str := ["calls", "value", "ahead", "done", "number", "one"]
def p19 : List Str := ["calls", "value"]
def b19 : E .blk := (.ifs (.tbo (.wc false (.tnot (.tr (.call 18 2 (.cons (.v 1) (.cons (.bf .len (.v 0)) .nil))))) (.wc false (.tcmp .ne (.bf .len (.v 1)) (.bf .len (.v 0))) (.w1 (.tnot (.tr (.call 10 1 (.cons (.v 1) .nil)))))))) (.ret (.k (.bool false)) .done) .done (.par (.ccons 2 (.cv (.call 17 1 (.cons (.v 0) .nil))) (.ccons 3 (.cn (.lst .nil)) .cnil)) (.fori (.one 4) (.seq (.v 1)) (.ifs (.tr (.bf .any (.ofn (.lc (.one 5) (.seq (.ix (.v 2) (.v 4))) .yes (.cmp .nin (.v 5) (.vb 3)) [5])))) (.ret (.k (.bool false)) .done) .done (.app 3 (.v 4) .done)) (.ret (.k (.bool true)) .done))))
def s19 : Stmt := top 35
theorem k19 : okD G19 N19 p19 b19 false false s19 = true := by kernel_rfl
theorem d19 : BindA "is_order_in" s19 p19 := fun _ _ _ _ _ _ us hl => match us, hl with | [_, _], _ => rfl
def G20 : GS := G19.add "is_order_in" p19.length false
/- value_of -/
def N20 : List Str := ["call"]
def p20 : List Str := ["call"]
def b20 : E .blk := (.ret (.ite (.tcmp .isN (.ix (.v 0) (.k (.int 4))) (.k .none)) (.ix (.v 0) (.k (.int 5))) (.ix (.v 0) (.k (.int 4)))) .done)
def s20 : Stmt := top 37
theorem k20 : okD G20 N20 p20 b20 false false s20 = true := by kernel_rfl
theorem d20 : BindA "value_of" s20 p20 := fun _ _ _ _ _ _ us hl => match us, hl with | [_], _ => rfl
def G21 : GS := G20.add "value_of" p20.length false
/- need_sort -/
def N21 : List Str := ["history", "sort"]
def p21 : List Str := ["history", "sort"]
def b21 : E .blk := (.ifs (.tcmp .ne (.ix (.call 15 1 (.cons (.v 0) .nil)) (.k (.int 0))) (.tup (.cons (.v 1) .nil))) (.rse 0 (.k (.str "sort")) .done) .done .done)
def s21 : Stmt := top 42
theorem k21 : okD G21 N21 p21 b21 false false s21 = true := by kernel_rfl
theorem d21 : BindA "need_sort" s21 p21 := fun _ _ _ _ _ _ us hl => match us, hl with | [_, _], _ => rfl
def G22 : GS := G21.add "need_sort" p21.length false
/- kins_in -/
def N22 : List Str := ["calls", "found", "number", "call", "some", "value", "one"]
def p22 : List Str := ["calls"]
def b22 : E .blk := (.set 1 .cdn (.fori (.many [2, 3]) (.enu (.v 0)) (.sda 1 (.call 20 1 (.cons (.v 3) .nil)) (.v 2) .done) (.frn 1 (.set 4 (.cv (.ite (.tlvin 1 (.k .none)) .un (.ofn (.lst .nil)))) (.ret (.bin .add (.v 4) (.ofn (.lc (.one 5) (.seq (.bg .sorted (.ofn (.lc (.one 6) (.lvky 1) (.one (.tcmp .notN (.v 6) (.k .none))) (.v 6) [6])))) .yes (.tup (.cons (.v 5) (.cons (.lvix 1 (.v 5)) .nil))) [5]))) .done)))))
def s22 : Stmt := top 43
theorem k22 : okD G22 N22 p22 b22 false false s22 = true := by kernel_rfl
theorem d22 : BindA "kins_in" s22 p22 := fun _ _ _ _ _ _ us hl => match us, hl with | [_], _ => rfl
def G23 : GS := G22.add "kins_in" p22.length false
/- near_of -/
def N23 : List Str := ["calls", "lot", "number"]
def p23 : List Str := ["calls", "lot"]
def b23 : E .blk := (.ret (.bg .min (.ofn (.lc (.one 2) (.seq (.v 1)) .yes (.ix (.ix (.v 0) (.v 2)) (.k (.int 1))) [2]))) .done)
def s23 : Stmt := top 44
theorem k23 : okD G23 N23 p23 b23 false false s23 = true := by kernel_rfl
theorem d23 : BindA "near_of" s23 p23 := fun _ _ _ _ _ _ us hl => match us, hl with | [_, _], _ => rfl
def G24 : GS := G23.add "near_of" p23.length false
/- far_of -/
def N24 : List Str := ["calls", "lot", "number"]
def p24 : List Str := ["calls", "lot"]
def b24 : E .blk := (.ret (.bg .max (.ofn (.lc (.one 2) (.seq (.v 1)) .yes (.ix (.ix (.v 0) (.v 2)) (.k (.int 0))) [2]))) .done)
def s24 : Stmt := top 45
theorem k24 : okD G24 N24 p24 b24 false false s24 = true := by kernel_rfl
theorem d24 : BindA "far_of" s24 p24 := fun _ _ _ _ _ _ us hl => match us, hl with | [_, _], _ => rfl
def G25 : GS := G24.add "far_of" p24.length false
/- is_forced_in -/
def N25 : List Str := ["calls", "near", "far"]
def p25 : List Str := ["calls", "near", "far"]
def b25 : E .blk := (.ret (.bo false (.cmp .isN (.ix (.v 1) (.k (.int 0))) (.k .none)) (.bo1 (.cmp .lt (.call 23 2 (.cons (.v 0) (.cons (.ix (.v 1) (.k (.int 1))) .nil))) (.call 24 2 (.cons (.v 0) (.cons (.ix (.v 2) (.k (.int 1))) .nil)))))) .done)
def s25 : Stmt := top 46
theorem k25 : okD G25 N25 p25 b25 false false s25 = true := by kernel_rfl
theorem d25 : BindA "is_forced_in" s25 p25 := fun _ _ _ _ _ _ us hl => match us, hl with | [_, _, _], _ => rfl
def G26 : GS := G25.add "is_forced_in" p25.length false
/- are_at_odds -/
def N26 : List Str := ["calls", "one", "far"]
def p26 : List Str := ["calls", "one", "far"]
def b26 : E .blk := (.ret (.bo true (.call 25 3 (.cons (.v 0) (.cons (.v 1) (.cons (.v 2) .nil)))) .un) .done)
def s26 : Stmt := top 47
theorem k26 : okD G26 N26 p26 b26 false false s26 = true := by kernel_rfl
theorem d26 : BindA "are_at_odds" s26 p26 := fun _ _ _ _ _ _ us hl => match us, hl with | [_, _, _], _ => rfl
def G27 : GS := G26.add "are_at_odds" p26.length false
/- odds_by -/
def N27 : List Str := ["calls", "some", "spot", "one", "far"]
def p27 : List Str := ["calls"]
def b27 : E .blk := (.set 1 (.cv (.call 22 1 (.cons (.v 0) .nil))) (.ret (.ofn (.lc2 (.many [2, 3]) (.enu (.v 1)) .yes (.one 4) (.seq (.slc (.v 1) (.pso (.bin .add (.v 2) (.k (.int 1)))) .pno)) (.one (.tr (.call 26 3 (.cons (.v 0) (.cons (.v 3) (.cons (.v 4) .nil)))))) .un [2, 3, 4] [4])) .done))
def s27 : Stmt := top 48
theorem k27 : okD G27 N27 p27 b27 false false s27 = true := by kernel_rfl
theorem d27 : BindA "odds_by" s27 p27 := fun _ _ _ _ _ _ us hl => match us, hl with | [_], _ => rfl
def G28 : GS := G27.add "odds_by" p27.length false
/- marks_of -/
def N28 : List Str := ["history", "mark", "lot"]
def p28 : List Str := ["history"]
def b28 : E .blk := (.exp (.call 21 2 (.cons (.v 0) (.cons (.gc 8 c_CELL) .nil))) .dead)
def s28 : Stmt := top 49
theorem k28 : okD G28 N28 p28 b28 false false s28 = true := by kernel_rfl
theorem d28 : BindA "marks_of" s28 p28 := fun _ _ _ _ _ _ us hl => match us, hl with | [_], _ => rfl
def G29 : GS := G28.add "marks_of" p28.length false
/- is_mark -/
def N29 : List Str := ["mark", "value"]
def p29 : List Str := ["mark", "value"]
def b29 : E .blk := (.ifs (.tbo (.wc false (.tcmp .isN (.v 0) (.k .none)) (.w1 (.tcmp .isN (.v 1) (.k .none))))) (.ret (.bo true (.cmp .isN (.v 0) (.k .none)) .un) .done) .done (.ret (.bo true (.call 0 1 (.cons (.v 1) .nil)) (.bo1 (.cmp .eq (.v 0) (.v 1)))) .done))
def s29 : Stmt := top 50
theorem k29 : okD G29 N29 p29 b29 false false s29 = true := by kernel_rfl
theorem d29 : BindA "is_mark" s29 p29 := fun _ _ _ _ _ _ us hl => match us, hl with | [_, _], _ => rfl
def G30 : GS := G29.add "is_mark" p29.length false
/- kin_by -/
def N30 : List Str := ["history", "value", "some", "pair"]
def p30 : List Str := ["history", "value"]
def b30 : E .blk := (.setl 2 false (.one 3) (.seq (.call 22 1 (.cons (.ix (.v 0) (.k (.int 1))) .nil))) (.one (.tr (.call 29 2 (.cons (.ix (.v 3) (.k (.int 0))) (.cons (.v 1) .nil))))) (.v 3) [3] (.ifs (.tcmp .eq (.v 2) (.ofn (.lst .nil))) (.rse 1 (.v 1) .done) .done (.ret (.ix (.v 2) (.k (.int 0))) .done)))
def s30 : Stmt := top 51
theorem k30 : okD G30 N30 p30 b30 false false s30 = true := by kernel_rfl
theorem d30 : BindA "kin_by" s30 p30 := fun _ _ _ _ _ _ us hl => match us, hl with | [_, _], _ => rfl
def G31 : GS := G30.add "kin_by" p30.length false
/- kin_of -/
def N31 : List Str := ["history", "value"]
def p31 : List Str := ["history", "value"]
def b31 : E .blk := (.exp (.call 21 2 (.cons (.v 0) (.cons (.gc 8 c_CELL) .nil))) (.ret (.bf .tuple (.ix (.call 30 2 (.cons (.v 0) (.cons (.v 1) .nil))) (.k (.int 1)))) .done))
def s31 : Stmt := top 52
theorem k31 : okD G31 N31 p31 b31 false false s31 = true := by kernel_rfl
theorem d31 : BindA "kin_of" s31 p31 := fun _ _ _ _ _ _ us hl => match us, hl with | [_, _], _ => rfl
def G32 : GS := G31.add "kin_of" p31.length false
/- span_of -/
def N32 : List Str := ["history", "value", "mark", "lot", "near", "far"]
def p32 : List Str := ["history", "value"]
def b32 : E .blk := (.exp (.call 21 2 (.cons (.v 0) (.cons (.gc 8 c_CELL) .nil))) (.asg (.many [2, 3]) (.call 30 2 (.cons (.v 0) (.cons (.v 1) .nil))) .dead))
def s32 : Stmt := top 53
theorem k32 : okD G32 N32 p32 b32 false false s32 = true := by kernel_rfl
theorem d32 : BindA "span_of" s32 p32 := fun _ _ _ _ _ _ us hl => match us, hl with | [_, _], _ => rfl
def G33 : GS := G32.add "span_of" p32.length false
/- is_forced -/
def N33 : List Str := ["history", "value", "far", "one", "other"]
def p33 : List Str := ["history", "value", "far"]
def b33 : E .blk := (.exp (.call 21 2 (.cons (.v 0) (.cons (.gc 8 c_CELL) .nil))) (.par (.ccons 3 (.cv (.call 30 2 (.cons (.v 0) (.cons (.v 1) .nil)))) (.ccons 4 (.cv (.call 30 2 (.cons (.v 0) (.cons (.v 2) .nil)))) .cnil)) (.ifs (.tcmp .eq (.v 3) (.v 4)) (.rse 1 (.v 2) .done) .done .dead)))
def s33 : Stmt := top 54
theorem k33 : okD G33 N33 p33 b33 false false s33 = true := by kernel_rfl
theorem d33 : BindA "is_forced" s33 p33 := fun _ _ _ _ _ _ us hl => match us, hl with | [_, _, _], _ => rfl
def G34 : GS := G33.add "is_forced" p33.length false
/- odds_in -/
def N34 : List Str := ["history", "one", "far"]
def p34 : List Str := ["history"]
def b34 : E .blk := (.exp (.call 21 2 (.cons (.v 0) (.cons (.gc 8 c_CELL) .nil))) .dead)
def s34 : Stmt := top 55
theorem k34 : okD G34 N34 p34 b34 false false s34 = true := by kernel_rfl
theorem d34 : BindA "odds_in" s34 p34 := fun _ _ _ _ _ _ us hl => match us, hl with | [_], _ => rfl
def G35 : GS := G34.add "odds_in" p34.length false
/- is_sound -/
def N35 : List Str := ["calls", "mark", "lot", "writes", "number", "one"]
def p35 : List Str := ["calls"]
def b35 : E .blk := (.fori (.many [1, 2]) (.seq (.call 22 1 (.cons (.v 0) .nil))) (.set 3 (.cv (.ofn (.lc (.one 4) (.seq (.v 2)) (.one (.tcmp .eq (.ix (.ix (.v 0) (.v 4)) (.k (.int 3))) (.gc 9 c_WRITE))) (.v 4) [4]))) (.ifs (.tbo (.wc true (.tcmp .notN (.v 1) (.k .none)) (.w1 (.tbo (.wc false (.tcmp .eq (.v 3) (.ofn (.lst .nil))) (.w1 (.tr (.bf .any (.ofn (.lc (.one 5) (.seq (.v 2)) .yes (.call 16 3 (.cons (.v 0) (.cons (.v 5) (.cons (.ix (.v 3) (.k (.int 0))) .nil)))) [5])))))))))) (.ret (.k (.bool false)) .done) .done .done)) (.ret (.k (.bool true)) .done))
def s35 : Stmt := top 57
theorem k35 : okD G35 N35 p35 b35 false false s35 = true := by kernel_rfl
theorem d35 : BindA "is_sound" s35 p35 := fun _ _ _ _ _ _ us hl => match us, hl with | [_], _ => rfl
def G36 : GS := G35.add "is_sound" p35.length false
/- is_explained_in -/
def N36 : List Str := ["calls"]
def p36 : List Str := ["calls"]
def b36 : E .blk := (.ret (.bo true (.call 35 1 (.cons (.v 0) .nil)) (.bo1 (.cmp .eq (.call 27 1 (.cons (.v 0) .nil)) (.ofn (.lst .nil))))) .done)
def s36 : Stmt := top 58
theorem k36 : okD G36 N36 p36 b36 false false s36 = true := by kernel_rfl
theorem d36 : BindA "is_explained_in" s36 p36 := fun _ _ _ _ _ _ us hl => match us, hl with | [_], _ => rfl
def G37 : GS := G36.add "is_explained_in" p36.length false
/- may_come -/
def N37 : List Str := ["calls", "pair", "left", "far"]
def p37 : List Str := ["calls", "pair", "left"]
def b37 : E .blk := (.ret (.not (.bf .any (.ofn (.lc (.one 3) (.seq (.v 2)) (.one (.tcmp .ne (.v 3) (.v 1))) (.call 25 3 (.cons (.v 0) (.cons (.v 3) (.cons (.v 1) .nil)))) [3])))) .done)
def s37 : Stmt := top 59
theorem k37 : okD G37 N37 p37 b37 false false s37 = true := by kernel_rfl
theorem d37 : BindA "may_come" s37 p37 := fun _ _ _ _ _ _ us hl => match us, hl with | [_, _, _], _ => rfl
def G38 : GS := G37.add "may_come" p37.length false
/- turns_from -/
def N38 : List Str := ["calls", "left", "found", "pair", "rest", "far", "later"]
def p38 : List Str := ["calls", "left"]
def b38 : E .blk := (.ifs (.tcmp .eq (.v 1) (.ofn (.lst .nil))) (.ret (.ofn (.lst (.cons (.tup .nil) .nil))) .done) .done (.set 2 (.cn (.lst .nil)) (.fori (.one 3) (.seq (.v 1)) (.ifs (.tr (.call 37 3 (.cons (.v 0) (.cons (.v 3) (.cons (.v 1) .nil))))) (.setl 4 false (.one 5) (.seq (.v 1)) (.one (.tcmp .ne (.v 5) (.v 3))) (.v 5) [5] (.ext 2 (.ofn (.lc (.one 6) (.seq (.call 38 2 (.cons (.v 0) (.cons (.v 4) .nil)))) .yes (.tup (.cons (.v 3) (.star (.v 6) .nil))) [6])) .done)) .done .done) (.frz 2 (.ret (.v 2) .done)))))
def s38 : Stmt := top 60
def G39 : GS := G38.add "turns_from" p38.length false
theorem k38 : okD G39 N38 p38 b38 false false s38 = true := by kernel_rfl
theorem d38 : BindA "turns_from" s38 p38 := fun _ _ _ _ _ _ us hl => match us, hl with | [_, _], _ => rfl
/- all_turns -/
def N39 : List Str := ["history", "row", "mark", "lot"]
def p39 : List Str := ["history"]
def b39 : E .blk := (.exp (.call 21 2 (.cons (.v 0) (.cons (.gc 8 c_CELL) .nil))) (.ret (.bf .tuple (.ofn (.lc (.one 1) (.seq (.call 38 2 (.cons (.ix (.v 0) (.k (.int 1))) (.cons (.call 22 1 (.cons (.ix (.v 0) (.k (.int 1))) .nil)) .nil)))) .yes (.bf .tuple (.ofn (.lc (.many [2, 3]) (.seq (.v 1)) .yes (.v 2) [2, 3]))) [1]))) .done))
def s39 : Stmt := top 61
theorem k39 : okD G39 N39 p39 b39 false false s39 = true := by kernel_rfl
theorem d39 : BindA "all_turns" s39 p39 := fun _ _ _ _ _ _ us hl => match us, hl with | [_], _ => rfl
def G40 : GS := G39.add "all_turns" p39.length false
/- is_same_turn -/
def N40 : List Str := ["thing", "row", "mark", "lot"]
def p40 : List Str := ["thing", "row"]
def b40 : E .blk := (.ret (.bo true (.isi .tuple (.v 0)) (.bo1 (.cmp .eq (.bf .repr (.v 0)) (.bf .repr (.bf .tuple (.ofn (.lc (.many [2, 3]) (.seq (.v 1)) .yes (.v 2) [2, 3]))))))) .done)
def s40 : Stmt := top 65
theorem k40 : okD G40 N40 p40 b40 true false s40 = true := by kernel_rfl
theorem d40 : BindA "is_same_turn" s40 p40 := fun _ _ _ _ _ _ us hl => match us, hl with | [_, _], _ => rfl
def G41 : GS := G40.add "is_same_turn" p40.length true
/- order_by -/
def N41 : List Str := ["history", "turn", "rows", "some", "row"]
def p41 : List Str := ["history", "turn"]
def b41 : E .blk := (.exp (.call 21 2 (.cons (.v 0) (.cons (.gc 8 c_CELL) .nil))) (.set 2 (.cv (.ite (.tr (.call 36 1 (.cons (.ix (.v 0) (.k (.int 1))) .nil))) (.call 38 2 (.cons (.ix (.v 0) (.k (.int 1))) (.cons (.call 22 1 (.cons (.ix (.v 0) (.k (.int 1))) .nil)) .nil))) (.ofn (.lst .nil)))) (.setl 3 false (.one 4) (.seq (.v 2)) (.one (.tr (.call 40 2 (.cons (.v 1) (.cons (.v 4) .nil))))) .un [4] (.ifs (.tcmp .eq (.v 3) (.ofn (.lst .nil))) (.rse 2 (.v 1) .done) .done .dead))))
def s41 : Stmt := top 64
theorem k41 : okD G41 N41 p41 b41 true false s41 = true := by kernel_rfl
theorem d41 : BindA "order_by" s41 p41 := fun _ _ _ _ _ _ us hl => match us, hl with | [_, _], _ => rfl
def G42 : GS := G41.add "order_by" p41.length true
/- cell_count -/
def N42 : List Str := ["history", "found", "mark", "lot", "number"]
def p42 : List Str := ["history"]
def b42 : E .blk := (.exp (.call 21 2 (.cons (.v 0) (.cons (.gc 8 c_CELL) .nil))) (.ifs (.tnot (.tr (.call 36 1 (.cons (.ix (.v 0) (.k (.int 1))) .nil)))) (.ret (.k (.int 0)) .done) .done .dead))
def s42 : Stmt := top 67
theorem k42 : okD G42 N42 p42 b42 false false s42 = true := by kernel_rfl
theorem d42 : BindA "cell_count" s42 p42 := fun _ _ _ _ _ _ us hl => match us, hl with | [_], _ => rfl
def G43 : GS := G42.add "cell_count" p42.length false
/- is_tight -/
def N43 : List Str := ["history"]
def p43 : List Str := ["history"]
def b43 : E .blk := (.exp (.call 21 2 (.cons (.v 0) (.cons (.gc 8 c_CELL) .nil))) (.ret (.bo false (.not (.call 36 1 (.cons (.ix (.v 0) (.k (.int 1))) .nil))) .un) .done))
def s43 : Stmt := top 68
theorem k43 : okD G43 N43 p43 b43 false false s43 = true := by kernel_rfl
theorem d43 : BindA "is_tight" s43 p43 := fun _ _ _ _ _ _ us hl => match us, hl with | [_], _ => rfl
def G44 : GS := G43.add "is_tight" p43.length false
/- state_at_first -/
def N44 : List Str := ["sort"]
def p44 : List Str := ["sort"]
def b44 : E .blk := (.ifs (.tcmp .eq (.v 0) (.k (.str "cell"))) (.ret (.k .none) .done) .done .dead)
def s44 : Stmt := top 70
theorem k44 : okD G44 N44 p44 b44 false false s44 = true := by kernel_rfl
theorem d44 : BindA "state_at_first" s44 p44 := fun _ _ _ _ _ _ us hl => match us, hl with | [_], _ => rfl
def G45 : GS := G44.add "state_at_first" p44.length false
/- plain_step -/
def N45 : List Str := ["sort", "state", "word", "given", "told", "later"]
def p45 : List Str := ["sort", "state", "word", "given"]
def b45 : E .blk := (.ifs (.tcmp .eq (.v 0) (.k (.str "cell"))) (.ret (.ite (.tcmp .eq (.v 2) (.k (.str "write"))) (.tup (.cons (.k (.bool true)) (.cons (.k .none) (.cons (.v 3) .nil)))) (.tup (.cons (.k (.bool true)) (.cons (.v 1) (.cons (.v 1) .nil))))) .done) .done .dead)
def s45 : Stmt := top 76
theorem k45 : okD G45 N45 p45 b45 false false s45 = true := by kernel_rfl
theorem d45 : BindA "plain_step" s45 p45 := fun _ _ _ _ _ _ us hl => match us, hl with | [_, _, _, _], _ => rfl
def G46 : GS := G45.add "plain_step" p45.length false
/- states_at_first -/
def N46 : List Str := ["sorts", "sort"]
def p46 : List Str := ["sorts"]
def b46 : E .blk := (.ret (.bf .tuple (.ofn (.lc (.one 1) (.seq (.v 0)) .yes (.call 44 1 (.cons (.v 1) .nil)) [1]))) .done)
def s46 : Stmt := top 77
theorem k46 : okD G46 N46 p46 b46 false false s46 = true := by kernel_rfl
theorem d46 : BindA "states_at_first" s46 p46 := fun _ _ _ _ _ _ us hl => match us, hl with | [_], _ => rfl
def G47 : GS := G46.add "states_at_first" p46.length false
/- with_state -/
def N47 : List Str := ["states", "thing", "state"]
def p47 : List Str := ["states", "thing", "state"]
def b47 : E .blk := (.ret (.bin .add (.bin .add (.slc (.v 0) .pno (.pso (.v 1))) (.tup (.cons (.v 2) .nil))) (.slc (.v 0) (.pso (.bin .add (.v 1) (.k (.int 1)))) .pno)) .done)
def s47 : Stmt := top 78
theorem k47 : okD G47 N47 p47 b47 false false s47 = true := by kernel_rfl
theorem d47 : BindA "with_state" s47 p47 := fun _ _ _ _ _ _ us hl => match us, hl with | [_, _, _], _ => rfl
def G48 : GS := G47.add "with_state" p47.length false
/- step_in -/
def N48 : List Str := ["sorts", "states", "call", "begin", "end", "thing", "word", "given", "due", "can_go", "told", "state"]
def p48 : List Str := ["sorts", "states", "call"]
def b48 : E .blk := (.asg (.many [3, 4, 5, 6, 7, 8]) (.v 2) (.asg (.many [9, 10, 11]) (.call 45 4 (.cons (.ix (.v 0) (.v 5)) (.cons (.ix (.v 1) (.v 5)) (.cons (.v 6) (.cons (.v 7) .nil))))) (.ret (.ite (.tbo (.wc true (.tr (.v 9)) (.w1 (.tcmp .eq (.v 10) (.v 8))))) (.call 47 3 (.cons (.v 1) (.cons (.v 5) (.cons (.v 11) .nil)))) .un) .done)))
def s48 : Stmt := top 79
theorem k48 : okD G48 N48 p48 b48 false false s48 = true := by kernel_rfl
theorem d48 : BindA "step_in" s48 p48 := fun _ _ _ _ _ _ us hl => match us, hl with | [_, _, _], _ => rfl
def G49 : GS := G48.add "step_in" p48.length false
/- states_behind -/
def N49 : List Str := ["history", "order", "states", "number"]
def p49 : List Str := ["history", "order"]
def b49 : E .blk := (.set 2 (.cv (.call 46 1 (.cons (.ix (.v 0) (.k (.int 0))) .nil))) (.fori (.one 3) (.seq (.v 1)) (.ifs (.tcmp .notN (.v 2) (.k .none)) (.set 2 (.cv (.call 48 3 (.cons (.ix (.v 0) (.k (.int 0))) (.cons (.v 2) (.cons (.ix (.ix (.v 0) (.k (.int 1))) (.v 3)) .nil))))) .done) .done .done) (.ret (.v 2) .done)))
def s49 : Stmt := top 80
theorem k49 : okD G49 N49 p49 b49 false false s49 = true := by kernel_rfl
theorem d49 : BindA "states_behind" s49 p49 := fun _ _ _ _ _ _ us hl => match us, hl with | [_, _], _ => rfl
def G50 : GS := G49.add "states_behind" p49.length false
/- is_explanation -/
def N50 : List Str := ["history", "value"]
def p50 : List Str := ["history", "value"]
def b50 : E .blk := (.exp (.call 15 1 (.cons (.v 0) .nil)) (.ret (.bo true (.call 19 2 (.cons (.ix (.v 0) (.k (.int 1))) (.cons (.v 1) .nil))) (.bo1 (.cmp .notN (.call 49 2 (.cons (.v 0) (.cons (.v 1) .nil))) (.k .none)))) .done))
def s50 : Stmt := top 81
theorem k50 : okD G50 N50 p50 b50 false false s50 = true := by kernel_rfl
theorem d50 : BindA "is_explanation" s50 p50 := fun _ _ _ _ _ _ us hl => match us, hl with | [_, _], _ => rfl
def G51 : GS := G50.add "is_explanation" p50.length false
/- write_in -/
def N51 : List Str := ["calls", "value", "number", "call"]
def p51 : List Str := ["calls", "value"]
def b51 : E .blk := (.ret (.ofn (.lc (.many [2, 3]) (.enu (.v 0)) (.one (.tbo (.wc true (.tcmp .eq (.ix (.v 3) (.k (.int 3))) (.gc 9 c_WRITE)) (.w1 (.tcmp .eq (.ix (.v 3) (.k (.int 4))) (.v 1)))))) (.v 2) [2, 3])) .done)
def s51 : Stmt := top 89
theorem k51 : okD G51 N51 p51 b51 false false s51 = true := by kernel_rfl
theorem d51 : BindA "write_in" s51 p51 := fun _ _ _ _ _ _ us hl => match us, hl with | [_, _], _ => rfl
def G52 : GS := G51.add "write_in" p51.length false
/- cell_paper -/
def N52 : List Str := ["history", "found"]
def p52 : List Str := ["history"]
def b52 : E .blk := (.exp (.call 21 2 (.cons (.v 0) (.cons (.gc 8 c_CELL) .nil))) .dead)
def s52 : Stmt := top 93
theorem k52 : okD G52 N52 p52 b52 false false s52 = true := by kernel_rfl
theorem d52 : BindA "cell_paper" s52 p52 := fun _ _ _ _ _ _ us hl => match us, hl with | [_], _ => rfl
def G53 : GS := G52.add "cell_paper" p52.length false
/- is_call_number -/
def N53 : List Str := ["calls", "thing"]
def p53 : List Str := ["calls", "thing"]
def b53 : E .blk := (.ret (.bo true (.call 0 1 (.cons (.v 1) .nil)) (.bo1 (.chn .le .lt (.k (.int 0)) (.v 1) (.bf .len (.v 0))))) .done)
def s53 : Stmt := top 94
theorem k53 : okD G53 N53 p53 b53 false false s53 = true := by kernel_rfl
theorem d53 : BindA "is_call_number" s53 p53 := fun _ _ _ _ _ _ us hl => match us, hl with | [_, _], _ => rfl
def G54 : GS := G53.add "is_call_number" p53.length false
/- does_bar -/
def N54 : List Str := ["calls", "paper", "word", "some", "values", "number"]
def p54 : List Str := ["calls", "paper"]
def b54 : E .blk := (.par (.ccons 2 (.cv (.ix (.v 1) (.k (.int 0)))) (.ccons 3 (.cv (.slc (.v 1) (.pso (.k (.int 1))) .pno)) .cnil)) (.setl 4 false (.one 5) (.seq (.v 3)) .yes (.call 20 1 (.cons (.ix (.v 0) (.v 5)) .nil)) [5] (.ifs (.tcmp .eq (.v 2) (.gc 15 c_ODDS)) .dead .done (.ifs (.tcmp .eq (.v 2) (.gc 14 c_OLD)) .dead .done (.ifs (.tbo (.wc false (.tcmp .ne (.ix (.ix (.v 0) (.ix (.v 3) (.k (.int 0)))) (.k (.int 3))) (.gc 10 c_READ)) (.w1 (.tcmp .isN (.ix (.v 4) (.k (.int 0))) (.k .none))))) .dead .done (.ifs (.tcmp .eq (.v 2) (.gc 12 c_UNWRITTEN)) (.ret (.cmp .eq (.call 51 2 (.cons (.v 0) (.cons (.ix (.v 4) (.k (.int 0))) .nil))) (.ofn (.lst .nil))) .done) .done (.ret (.bo true (.cmp .eq (.call 51 2 (.cons (.v 0) (.cons (.ix (.v 4) (.k (.int 0))) .nil))) (.ofn (.lst (.cons (.ix (.v 3) (.k (.int 1))) .nil)))) (.bo1 (.call 16 3 (.cons (.v 0) (.cons (.ix (.v 3) (.k (.int 0))) (.cons (.ix (.v 3) (.k (.int 1))) .nil)))))) .done)))))))
def s54 : Stmt := top 95
theorem k54 : okD G54 N54 p54 b54 false false s54 = true := by kernel_rfl
theorem d54 : BindA "does_bar" s54 p54 := fun _ _ _ _ _ _ us hl => match us, hl with | [_, _], _ => rfl
def G55 : GS := G54.add "does_bar" p54.length false
/- does_hold -/
def N55 : List Str := ["history", "paper", "one"]
def p55 : List Str := ["history", "paper"]
def b55 : E .blk := (.ifs (.tcmp .eq (.ix (.v 1) (.k (.int 0))) (.gc 11 c_ORDER)) (.ret (.call 50 2 (.cons (.v 0) (.cons (.ix (.v 1) (.k (.int 1))) .nil))) .done) .done (.ret (.bo true (.bf .all (.ofn (.lc (.one 2) (.seq (.slc (.v 1) (.pso (.k (.int 1))) .pno)) .yes (.call 53 2 (.cons (.ix (.v 0) (.k (.int 1))) (.cons (.v 2) .nil))) [2]))) (.bo1 (.call 54 2 (.cons (.ix (.v 0) (.k (.int 1))) (.cons (.v 1) .nil))))) .done))
def s55 : Stmt := top 96
theorem k55 : okD G55 N55 p55 b55 false false s55 = true := by kernel_rfl
theorem d55 : BindA "does_hold" s55 p55 := fun _ _ _ _ _ _ us hl => match us, hl with | [_, _], _ => rfl
def G56 : GS := G55.add "does_hold" p55.length false
/- check_cell -/
def N56 : List Str := ["history", "paper"]
def p56 : List Str := ["history", "paper"]
def b56 : E .blk := (.exp (.call 21 2 (.cons (.v 0) (.cons (.gc 8 c_CELL) .nil))) (.ifs (.tbo (.wc false (.tnot (.tr (.isi .tuple (.v 1)))) (.wc false (.tcmp .eq (.v 1) (.tup .nil)) (.w1 (.tnot (.tr (.isi .str (.ix (.v 1) (.k (.int 0)))))))))) (.rse 3 (.k (.str "form")) .done) .done (.ifs (.tcmp .ne (.gdget 1 t_LENGTHS (.ix (.v 1) (.k (.int 0)))) (.bf .len (.v 1))) (.rse 3 (.k (.str "form")) .done) .done (.ifs (.tnot (.tr (.call 55 2 (.cons (.v 0) (.cons (.v 1) .nil))))) (.rse 3 (.ix (.v 1) (.k (.int 0))) .done) .done (.ret (.ix (.v 1) (.k (.int 0))) .done)))))
def s56 : Stmt := top 97
theorem k56 : okD G56 N56 p56 b56 false false s56 = true := by kernel_rfl
theorem d56 : BindA "check_cell" s56 p56 := fun _ _ _ _ _ _ us hl => match us, hl with | [_, _], _ => rfl
def G57 : GS := G56.add "check_cell" p56.length false
/- _law_histories_right -/
def N57 : List Str := ["_law_call", "_law_rows", "_law_odd", "_law_due", "_law_told_so"]
def p57 : List Str := []
def b57 : E .blk := (.set 0 (.cv (.tup (.cons (.k (.int 0)) (.cons (.k (.int 1)) (.cons (.k (.int 0)) (.cons (.k (.str "write")) (.cons (.k (.int 5)) (.cons (.k .none) .nil)))))))) (.set 1 (.cv (.ofn (.lst (.cons (.tup (.cons (.k .none) (.cons (.k (.str "form")) .nil))) (.cons (.tup (.cons (.tup (.cons (.tup (.cons (.k (.str "cell")) .nil)) (.cons (.ofn (.lst (.cons (.v 0) .nil))) .nil))) (.cons (.k (.str "form")) .nil))) (.cons (.tup (.cons (.tup (.cons (.tup .nil) (.cons (.tup .nil) .nil))) (.cons (.k (.str "sorts")) .nil))) (.cons (.tup (.cons (.tup (.cons (.tup (.cons (.k (.str "cell")) .nil)) (.cons (.tup (.cons (.slc (.v 0) .pno (.pso (.k (.int 5)))) .nil)) .nil))) (.cons (.k (.str "calls")) .nil))) .nil))))))) (.set 1 (.cv (.bin .add (.v 1) (.ofn (.lst (.cons (.tup (.cons (.tup (.cons (.tup (.cons (.k (.str "cell")) .nil)) (.cons (.tup (.cons (.tup (.cons (.k (.int 0)) (.cons (.k (.int 1)) (.cons (.k (.int 0)) (.cons (.k (.str "write")) (.cons (.k (.int 5)) (.cons (.k (.int 5)) .nil))))))) .nil)) .nil))) (.cons (.k (.str "calls")) .nil))) .nil))))) (.set 1 (.cv (.bin .add (.v 1) (.ofn (.lst (.cons (.tup (.cons (.tup (.cons (.tup (.cons (.k (.str "cell")) .nil)) (.cons (.tup (.cons (.v 0) (.cons (.tup (.cons (.k (.int 0)) (.cons (.k (.int 2)) (.cons (.k (.int 0)) (.cons (.k (.str "read")) (.cons (.k .none) (.cons (.k (.int 5)) .nil))))))) .nil))) .nil))) (.cons (.k (.str "moments")) .nil))) .nil))))) (.set 1 (.cv (.bin .add (.v 1) (.ofn (.lst (.cons (.tup (.cons (.tup (.cons (.tup (.cons (.k (.str "cell")) .nil)) (.cons (.tup (.cons (.v 0) (.cons (.tup (.cons (.k (.int 2)) (.cons (.k (.int 3)) (.cons (.k (.int 0)) (.cons (.k (.str "write")) (.cons (.k (.int 5)) (.cons (.k .none) .nil))))))) .nil))) .nil))) (.cons (.k (.str "twice")) .nil))) (.cons (.tup (.cons (.tup (.cons (.tup (.cons (.k (.str "queue")) .nil)) (.cons (.tup .nil) .nil))) (.cons (.k (.str "sort")) .nil))) .nil)))))) (.fori (.many [2, 3]) (.seq (.bin .add (.v 1) (.ofn (.lst (.cons (.tup (.cons (.tup (.cons (.tup (.cons (.k (.str "cell")) (.cons (.k (.str "cell")) .nil))) (.cons (.tup .nil) .nil))) (.cons (.k (.str "sort")) .nil))) (.cons (.tup (.cons (.tup (.cons (.tup (.cons (.k (.str "cell")) .nil)) (.cons (.tup (.cons (.tup (.cons (.k (.int 1)) (.cons (.k (.int 1)) (.cons (.k (.int 0)) (.cons (.k (.str "write")) (.cons (.k (.int 5)) (.cons (.k .none) .nil))))))) .nil)) .nil))) (.cons (.k (.str "calls")) .nil))) .nil)))))) (.set 4 (.cv (.ofn (.lst (.cons (.hrd (.call 28 1 (.cons (.v 2) .nil))) (.cons (.hrd (.call 31 2 (.cons (.v 2) (.cons (.k (.str "a")) .nil)))) .nil))))) (.set 4 (.cv (.bin .add (.v 4) (.ofn (.lst (.cons (.hrd (.call 32 2 (.cons (.v 2) (.cons (.k (.str "a")) .nil)))) (.cons (.hrd (.call 33 3 (.cons (.v 2) (.cons (.k (.str "a")) (.cons (.k (.str "b")) .nil))))) .nil)))))) (.set 4 (.cv (.bin .add (.v 4) (.ofn (.lst (.cons (.hrd (.call 34 1 (.cons (.v 2) .nil))) (.cons (.hrd (.call 52 1 (.cons (.v 2) .nil))) .nil)))))) (.set 4 (.cv (.bin .add (.v 4) (.ofn (.lst (.cons (.hrd (.call 56 2 (.cons (.v 2) (.cons (.k (.int 5)) .nil)))) (.cons (.hrd (.call 39 1 (.cons (.v 2) .nil))) .nil)))))) (.set 4 (.cv (.bin .add (.v 4) (.ofn (.lst (.cons (.hrd (.call 41 2 (.cons (.v 2) (.cons (.k (.int 5)) .nil)))) (.cons (.hrd (.call 42 1 (.cons (.v 2) .nil))) .nil)))))) (.ifs (.tcmp .ne (.bin .add (.v 4) (.ofn (.lst (.cons (.hrd (.call 43 1 (.cons (.v 2) .nil))) .nil)))) (.bin .mul (.ofn (.lst (.cons (.tup (.cons (.k (.str "history")) (.cons (.v 3) .nil))) .nil))) (.k (.int 11)))) .dead .done .done)))))) (.ret (.k (.bool true)) .done)))))))
def s57 : Stmt := top 100
theorem k57 : okD G57 N57 p57 b57 true true s57 = true := by kernel_rfl
theorem d57 : BindA "_law_histories_right" s57 p57 := fun _ _ _ _ _ _ us hl => match us, hl with | [], _ => rfl
theorem h57 : chk G57 bh ⟨Nh, defScope hst, (defScope hst).names, true, false, false⟩ false rest = true := by kernel_rfl
def G58 : GS := G57.add "_law_histories_right" p57.length true
/- _law_marks_right -/
def N58 : List Str := ["_law_history", "_law_odd", "_law_barred", "_law_some", "_law_told_so"]
def p58 : List Str := []
def b58 : E .blk := (.set 0 (.cv (.tup (.cons (.tup (.cons (.k (.str "cell")) .nil)) (.cons (.tup (.cons (.tup (.cons (.k (.int 0)) (.cons (.k (.int 1)) (.cons (.k (.int 0)) (.cons (.k (.str "write")) (.cons (.k (.int 5)) (.cons (.k .none) .nil))))))) (.cons (.tup (.cons (.k (.int 2)) (.cons (.k (.int 3)) (.cons (.k (.int 0)) (.cons (.k (.str "read")) (.cons (.k .none) (.cons (.k (.int 5)) .nil))))))) (.cons (.tup (.cons (.k (.int 4)) (.cons (.k (.int 5)) (.cons (.k (.int 0)) (.cons (.k (.str "write")) (.cons (.k (.int 1)) (.cons (.k .none) .nil))))))) .nil)))) .nil)))) (.fori (.one 1) (.seq (.tup (.cons (.k .none) (.cons (.k (.int 0)) (.cons (.k (.str "5")) (.cons (.k (.bool true)) (.cons (.tup (.cons (.k (.int 5)) .nil)) (.cons (.ofn (.lst .nil)) (.cons .emp .nil))))))))) (.set 4 (.cn (.lst (.cons (.hrd (.call 31 2 (.cons (.v 0) (.cons (.v 1) .nil)))) (.cons (.hrd (.call 32 2 (.cons (.v 0) (.cons (.v 1) .nil)))) .nil)))) (.app 4 (.hrd (.call 33 3 (.cons (.v 0) (.cons (.v 1) (.cons (.k (.str "x")) .nil))))) (.app 4 (.hrd (.call 33 3 (.cons (.v 0) (.cons (.k (.int 5)) (.cons (.v 1) .nil))))) (.ifs (.trne (.vb 4) (.bin .mul (.ofn (.lst (.cons (.tup (.cons (.k (.str "value")) (.cons (.v 1) .nil))) .nil))) (.k (.int 4)))) .dead .done .done)))) (.ifs (.tbo (.wc false (.tcmp .ne (.hrd (.call 33 3 (.cons (.v 0) (.cons (.k (.int 5)) (.cons (.k (.int 5)) .nil))))) (.tup (.cons (.k (.str "value")) (.cons (.k (.int 5)) .nil)))) (.w1 (.tcmp .ne (.call 31 2 (.cons (.v 0) (.cons (.k (.int 1)) .nil))) (.tup (.cons (.k (.int 2)) .nil)))))) .dead .done (.fori (.one 1) (.seq (.tup (.cons (.k .none) (.cons (.tup .nil) (.cons (.tup (.cons (.k (.int 5)) .nil)) (.cons (.tup (.cons (.k (.int 1)) (.cons (.k (.int 5)) .nil))) (.cons (.ofn (.lst (.cons (.k (.int 5)) (.cons (.k (.int 1)) .nil)))) (.cons (.tup (.cons (.k (.int 5)) (.cons (.k (.int 1)) (.cons (.k (.int 1)) .nil)))) (.cons (.tup (.cons (.k (.int 5)) (.cons (.k (.bool true)) .nil))) (.cons (.k (.str "51")) (.cons (.k (.int 5)) .nil))))))))))) (.ifs (.trne (.hrd (.call 41 2 (.cons (.v 0) (.cons (.v 1) .nil)))) (.tup (.cons (.k (.str "turn")) (.cons (.v 1) .nil)))) .dead .done .done) (.set 2 (.cv (.tup (.cons (.tup (.cons (.k (.str "cell")) .nil)) (.cons (.tup (.cons (.tup (.cons (.k (.int 0)) (.cons (.k (.int 1)) (.cons (.k (.int 0)) (.cons (.k (.str "write")) (.cons (.k (.int 5)) (.cons (.k .none) .nil))))))) (.cons (.tup (.cons (.k (.int 2)) (.cons (.k (.int 3)) (.cons (.k (.int 0)) (.cons (.k (.str "read")) (.cons (.k .none) (.cons (.k (.int 1)) .nil))))))) .nil))) .nil)))) (.ifs (.tbo (.wc false (.tcmp .ne (.hrd (.call 41 2 (.cons (.v 2) (.cons (.tup (.cons (.k (.int 5)) (.cons (.k (.int 1)) .nil))) .nil)))) (.tup (.cons (.k (.str "turn")) (.cons (.tup (.cons (.k (.int 5)) (.cons (.k (.int 1)) .nil))) .nil)))) (.w1 (.tcmp .ne (.call 39 1 (.cons (.v 2) .nil)) (.tup (.cons (.tup (.cons (.k (.int 5)) (.cons (.k (.int 1)) .nil))) .nil)))))) .dead .done (.set 3 (.cv (.ofn (.lst (.cons (.k .none) (.cons (.tup .nil) (.cons (.k (.int 5)) (.cons (.k (.str "order")) (.cons (.tup (.cons (.k (.str "order")) .nil)) (.cons (.tup (.cons (.k (.str "Order")) (.cons (.tup (.cons (.k (.int 0)) (.cons (.k (.int 1)) (.cons (.k (.int 2)) .nil)))) .nil))) (.cons (.ofn (.lst (.cons (.k (.str "order")) (.cons (.tup (.cons (.k (.int 0)) (.cons (.k (.int 1)) (.cons (.k (.int 2)) .nil)))) .nil)))) (.cons (.tup (.cons (.k (.int 1)) (.cons (.k (.int 2)) .nil))) (.cons (.tup (.cons (.k (.str "odds")) (.cons (.k (.int 0)) (.cons (.k (.int 1)) (.cons (.k (.int 2)) .nil))))) .nil)))))))))))) (.fori (.one 1) (.seq (.bin .add (.v 3) (.ofn (.lst (.cons (.tup (.cons (.ofn (.lst .nil)) (.cons (.k (.int 1)) .nil))) .nil))))) (.ifs (.tcmp .ne (.hrd (.call 56 2 (.cons (.v 0) (.cons (.v 1) .nil)))) (.tup (.cons (.k (.str "paper")) (.cons (.k (.str "form")) .nil)))) .dead .done .done) (.set 3 (.cv (.ofn (.lst (.cons (.tup (.cons (.k (.str "order")) (.cons (.ofn (.lst (.cons (.k (.int 0)) (.cons (.k (.int 1)) (.cons (.k (.int 2)) .nil))))) .nil))) (.cons (.tup (.cons (.k (.str "order")) (.cons (.tup (.cons (.k (.int 1)) (.cons (.k (.int 0)) (.cons (.k (.int 2)) .nil)))) .nil))) (.cons (.tup (.cons (.k (.str "unwritten")) (.cons (.k (.int 1)) .nil))) (.cons (.tup (.cons (.k (.str "early")) (.cons (.k (.int 1)) (.cons (.k (.int 0)) .nil)))) (.cons (.tup (.cons (.k (.str "old")) (.cons (.k (.int 0)) (.cons (.k .none) .nil)))) .nil)))))))) (.fori (.one 1) (.seq (.bin .add (.v 3) (.ofn (.lst (.cons (.tup (.cons (.k (.str "odds")) (.cons (.k (.int 0)) (.cons (.k (.int 1)) (.cons (.k (.int 2)) (.cons (.k (.int 3)) .nil)))))) .nil))))) (.ifs (.tcmp .ne (.hrd (.call 56 2 (.cons (.v 0) (.cons (.v 1) .nil)))) (.tup (.cons (.k (.str "paper")) (.cons (.ix (.v 1) (.k (.int 0))) .nil)))) .dead .done .done) (.ret (.bo true (.cmp .eq (.call 56 2 (.cons (.v 0) (.cons (.tup (.cons (.k (.str "order")) (.cons (.tup (.cons (.k (.int 0)) (.cons (.k (.int 1)) (.cons (.k (.int 2)) .nil)))) .nil))) .nil))) (.k (.str "order"))) (.bo true (.cmp .eq (.call 42 1 (.cons (.v 2) .nil)) (.k (.int 0))) (.bo1 (.call 43 1 (.cons (.v 2) .nil))))) .done)))))))))))
def s58 : Stmt := top 101
theorem k58 : okD G58 N58 p58 b58 true true s58 = true := by kernel_rfl
theorem d58 : BindA "_law_marks_right" s58 p58 := fun _ _ _ _ _ _ us hl => match us, hl with | [], _ => rfl
theorem h58 : chk G58 bh ⟨Nh, defScope hst, (defScope hst).names, true, false, false⟩ false rest = true := by kernel_rfl
def G59 : GS := G58.add "_law_marks_right" p58.length true
def NL : List Str := ["_law_script"]
def bL : E .blk := (.ret (.bo true (.call 57 0 .nil) (.bo1 (.call 58 0 .nil))) .done)
def sL : Stmt := top 102
theorem kL : okD G59 NL ["_law_script"] bL true false sL = true := by kernel_rfl
/-! what they reckon -/
def F0 : Nat → List PyData → Res PyData := fun _ _ => .bad
def F1 : Nat → List PyData → Res PyData := extF F0 0 (runF F0 noHr N0.length b0)
def F2 : Nat → List PyData → Res PyData := extF F1 1 (runF F1 noHr N1.length b1)
def F3 : Nat → List PyData → Res PyData := extF F2 2 (runF F2 noHr N2.length b2)
def F4 : Nat → List PyData → Res PyData := extF F3 3 (runF F3 noHr N3.length b3)
def F5 : Nat → List PyData → Res PyData := extF F4 4 (runF F4 noHr N4.length b4)
def F6 : Nat → List PyData → Res PyData := extF F5 5 (runF F5 noHr N5.length b5)
def F7 : Nat → List PyData → Res PyData := extF F6 6 (runF F6 noHr N6.length b6)
def F8 : Nat → List PyData → Res PyData := extF F7 7 (runF F7 noHr N7.length b7)
def F9 : Nat → List PyData → Res PyData := extF F8 8 (runF F8 noHr N8.length b8)
def F10 : Nat → List PyData → Res PyData := extF F9 9 (runF F9 noHr N9.length b9)
def F11 : Nat → List PyData → Res PyData := extF F10 10 (runF F10 noHr N10.length b10)
def F12 : Nat → List PyData → Res PyData := extF F11 11 (runF F11 noHr N11.length b11)
def F13 : Nat → List PyData → Res PyData := extF F12 12 (runF F12 noHr N12.length b12)
def F14 : Nat → List PyData → Res PyData := extF F13 13 (runF F13 noHr N13.length b13)
def F15 : Nat → List PyData → Res PyData := extF F14 14 (runF F14 noHr N14.length b14)
def F16 : Nat → List PyData → Res PyData := extF F15 15 (runF F15 noHr N15.length b15)
def F17 : Nat → List PyData → Res PyData := extF F16 16 (runF F16 noHr N16.length b16)
def F18 : Nat → List PyData → Res PyData := extF F17 17 (runF F17 noHr N17.length b17)
def F19 : Nat → List PyData → Res PyData := extF F18 18 (runF F18 noHr N18.length b18)
def F20 : Nat → List PyData → Res PyData := extF F19 19 (runF F19 noHr N19.length b19)
def F21 : Nat → List PyData → Res PyData := extF F20 20 (runF F20 noHr N20.length b20)
def F22 : Nat → List PyData → Res PyData := extF F21 21 (runF F21 noHr N21.length b21)
def F23 : Nat → List PyData → Res PyData := extF F22 22 (runF F22 noHr N22.length b22)
def F24 : Nat → List PyData → Res PyData := extF F23 23 (runF F23 noHr N23.length b23)
def F25 : Nat → List PyData → Res PyData := extF F24 24 (runF F24 noHr N24.length b24)
def F26 : Nat → List PyData → Res PyData := extF F25 25 (runF F25 noHr N25.length b25)
def F27 : Nat → List PyData → Res PyData := extF F26 26 (runF F26 noHr N26.length b26)
def F28 : Nat → List PyData → Res PyData := extF F27 27 (runF F27 noHr N27.length b27)
def F29 : Nat → List PyData → Res PyData := extF F28 28 (runF F28 noHr N28.length b28)
def F30 : Nat → List PyData → Res PyData := extF F29 29 (runF F29 noHr N29.length b29)
def F31 : Nat → List PyData → Res PyData := extF F30 30 (runF F30 noHr N30.length b30)
def F32 : Nat → List PyData → Res PyData := extF F31 31 (runF F31 noHr N31.length b31)
def F33 : Nat → List PyData → Res PyData := extF F32 32 (runF F32 noHr N32.length b32)
def F34 : Nat → List PyData → Res PyData := extF F33 33 (runF F33 noHr N33.length b33)
def F35 : Nat → List PyData → Res PyData := extF F34 34 (runF F34 noHr N34.length b34)
def F36 : Nat → List PyData → Res PyData := extF F35 35 (runF F35 noHr N35.length b35)
def F37 : Nat → List PyData → Res PyData := extF F36 36 (runF F36 noHr N36.length b36)
def F38 : Nat → List PyData → Res PyData := extF F37 37 (runF F37 noHr N37.length b37)
def F39 : Nat → List PyData → Res PyData := extF F38 38 (recF F38 38 N38.length b38 8)
def F40 : Nat → List PyData → Res PyData := extF F39 39 (runF F39 noHr N39.length b39)
def F41 : Nat → List PyData → Res PyData := extF F40 40 (runF F40 noHr N40.length b40)
def F42 : Nat → List PyData → Res PyData := extF F41 41 (runF F41 noHr N41.length b41)
def F43 : Nat → List PyData → Res PyData := extF F42 42 (runF F42 noHr N42.length b42)
def F44 : Nat → List PyData → Res PyData := extF F43 43 (runF F43 noHr N43.length b43)
def F45 : Nat → List PyData → Res PyData := extF F44 44 (runF F44 noHr N44.length b44)
def F46 : Nat → List PyData → Res PyData := extF F45 45 (runF F45 noHr N45.length b45)
def F47 : Nat → List PyData → Res PyData := extF F46 46 (runF F46 noHr N46.length b46)
def F48 : Nat → List PyData → Res PyData := extF F47 47 (runF F47 noHr N47.length b47)
def F49 : Nat → List PyData → Res PyData := extF F48 48 (runF F48 noHr N48.length b48)
def F50 : Nat → List PyData → Res PyData := extF F49 49 (runF F49 noHr N49.length b49)
def F51 : Nat → List PyData → Res PyData := extF F50 50 (runF F50 noHr N50.length b50)
def F52 : Nat → List PyData → Res PyData := extF F51 51 (runF F51 noHr N51.length b51)
def F53 : Nat → List PyData → Res PyData := extF F52 52 (runF F52 noHr N52.length b52)
def F54 : Nat → List PyData → Res PyData := extF F53 53 (runF F53 noHr N53.length b53)
def F55 : Nat → List PyData → Res PyData := extF F54 54 (runF F54 noHr N54.length b54)
def F56 : Nat → List PyData → Res PyData := extF F55 55 (runF F55 noHr N55.length b55)
def F57 : Nat → List PyData → Res PyData := extF F56 56 (runF F56 noHr N56.length b56)
def F58 : Nat → List PyData → Res PyData := extF F57 57 (runF F57 (runHear F57 bh Nh.length 1 2 4) N57.length b57)
def F59 : Nat → List PyData → Res PyData := extF F58 58 (runF F58 (runHear F58 bh Nh.length 1 2 4) N58.length b58)
def res : Res PyData := noX (outF (ev F59 noHr bL (List.replicate NL.length none)))
end Z
namespace Z
open PySem PySem.Spec PyProof.Rows L2 Ev
open He (DefD Fa Tab Defn)
/-! what is known of the heap -/
structure Hy (w : World) (h : Heap) (K : PySem.W.Frag) (mg : Str → Option Value) (base : Heap) : Prop where
  X : K.In h
  G : h.Ns mainGlobals mg
  c : He.SaysX fa fn (tsOf dcts) tf (exB G0 "CallError" tf) w h K
  T : ∀ p ∈ tf, LamX.TabB base mg (He.cT K p).1 (He.cT K p).2
section
variable {P : Program} {w : World} {h : Heap} {K : PySem.W.Frag} {mg : Str → Option Value} {base : Heap}
theorem Hy.glo (y : Hy w h K mg base) (i : Nat) {x : Str} (e : fa[i]? = some (.glo x) := by rfl) : mg x = some (.ref (He.ga K x)) := He.glo_ok y.X y.G (y.c.t.d.fact i e)
theorem Hy.df (y : Hy w h K mg base) (i : Nat) {x : Str} {st : Stmt} (e : fn[i]? = some (dOf x st) := by rfl) : ∃ fd, FunD K x x (defArgs st) (defBody st) (defScope st) [] [] (He.ga K x) fd := y.c.t.d.def_ i e
theorem Hy.inits (y : Hy w h K mg base) : ∀ q ∈ clss, ∃ fd ps, FnOk P w K mg base (CX P w) 1 (He.ma K (He.ga K q.1) "__init__") fd ps (spI K q.2.2) ∧ L2.Binds K fd ps [] := by
  intro q hq
  simp only [clss, List.mem_cons, List.not_mem_nil, or_false] at hq
  rcases hq with rfl | rfl | rfl | rfl
  · obtain ⟨fd, F⟩ := y.c.t.d.def_ 61 (d := iOf "BadHistory" "BadHistory.__init__" (ini 3)) rfl
    exact ⟨fd, _, init_ok F (by kernel_rfl) (by kernel_rfl), F.bindsN fun _ _ _ _ _ _ us hl => match us, hl with | [_, _], _ => rfl⟩
  · obtain ⟨fd, F⟩ := y.c.t.d.def_ 62 (d := iOf "BadValue" "BadValue.__init__" (ini 5)) rfl
    exact ⟨fd, _, init_ok F (by kernel_rfl) (by kernel_rfl), F.bindsN fun _ _ _ _ _ _ us hl => match us, hl with | [_, _], _ => rfl⟩
  · obtain ⟨fd, F⟩ := y.c.t.d.def_ 63 (d := iOf "BadTurn" "BadTurn.__init__" (ini 4)) rfl
    exact ⟨fd, _, init_ok F (by kernel_rfl) (by kernel_rfl), F.bindsN fun _ _ _ _ _ _ us hl => match us, hl with | [_, _], _ => rfl⟩
  · obtain ⟨fd, F⟩ := y.c.t.d.def_ 64 (d := iOf "BadPaper" "BadPaper.__init__" (ini 2)) rfl
    exact ⟨fd, _, init_ok F (by kernel_rfl) (by kernel_rfl), F.bindsN fun _ _ _ _ _ _ us hl => match us, hl with | [_, _], _ => rfl⟩
theorem g0 (y : Hy w h K mg base) : Glob G0 P w K mg base (CC K) F0 2 := glob0 (G := G0) y.X y.G y.c.more (kd_of y.c.t) y.inits
theorem hrr (y : Hy w h K mg base) : Hr K mg (CC K) "_law_told" hst Nh rest 1 2 4 := by
  obtain ⟨fd, F⟩ := y.df 59 (x := "_law_told") (st := hst)
  exact ⟨⟨"_law_call", "_law_found_so", "_law_caught", "error", "CallError", 5, fd, .ref (He.ga K "CallError"), F, F.bindsN (fun _ _ _ _ _ _ us hl => match us, hl with | [_], _ => rfl), fsB_ok (by kernel_rfl), hT, by kernel_rfl, vis_of (by kernel_rfl), isLoc_of (by kernel_rfl), isLoc_of (by kernel_rfl), isLoc_of (by kernel_rfl), gl_of (by kernel_rfl), by decide, y.glo 61, exm_all y.c.more⟩, y.glo 59, by decide⟩
theorem n0 : G0.fns.length = 0 := rfl
theorem n1 : G1.fns.length = 1 := GS.add_len n0
theorem g1 (y : Hy w h K mg base) : Glob G1 P w K mg base (CC K) F1 3 := by
  obtain ⟨fd, FD⟩ := y.df 0 (x := "is_integer") (st := s0)
  exact addD (g0 y) (by decide) n0 FD (y.glo 0) (by decide) k0 d0
theorem n2 : G2.fns.length = 2 := GS.add_len n1
theorem g2 (y : Hy w h K mg base) : Glob G2 P w K mg base (CC K) F2 4 := by
  obtain ⟨fd, FD⟩ := y.df 1 (x := "is_value") (st := s1)
  exact addD (g1 y) (by decide) n1 FD (y.glo 1) (by decide) k1 d1
theorem n3 : G3.fns.length = 3 := GS.add_len n2
theorem g3 (y : Hy w h K mg base) : Glob G3 P w K mg base (CC K) F3 5 := by
  obtain ⟨fd, FD⟩ := y.df 2 (x := "is_sort") (st := s2)
  exact addD (g2 y) (by decide) n2 FD (y.glo 2) (by decide) k2 d2
theorem n4 : G4.fns.length = 4 := GS.add_len n3
theorem g4 (y : Hy w h K mg base) : Glob G4 P w K mg base (CC K) F4 6 := by
  obtain ⟨fd, FD⟩ := y.df 3 (x := "words_of") (st := s3)
  exact addD (g3 y) (by decide) n3 FD (y.glo 3) (by decide) k3 d3
theorem n5 : G5.fns.length = 5 := GS.add_len n4
theorem g5 (y : Hy w h K mg base) : Glob G5 P w K mg base (CC K) F5 7 := by
  obtain ⟨fd, FD⟩ := y.df 4 (x := "is_word_of") (st := s4)
  exact addD (g4 y) (by decide) n4 FD (y.glo 4) (by decide) k4 d4
theorem n6 : G6.fns.length = 6 := GS.add_len n5
theorem g6 (y : Hy w h K mg base) : Glob G6 P w K mg base (CC K) F6 8 := by
  obtain ⟨fd, FD⟩ := y.df 5 (x := "can_give") (st := s5)
  exact addD (g5 y) (by decide) n5 FD (y.glo 5) (by decide) k5 d5
theorem n7 : G7.fns.length = 7 := GS.add_len n6
theorem g7 (y : Hy w h K mg base) : Glob G7 P w K mg base (CC K) F7 9 := by
  obtain ⟨fd, FD⟩ := y.df 6 (x := "can_tell") (st := s6)
  exact addD (g6 y) (by decide) n6 FD (y.glo 6) (by decide) k6 d6
theorem n8 : G8.fns.length = 8 := GS.add_len n7
theorem g8 (y : Hy w h K mg base) : Glob G8 P w K mg base (CC K) F8 10 := by
  obtain ⟨fd, FD⟩ := y.df 7 (x := "is_doing") (st := s7)
  exact addD (g7 y) (by decide) n7 FD (y.glo 7) (by decide) k7 d7
theorem n9 : G9.fns.length = 9 := GS.add_len n8
theorem g9 (y : Hy w h K mg base) : Glob G9 P w K mg base (CC K) F9 11 := by
  obtain ⟨fd, FD⟩ := y.df 8 (x := "is_call") (st := s8)
  exact addD (g8 y) (by decide) n8 FD (y.glo 8) (by decide) k8 d8
theorem n10 : G10.fns.length = 10 := GS.add_len n9
theorem g10 (y : Hy w h K mg base) : Glob G10 P w K mg base (CC K) F10 12 := by
  obtain ⟨fd, FD⟩ := y.df 9 (x := "are_sorts") (st := s9)
  exact addD (g9 y) (by decide) n9 FD (y.glo 9) (by decide) k9 d9
theorem n11 : G11.fns.length = 11 := GS.add_len n10
theorem g11 (y : Hy w h K mg base) : Glob G11 P w K mg base (CC K) F11 13 := by
  obtain ⟨fd, FD⟩ := y.df 10 (x := "are_unlike") (st := s10)
  exact addD (g10 y) (by decide) n10 FD (y.glo 10) (by decide) k10 d10
theorem n12 : G12.fns.length = 12 := GS.add_len n11
theorem g12 (y : Hy w h K mg base) : Glob G12 P w K mg base (CC K) F12 14 := by
  obtain ⟨fd, FD⟩ := y.df 11 (x := "givers_of") (st := s11)
  exact addD (g11 y) (by decide) n11 FD (y.glo 11) (by decide) k11 d11
theorem n13 : G13.fns.length = 13 := GS.add_len n12
theorem g13 (y : Hy w h K mg base) : Glob G13 P w K mg base (CC K) F13 15 := by
  obtain ⟨fd, FD⟩ := y.df 12 (x := "are_calls") (st := s12)
  exact addD (g12 y) (by decide) n12 FD (y.glo 12) (by decide) k12 d12
theorem n14 : G14.fns.length = 14 := GS.add_len n13
theorem g14 (y : Hy w h K mg base) : Glob G14 P w K mg base (CC K) F14 16 := by
  obtain ⟨fd, FD⟩ := y.df 13 (x := "are_in_time") (st := s13)
  exact addD (g13 y) (by decide) n13 FD (y.glo 13) (by decide) k13 d13
theorem n15 : G15.fns.length = 15 := GS.add_len n14
theorem g15 (y : Hy w h K mg base) : Glob G15 P w K mg base (CC K) F15 17 := by
  obtain ⟨fd, FD⟩ := y.df 14 (x := "fault_of") (st := s14)
  exact addD (g14 y) (by decide) n14 FD (y.glo 14) (by decide) k14 d14
theorem n16 : G16.fns.length = 16 := GS.add_len n15
theorem g16 (y : Hy w h K mg base) : Glob G16 P w K mg base (CC K) F16 18 := by
  obtain ⟨fd, FD⟩ := y.df 15 (x := "need_history") (st := s15)
  exact addD (g15 y) (by decide) n15 FD (y.glo 15) (by decide) k15 d15
theorem n17 : G17.fns.length = 17 := GS.add_len n16
theorem g17 (y : Hy w h K mg base) : Glob G17 P w K mg base (CC K) F17 19 := by
  obtain ⟨fd, FD⟩ := y.df 16 (x := "is_before") (st := s16)
  exact addD (g16 y) (by decide) n16 FD (y.glo 16) (by decide) k16 d16
theorem n18 : G18.fns.length = 18 := GS.add_len n17
theorem g18 (y : Hy w h K mg base) : Glob G18 P w K mg base (CC K) F18 20 := by
  obtain ⟨fd, FD⟩ := y.df 17 (x := "all_ahead") (st := s17)
  exact addD (g17 y) (by decide) n17 FD (y.glo 17) (by decide) k17 d17
theorem n19 : G19.fns.length = 19 := GS.add_len n18
theorem g19 (y : Hy w h K mg base) : Glob G19 P w K mg base (CC K) F19 21 := by
  obtain ⟨fd, FD⟩ := y.df 18 (x := "are_numbers") (st := s18)
  exact addD (g18 y) (by decide) n18 FD (y.glo 18) (by decide) k18 d18
theorem n20 : G20.fns.length = 20 := GS.add_len n19
theorem g20 (y : Hy w h K mg base) : Glob G20 P w K mg base (CC K) F20 22 := by
  obtain ⟨fd, FD⟩ := y.df 19 (x := "is_order_in") (st := s19)
  exact addD (g19 y) (by decide) n19 FD (y.glo 19) (by decide) k19 d19
theorem n21 : G21.fns.length = 21 := GS.add_len n20
theorem g21 (y : Hy w h K mg base) : Glob G21 P w K mg base (CC K) F21 23 := by
  obtain ⟨fd, FD⟩ := y.df 20 (x := "value_of") (st := s20)
  exact addD (g20 y) (by decide) n20 FD (y.glo 20) (by decide) k20 d20
theorem n22 : G22.fns.length = 22 := GS.add_len n21
theorem g22 (y : Hy w h K mg base) : Glob G22 P w K mg base (CC K) F22 24 := by
  obtain ⟨fd, FD⟩ := y.df 21 (x := "need_sort") (st := s21)
  exact addD (g21 y) (by decide) n21 FD (y.glo 21) (by decide) k21 d21
theorem n23 : G23.fns.length = 23 := GS.add_len n22
theorem g23 (y : Hy w h K mg base) : Glob G23 P w K mg base (CC K) F23 25 := by
  obtain ⟨fd, FD⟩ := y.df 22 (x := "kins_in") (st := s22)
  exact addD (g22 y) (by decide) n22 FD (y.glo 22) (by decide) k22 d22
theorem n24 : G24.fns.length = 24 := GS.add_len n23
theorem g24 (y : Hy w h K mg base) : Glob G24 P w K mg base (CC K) F24 26 := by
  obtain ⟨fd, FD⟩ := y.df 23 (x := "near_of") (st := s23)
  exact addD (g23 y) (by decide) n23 FD (y.glo 23) (by decide) k23 d23
theorem n25 : G25.fns.length = 25 := GS.add_len n24
theorem g25 (y : Hy w h K mg base) : Glob G25 P w K mg base (CC K) F25 27 := by
  obtain ⟨fd, FD⟩ := y.df 24 (x := "far_of") (st := s24)
  exact addD (g24 y) (by decide) n24 FD (y.glo 24) (by decide) k24 d24
theorem n26 : G26.fns.length = 26 := GS.add_len n25
theorem g26 (y : Hy w h K mg base) : Glob G26 P w K mg base (CC K) F26 28 := by
  obtain ⟨fd, FD⟩ := y.df 25 (x := "is_forced_in") (st := s25)
  exact addD (g25 y) (by decide) n25 FD (y.glo 25) (by decide) k25 d25
theorem n27 : G27.fns.length = 27 := GS.add_len n26
theorem g27 (y : Hy w h K mg base) : Glob G27 P w K mg base (CC K) F27 29 := by
  obtain ⟨fd, FD⟩ := y.df 26 (x := "are_at_odds") (st := s26)
  exact addD (g26 y) (by decide) n26 FD (y.glo 26) (by decide) k26 d26
theorem n28 : G28.fns.length = 28 := GS.add_len n27
theorem g28 (y : Hy w h K mg base) : Glob G28 P w K mg base (CC K) F28 30 := by
  obtain ⟨fd, FD⟩ := y.df 27 (x := "odds_by") (st := s27)
  exact addD (g27 y) (by decide) n27 FD (y.glo 27) (by decide) k27 d27
theorem n29 : G29.fns.length = 29 := GS.add_len n28
theorem g29 (y : Hy w h K mg base) : Glob G29 P w K mg base (CC K) F29 31 := by
  obtain ⟨fd, FD⟩ := y.df 28 (x := "marks_of") (st := s28)
  exact addD (g28 y) (by decide) n28 FD (y.glo 28) (by decide) k28 d28
theorem n30 : G30.fns.length = 30 := GS.add_len n29
theorem g30 (y : Hy w h K mg base) : Glob G30 P w K mg base (CC K) F30 32 := by
  obtain ⟨fd, FD⟩ := y.df 29 (x := "is_mark") (st := s29)
  exact addD (g29 y) (by decide) n29 FD (y.glo 29) (by decide) k29 d29
theorem n31 : G31.fns.length = 31 := GS.add_len n30
theorem g31 (y : Hy w h K mg base) : Glob G31 P w K mg base (CC K) F31 33 := by
  obtain ⟨fd, FD⟩ := y.df 30 (x := "kin_by") (st := s30)
  exact addD (g30 y) (by decide) n30 FD (y.glo 30) (by decide) k30 d30
theorem n32 : G32.fns.length = 32 := GS.add_len n31
theorem g32 (y : Hy w h K mg base) : Glob G32 P w K mg base (CC K) F32 34 := by
  obtain ⟨fd, FD⟩ := y.df 31 (x := "kin_of") (st := s31)
  exact addD (g31 y) (by decide) n31 FD (y.glo 31) (by decide) k31 d31
theorem n33 : G33.fns.length = 33 := GS.add_len n32
theorem g33 (y : Hy w h K mg base) : Glob G33 P w K mg base (CC K) F33 35 := by
  obtain ⟨fd, FD⟩ := y.df 32 (x := "span_of") (st := s32)
  exact addD (g32 y) (by decide) n32 FD (y.glo 32) (by decide) k32 d32
theorem n34 : G34.fns.length = 34 := GS.add_len n33
theorem g34 (y : Hy w h K mg base) : Glob G34 P w K mg base (CC K) F34 36 := by
  obtain ⟨fd, FD⟩ := y.df 33 (x := "is_forced") (st := s33)
  exact addD (g33 y) (by decide) n33 FD (y.glo 33) (by decide) k33 d33
theorem n35 : G35.fns.length = 35 := GS.add_len n34
theorem g35 (y : Hy w h K mg base) : Glob G35 P w K mg base (CC K) F35 37 := by
  obtain ⟨fd, FD⟩ := y.df 34 (x := "odds_in") (st := s34)
  exact addD (g34 y) (by decide) n34 FD (y.glo 34) (by decide) k34 d34
theorem n36 : G36.fns.length = 36 := GS.add_len n35
theorem g36 (y : Hy w h K mg base) : Glob G36 P w K mg base (CC K) F36 38 := by
  obtain ⟨fd, FD⟩ := y.df 35 (x := "is_sound") (st := s35)
  exact addD (g35 y) (by decide) n35 FD (y.glo 35) (by decide) k35 d35
theorem n37 : G37.fns.length = 37 := GS.add_len n36
theorem g37 (y : Hy w h K mg base) : Glob G37 P w K mg base (CC K) F37 39 := by
  obtain ⟨fd, FD⟩ := y.df 36 (x := "is_explained_in") (st := s36)
  exact addD (g36 y) (by decide) n36 FD (y.glo 36) (by decide) k36 d36
theorem n38 : G38.fns.length = 38 := GS.add_len n37
theorem g38 (y : Hy w h K mg base) : Glob G38 P w K mg base (CC K) F38 40 := by
  obtain ⟨fd, FD⟩ := y.df 37 (x := "may_come") (st := s37)
  exact addD (g37 y) (by decide) n37 FD (y.glo 37) (by decide) k37 d37
theorem n39 : G39.fns.length = 39 := GS.add_len n38
theorem g39 (y : Hy w h K mg base) : Glob G39 P w K mg base (CC K) F39 49 := by
  obtain ⟨fd, FD⟩ := y.df 38 (x := "turns_from") (st := s38)
  exact addRec (g38 y) (by decide) n38 FD (y.glo 38) (by decide) k38 d38 8
theorem n40 : G40.fns.length = 40 := GS.add_len n39
theorem g40 (y : Hy w h K mg base) : Glob G40 P w K mg base (CC K) F40 50 := by
  obtain ⟨fd, FD⟩ := y.df 39 (x := "all_turns") (st := s39)
  exact addD (g39 y) (by decide) n39 FD (y.glo 39) (by decide) k39 d39
theorem n41 : G41.fns.length = 41 := GS.add_len n40
theorem g41 (y : Hy w h K mg base) : Glob G41 P w K mg base (CC K) F41 51 := by
  obtain ⟨fd, FD⟩ := y.df 40 (x := "is_same_turn") (st := s40)
  exact addD (g40 y) (by decide) n40 FD (y.glo 40) (by decide) k40 d40
theorem n42 : G42.fns.length = 42 := GS.add_len n41
theorem g42 (y : Hy w h K mg base) : Glob G42 P w K mg base (CC K) F42 52 := by
  obtain ⟨fd, FD⟩ := y.df 41 (x := "order_by") (st := s41)
  exact addD (g41 y) (by decide) n41 FD (y.glo 41) (by decide) k41 d41
theorem n43 : G43.fns.length = 43 := GS.add_len n42
theorem g43 (y : Hy w h K mg base) : Glob G43 P w K mg base (CC K) F43 53 := by
  obtain ⟨fd, FD⟩ := y.df 42 (x := "cell_count") (st := s42)
  exact addD (g42 y) (by decide) n42 FD (y.glo 42) (by decide) k42 d42
theorem n44 : G44.fns.length = 44 := GS.add_len n43
theorem g44 (y : Hy w h K mg base) : Glob G44 P w K mg base (CC K) F44 54 := by
  obtain ⟨fd, FD⟩ := y.df 43 (x := "is_tight") (st := s43)
  exact addD (g43 y) (by decide) n43 FD (y.glo 43) (by decide) k43 d43
theorem n45 : G45.fns.length = 45 := GS.add_len n44
theorem g45 (y : Hy w h K mg base) : Glob G45 P w K mg base (CC K) F45 55 := by
  obtain ⟨fd, FD⟩ := y.df 44 (x := "state_at_first") (st := s44)
  exact addD (g44 y) (by decide) n44 FD (y.glo 44) (by decide) k44 d44
theorem n46 : G46.fns.length = 46 := GS.add_len n45
theorem g46 (y : Hy w h K mg base) : Glob G46 P w K mg base (CC K) F46 56 := by
  obtain ⟨fd, FD⟩ := y.df 45 (x := "plain_step") (st := s45)
  exact addD (g45 y) (by decide) n45 FD (y.glo 45) (by decide) k45 d45
theorem n47 : G47.fns.length = 47 := GS.add_len n46
theorem g47 (y : Hy w h K mg base) : Glob G47 P w K mg base (CC K) F47 57 := by
  obtain ⟨fd, FD⟩ := y.df 46 (x := "states_at_first") (st := s46)
  exact addD (g46 y) (by decide) n46 FD (y.glo 46) (by decide) k46 d46
theorem n48 : G48.fns.length = 48 := GS.add_len n47
theorem g48 (y : Hy w h K mg base) : Glob G48 P w K mg base (CC K) F48 58 := by
  obtain ⟨fd, FD⟩ := y.df 47 (x := "with_state") (st := s47)
  exact addD (g47 y) (by decide) n47 FD (y.glo 47) (by decide) k47 d47
theorem n49 : G49.fns.length = 49 := GS.add_len n48
theorem g49 (y : Hy w h K mg base) : Glob G49 P w K mg base (CC K) F49 59 := by
  obtain ⟨fd, FD⟩ := y.df 48 (x := "step_in") (st := s48)
  exact addD (g48 y) (by decide) n48 FD (y.glo 48) (by decide) k48 d48
theorem n50 : G50.fns.length = 50 := GS.add_len n49
theorem g50 (y : Hy w h K mg base) : Glob G50 P w K mg base (CC K) F50 60 := by
  obtain ⟨fd, FD⟩ := y.df 49 (x := "states_behind") (st := s49)
  exact addD (g49 y) (by decide) n49 FD (y.glo 49) (by decide) k49 d49
theorem n51 : G51.fns.length = 51 := GS.add_len n50
theorem g51 (y : Hy w h K mg base) : Glob G51 P w K mg base (CC K) F51 61 := by
  obtain ⟨fd, FD⟩ := y.df 50 (x := "is_explanation") (st := s50)
  exact addD (g50 y) (by decide) n50 FD (y.glo 50) (by decide) k50 d50
theorem n52 : G52.fns.length = 52 := GS.add_len n51
theorem g52 (y : Hy w h K mg base) : Glob G52 P w K mg base (CC K) F52 62 := by
  obtain ⟨fd, FD⟩ := y.df 51 (x := "write_in") (st := s51)
  exact addD (g51 y) (by decide) n51 FD (y.glo 51) (by decide) k51 d51
theorem n53 : G53.fns.length = 53 := GS.add_len n52
theorem g53 (y : Hy w h K mg base) : Glob G53 P w K mg base (CC K) F53 63 := by
  obtain ⟨fd, FD⟩ := y.df 52 (x := "cell_paper") (st := s52)
  exact addD (g52 y) (by decide) n52 FD (y.glo 52) (by decide) k52 d52
theorem n54 : G54.fns.length = 54 := GS.add_len n53
theorem g54 (y : Hy w h K mg base) : Glob G54 P w K mg base (CC K) F54 64 := by
  obtain ⟨fd, FD⟩ := y.df 53 (x := "is_call_number") (st := s53)
  exact addD (g53 y) (by decide) n53 FD (y.glo 53) (by decide) k53 d53
theorem n55 : G55.fns.length = 55 := GS.add_len n54
theorem g55 (y : Hy w h K mg base) : Glob G55 P w K mg base (CC K) F55 65 := by
  obtain ⟨fd, FD⟩ := y.df 54 (x := "does_bar") (st := s54)
  exact addD (g54 y) (by decide) n54 FD (y.glo 54) (by decide) k54 d54
theorem n56 : G56.fns.length = 56 := GS.add_len n55
theorem g56 (y : Hy w h K mg base) : Glob G56 P w K mg base (CC K) F56 66 := by
  obtain ⟨fd, FD⟩ := y.df 55 (x := "does_hold") (st := s55)
  exact addD (g55 y) (by decide) n55 FD (y.glo 55) (by decide) k55 d55
theorem n57 : G57.fns.length = 57 := GS.add_len n56
theorem g57 (y : Hy w h K mg base) : Glob G57 P w K mg base (CC K) F57 67 := by
  obtain ⟨fd, FD⟩ := y.df 56 (x := "check_cell") (st := s56)
  exact addD (g56 y) (by decide) n56 FD (y.glo 56) (by decide) k56 d56
theorem n58 : G58.fns.length = 58 := GS.add_len n57
theorem g58 (y : Hy w h K mg base) : Glob G58 P w K mg base (CC K) F58 70 := by
  obtain ⟨fd, FD⟩ := y.df 57 (x := "_law_histories_right") (st := s57)
  exact addLm (g57 y) (by decide) n57 FD (y.glo 57) (by decide) k57 d57 (hrr y) h57 (y.T _ (by simp [tf])) (tab_mem y.c.more (by simp [tf]) (by simp [tf]))
theorem n59 : G59.fns.length = 59 := GS.add_len n58
theorem g59 (y : Hy w h K mg base) : Glob G59 P w K mg base (CC K) F59 73 := by
  obtain ⟨fd, FD⟩ := y.df 58 (x := "_law_marks_right") (st := s58)
  exact addLm (g58 y) (by decide) n58 FD (y.glo 58) (by decide) k58 d58 (hrr y) h58 (y.T _ (by simp [tf])) (tab_mem y.c.more (by simp [tf]) (by simp [tf]))
theorem lawOk (y : Hy w h K mg base) : ∃ fd, FnG P w K mg base true 74 (He.ga K "law") fd ["_law_script"] (spL K (CC K) res) ∧ FunD K "law" "law" (defArgs sL) (defBody sL) (defScope sL) [] [] (He.ga K "law") fd := by
  obtain ⟨fd, FD⟩ := y.df 60 (x := "law") (st := sL)
  exact ⟨fd, lawL (g59 y) (by decide) FD kL, FD⟩
theorem res_ok : res = .ok (.bool true) := by kernel_rfl
end
/-! the head -/
abbrev R' : PySem.W.OpenRow := PySem.W.OpenLaw.row rw'
abbrev hk : PySem.W.Hook := hookY fa fn (tsOf dcts) tf (exB G0 "CallError" tf)
def ob (s : PySem.W.SharedT) : He.AlX := obsY fa fn (tsOf dcts) tf (exB G0 "CallError" tf) (HandSHeadRun.getT s)
theorem ob_eq (s : PySem.W.SharedT) : ob s = hk.obs s.abs := obsY_eq (HandSHeadRun.getT_eq s)
def names : List PySem.Str := (["CallError", "BadPaper", "BadHistory", "BadTurn", "BadValue", "MOST_VALUE", "MOST_CALLS", "MOST_THINGS", "MOST_ROOM", "ROOM", "WORDS", "GIVERS", "ASKERS", "NUMBERS", "is_integer", "is_value", "is_sort", "words_of", "is_word_of", "can_give"] : List PySem.Str) ++ (["can_tell", "is_doing", "is_call", "are_sorts", "are_unlike", "givers_of", "are_calls", "are_in_time", "fault_of", "need_history", "is_before", "all_ahead", "are_numbers", "is_order_in", "value_of", "CELL", "WRITE", "READ", "need_sort", "kins_in"] : List PySem.Str) ++ (["near_of", "far_of", "is_forced_in", "are_at_odds", "odds_by", "marks_of", "is_mark", "kin_by", "kin_of", "span_of", "is_forced", "odds_in", "is_sound", "is_explained_in", "may_come", "turns_from", "all_turns", "order_in", "first_order_by", "order_by"] : List PySem.Str) ++ (["is_same_turn", "orders_of_lot", "cell_count", "is_tight", "state_at_first", "with_value", "without_value", "taken_from", "number_gone", "member_gone", "plain_step", "states_at_first", "with_state", "step_in", "states_behind", "is_explanation", "ORDER", "UNWRITTEN", "EARLY", "OLD"] : List PySem.Str) ++ (["ODDS", "LENGTHS", "write_in", "first_over", "odds_paper", "cell_bar", "cell_paper", "is_call_number", "does_bar", "does_hold", "check_cell", "_law_told", "_law_histories_right", "_law_marks_right"] : List PySem.Str)
abbrev qv : Program := PySem.W.view R'.prog [102]
theorem run0 (w : World) : HandSHeadRun.RunEq R' qv hk ob 6000 names (w.withFollow "special-get-raises" false) := by
  intro os
  kernel_rfl
theorem run1 (w : World) : HandSHeadRun.RunEq R' qv hk ob 6000 names (w.withFollow "special-get-raises" true) := by
  intro os
  kernel_rfl
theorem run (w : World) : HandSHeadRun.RunEq R' qv hk ob 6000 names w := PySem.W.byRow2 "special-get-raises" (P := fun w => HandSHeadRun.RunEq R' qv hk ob 6000 names w) run0 run1 w
end Z
open PySem PySem.W PySem.Calls PyProof.Rows
theorem PySem.Challenge.cw_shortbars_k10_part_b_by_hand_and_refused_holds : PySem.Challenge.rw_shortbars_k10_part_b_by_hand_and_refused.Holds := by
  w_on; o_law
  refine HandSHeadRun.head_any (r := OpenLaw.row PySem.Challenge.rw_shortbars_k10_part_b_by_hand_and_refused) (q := Z.qv) (H := Z.hk) (ob := Z.ob) (M := 6000) (loose := Z.names) (d := HandSHeadRun.topDef (OpenLaw.row PySem.Challenge.rw_shortbars_k10_part_b_by_hand_and_refused).prog 102) (kwd := []) Z.ob_eq
    (by kernel_rfl) (fun s => by kernel_rfl) Z.run (by kernel_rfl) (by kernel_rfl) (by kernel_rfl) (by rfl) (by first | assumption | decide +kernel) (by decide +kernel) ⟨rfl, rfl, rfl, rfl, rfl, by decide +kernel⟩ ?hw ?hc
  case hw => w_witness2
  case hc =>
    refine Ev.walk_L (l := PySem.Challenge.rw_shortbars_k10_part_b_by_hand_and_refused) (n := 63) (k := 74) (x := "_law_script") rfl (by kernel_rfl) ⟨rfl, by decide, by decide⟩ ?F
    intro w mg fa h Y G hmg0
    obtain ⟨K, KX, c⟩ := Y
    have hmg : mg ("law" : PySem.Str) = some (.ref fa) := by
      have e : (HandSHeadRun.topDef (OpenLaw.row PySem.Challenge.rw_shortbars_k10_part_b_by_hand_and_refused).prog 102).name = ("law" : PySem.Str) := by kernel_rfl
      rw [← e]
      exact hmg0
    have e2 := hmg.symm.trans (He.glo_ok KX G (c.t.d.fact 60 (f := .glo "law") rfl))
    cases e2
    have cs2 : (Z.CC K).tabs.map (·.1) = (Z.tf.map (He.cT K)).map (·.2) := by
      simp [Ev.CTof, List.map_map, Function.comp_def]
    have hno : ∀ p ∈ Z.tf.map (He.cT K), h.get? p.2 = some { cls := .none, data := .fields #[] } := fun p hp => by
      obtain ⟨q, hq, rfl⟩ := List.mem_map.mp hp
      exact c.empty q hq
    have hout : ∀ p ∈ Z.tf.map (He.cT K), K.lookup p.2 = none := fun p hp => by
      obtain ⟨q, hq, rfl⟩ := List.mem_map.mp hp
      exact c.out q hq
    have hcd : ∀ p ∈ Z.tf.map (He.cT K), PySem.W.CodeHd h p.1 p.2 := fun p hp => by
      obtain ⟨q, hq, rfl⟩ := List.mem_map.mp hp
      exact PySem.W.codeHd_of_K KX (c.hd q hq)
    have hy : ∀ base : Heap, K.In base → base.Ns mainGlobals mg → (∀ p ∈ Z.tf.map (He.cT K), LamX.TabB base mg p.1 p.2) → Z.Hy w h K mg base := fun base _ _ t => ⟨KX, G, c, fun p hp => t _ (List.mem_map.mpr ⟨p, hp, rfl⟩)⟩
    have lawF : ∃ fd, (∀ (s : Shared) (u : Value), PySem.BindsTo s fd ⟨[u], []⟩ [("_law_script", u)]) ∧ ∀ base : Heap, K.In base → base.Ns mainGlobals mg → (∀ p ∈ Z.tf.map (He.cT K), LamX.TabB base mg p.1 p.2) → Ev.FnG (PySem.Challenge.rw_shortbars_k10_part_b_by_hand_and_refused).prog w K mg base true 74 (He.ga K "law") fd ["_law_script"] (Ev.spL K (Z.CC K) Z.res) := by
      obtain ⟨fd, FD⟩ := c.t.d.def_ 60 (d := Ev.dOf "law" Z.sL) rfl
      refine ⟨fd, fun s u => L2.FunD.bindsA (ps := ["_law_script"]) FD (fun _ _ _ _ _ _ us hl => match us, hl with | [_], _ => rfl) s [u] rfl, fun base b1 b2 t => ?_⟩
      obtain ⟨fd', z1, z2⟩ := Z.lawOk (P := (PySem.Challenge.rw_shortbars_k10_part_b_by_hand_and_refused).prog) (hy base b1 b2 t)
      have e3 : fd = fd' := Ev.funD_uni FD z2
      rw [e3]; exact z1
    obtain ⟨fd, hb, hF⟩ := lawF
    exact ⟨K, Z.CC K, fd, Z.tf.map (He.cT K), true, _, KX, cs2, Z.res_ok, hno, hout, hcd, hb, hF⟩
