import PyProof.Rows.All
import HandS.ForMost
import HandS.ForExc
import HandS.Lambda
import KE.KDictKeyed
import KE.KeyNested
import KE.KDictCopyH
import HandS.TupAny
import HandS.TupMul
import HandS.Deep
import HandS.IsInst
import HandS.Conv
import HandS.TupLe
import HandS.Wide
import KE.DataCmp
import KE.DataMinMax
import KE.SortData
import PyProof.P3In
import HandS.Style
import HandS.Flow
import HandS.Iter
import HandS.Defaults
import KE.DataFind
import HandS.ExcIs
import HandS.Small
import PyProof.ListStr
import HandS.EndTab
import HandS.HeadHook4
import KE.KNestM
import PySem.Challenge.RW_cardtable_k39_whole_scores_of_contracts
import KE.KStateDown
import HandS.Head0
import HandS.Head1
import HandS.Head2
import HandS.HeadEnd
section T_V0
set_option Elab.async false
set_option linter.all false
set_option maxRecDepth 100000
set_option maxHeartbeats 4000000
/-! Ev, part 0: data D, how a value stands for a datum in the abstract heap (Rep), the state's items (Itm, SR). -/
namespace Ev
open PySem PySem.Spec PyProof.Rows L2

/-- a datum: a value as a tree. The flag of a list, a dict, an instance: nobody else holds it -/
inductive D where
  | non | bl (b : Bool) | int (i : Int) | str (x : Str)
  | tup (xs : List D)
  | lst (o : Bool) (xs : List D)
  | dct (o : Bool) (ks vs : List D)
  | ins (o : Bool) (c : Nat) (fs : List D)
  | fn (k : Nat)
  | exn (c : Nat) (a : List D)
  | thk
  deriving Inhabited

mutual
def D.beq : D → D → Bool
  | .non, .non => true
  | .bl a, .bl b => a == b
  | .int a, .int b => a == b
  | .str a, .str b => decide (a = b)
  | .tup a, .tup b => D.beqs a b
  | .lst o a, .lst p b => o == p && D.beqs a b
  | .dct o a b, .dct p a' b' => o == p && (D.beqs a a' && D.beqs b b')
  | .ins o c a, .ins p c' a' => o == p && (c == c' && D.beqs a a')
  | .fn a, .fn b => a == b
  | .exn a x, .exn b y => a == b && D.beqs x y
  | .thk, .thk => true
  | _, _ => false
def D.beqs : List D → List D → Bool
  | [], [] => true
  | a :: r, b :: s => D.beq a b && D.beqs r s
  | _, _ => false
end
mutual
theorem D.beq_eq : ∀ (a b : D), D.beq a b = true → a = b
  | .non, b, h => by cases b <;> simp_all [D.beq]
  | .bl x, b, h => by cases b <;> simp_all [D.beq]
  | .int x, b, h => by cases b <;> simp_all [D.beq]
  | .str x, b, h => by cases b <;> simp_all [D.beq]
  | .tup x, b, h => by
    cases b <;> simp only [D.beq, Bool.false_eq_true] at h
    rw [D.beqs_eq x _ h]
  | .lst o x, b, h => by
    cases b <;> simp only [D.beq, Bool.false_eq_true, Bool.and_eq_true, beq_iff_eq] at h
    rw [h.1, D.beqs_eq x _ h.2]
  | .dct o x y, b, h => by
    cases b <;> simp only [D.beq, Bool.false_eq_true, Bool.and_eq_true, beq_iff_eq] at h
    rw [h.1, D.beqs_eq x _ h.2.1, D.beqs_eq y _ h.2.2]
  | .ins o c x, b, h => by
    cases b <;> simp only [D.beq, Bool.false_eq_true, Bool.and_eq_true, beq_iff_eq] at h
    rw [h.1, h.2.1, D.beqs_eq x _ h.2.2]
  | .fn x, b, h => by cases b <;> simp_all [D.beq]
  | .exn c x, b, h => by
    cases b <;> simp only [D.beq, Bool.false_eq_true, Bool.and_eq_true, beq_iff_eq] at h
    rw [h.1, D.beqs_eq x _ h.2]
  | .thk, b, h => by cases b <;> simp_all [D.beq]
theorem D.beqs_eq : ∀ (a b : List D), D.beqs a b = true → a = b
  | [], b, h => by cases b <;> simp_all [D.beqs]
  | x :: r, b, h => by
    cases b <;> simp only [D.beqs, Bool.false_eq_true, Bool.and_eq_true] at h
    rw [D.beq_eq x _ h.1, D.beqs_eq r _ h.2]
end
mutual
theorem D.beq_refl : ∀ (a : D), D.beq a a = true
  | .non => rfl
  | .bl x => by simp [D.beq]
  | .int x => by simp [D.beq]
  | .str x => by simp [D.beq]
  | .tup x => by simp only [D.beq]; exact D.beqs_refl x
  | .lst o x => by simp only [D.beq, beq_self_eq_true, Bool.true_and]; exact D.beqs_refl x
  | .dct o x y => by simp only [D.beq, beq_self_eq_true, Bool.true_and, D.beqs_refl x, D.beqs_refl y]
  | .ins o c x => by simp only [D.beq, beq_self_eq_true, Bool.true_and]; exact D.beqs_refl x
  | .fn x => by simp [D.beq]
  | .exn c x => by simp only [D.beq, beq_self_eq_true, Bool.true_and]; exact D.beqs_refl x
  | .thk => rfl
theorem D.beqs_refl : ∀ (a : List D), D.beqs a a = true
  | [] => rfl
  | x :: r => by simp only [D.beqs, D.beq_refl x, D.beqs_refl r, Bool.and_self]
end
instance : DecidableEq D := fun a b =>
  if h : D.beq a b = true then .isTrue (D.beq_eq a b h) else .isFalse fun e => h (by rw [e]; exact D.beq_refl b)

mutual
/-- nothing in it is held alone -/
def noOwn : D → Bool
  | .tup xs => noOwns xs
  | .lst o xs => !o && noOwns xs
  | .dct o ks vs => !o && noOwns vs
  | .ins o _ fs => !o && noOwns fs
  | _ => true
def noOwns : List D → Bool
  | [] => true
  | x :: r => noOwn x && noOwns r
end
mutual
def freeze : D → D
  | .tup xs => .tup (freezes xs)
  | .lst _ xs => .lst false (freezes xs)
  | .dct _ ks vs => .dct false ks (freezes vs)
  | .ins _ c fs => .ins false c (freezes fs)
  | d => d
def freezes : List D → List D
  | [] => []
  | x :: r => freeze x :: freezes r
end
mutual
theorem freeze_noOwn : ∀ d : D, noOwn (freeze d) = true
  | .non => rfl
  | .bl _ => rfl
  | .int _ => rfl
  | .str _ => rfl
  | .tup xs => by simp only [freeze, noOwn]; exact freezes_noOwn xs
  | .lst _ xs => by simp only [freeze, noOwn, Bool.not_false, Bool.true_and]; exact freezes_noOwn xs
  | .dct _ _ xs => by simp only [freeze, noOwn, Bool.not_false, Bool.true_and]; exact freezes_noOwn xs
  | .ins _ _ xs => by simp only [freeze, noOwn, Bool.not_false, Bool.true_and]; exact freezes_noOwn xs
  | .fn _ => rfl
  | .exn _ _ => rfl
  | .thk => rfl
theorem freezes_noOwn : ∀ d : List D, noOwns (freezes d) = true
  | [] => rfl
  | x :: r => by simp only [freezes, noOwns, freeze_noOwn x, freezes_noOwn r, Bool.and_self]
end
mutual
theorem freeze_id : ∀ d : D, noOwn d = true → freeze d = d
  | .non, _ => rfl
  | .bl _, _ => rfl
  | .int _, _ => rfl
  | .str _, _ => rfl
  | .tup xs, h => by simp only [noOwn] at h; simp only [freeze, freezes_id xs h]
  | .lst o xs, h => by simp only [noOwn, Bool.and_eq_true, Bool.not_eq_true'] at h; simp only [freeze, freezes_id xs h.2, h.1]
  | .dct o _ xs, h => by simp only [noOwn, Bool.and_eq_true, Bool.not_eq_true'] at h; simp only [freeze, freezes_id xs h.2, h.1]
  | .ins o _ xs, h => by simp only [noOwn, Bool.and_eq_true, Bool.not_eq_true'] at h; simp only [freeze, freezes_id xs h.2, h.1]
  | .fn _, _ => rfl
  | .exn _ _, _ => rfl
  | .thk, _ => rfl
theorem freezes_id : ∀ d : List D, noOwns d = true → freezes d = d
  | [], _ => rfl
  | x :: r, h => by simp only [noOwns, Bool.and_eq_true] at h; simp only [freezes, freeze_id x h.1, freezes_id r h.2]
end
theorem noOwns_iff : ∀ l : List D, noOwns l = true ↔ ∀ x ∈ l, noOwn x = true
  | [] => by simp [noOwns]
  | x :: r => by simp [noOwns, noOwns_iff r]
theorem freezes_eq : ∀ l : List D, freezes l = l.map freeze
  | [] => rfl
  | x :: r => by simp [freezes, freezes_eq r]
theorem freezes_length (l : List D) : (freezes l).length = l.length := by rw [freezes_eq, List.length_map]

/-- what the program has written: the addresses of its defs and classes, names of the attributes of its own classes -/
structure Gl where
  P : Program
  w : World
  K : PySem.W.Frag
  fa : Nat → Addr
  ca : Nat → Addr
  fld : Nat → List Str
  /-- the attribute of an own exception that has one -/
  xf : Nat → Str
  mg : Str → Option Value
  base : Heap
  /-- the tables of code objects, by the names of the lambdas -/
  T : List (Addr × Str)

/-! ### dicts: keys -/
def leafOf : D → Option Leaf
  | .int i => some (Leaf.num i)
  | .str x => some (Leaf.text x)
  | .non => some Leaf.none
  | _ => none
mutual
def keyOf : D → Option NestedKey
  | .int i => some (NestedKey.num i)
  | .str x => some (NestedKey.text x)
  | .non => some NestedKey.none
  | .tup xs => (keysOf xs).map NestedKey.tup
  | _ => none
def keysOf : List D → Option (List NestedKey)
  | [] => some []
  | x :: r => match keyOf x, keysOf r with
    | some k, some ks => some (k :: ks)
    | _, _ => none
end
mutual
def KRep (K : PySem.W.Frag) (H : Hp) : NestedKey → V → Prop
  | .none, v => v = .non
  | .num i, v => v = .int i
  | .text x, v => v = .str x
  | .tup ks, v => ∃ a vs, v = .ref a ∧ SqT K H a vs ∧ KReps K H ks vs
def KReps (K : PySem.W.Frag) (H : Hp) : List NestedKey → List V → Prop
  | [], vs => vs = []
  | k :: ks, vs => ∃ v r, vs = v :: r ∧ KRep K H k v ∧ KReps K H ks r
end
def dLf (P : Program) (w : World) (a : Addr) (kvs : List (Leaf × V)) : HO := .ext fun h => kvs.length ≤ sizeLine ∧ (a == sysModules) = false ∧ ∃ vs, KV kvs vs ∧ h.DictOf (leafKind P w) a vs
def dTp (P : Program) (w : World) (a : Addr) (xs : List (NestedKey × Addr × V)) : HO := .ext fun h => xs.length ≤ sizeLine ∧ (a == sysModules) = false ∧
  ∃ ys : List (NestedKey × Addr × Value), Paired (fun (p : NestedKey × Addr × V) (q : NestedKey × Addr × Value) => p.1 = q.1 ∧ p.2.1 = q.2.1 ∧ RelV p.2.2 q.2.2) xs ys ∧
    ∃ o es ep, h.get? a = some o ∧ o.ExactDict ∧ o.data = .dict es ep ∧ es.toList = ys.map (entryOfKey (nestedKind P w)) ∧ (ys.map (·.1)).Nodup
/-- what ho tells of the dict at a: its keys, its values -/
def DOk (G : Gl) (H : Hp) (a : Addr) (ho : HO) (ks : List D) (us : List V) : Prop :=
  (∃ kvs : List (Leaf × V), ho = dLf G.P G.w a kvs ∧ ks.map leafOf = kvs.map (fun p => some p.1) ∧ us = kvs.map (·.2)) ∨
  (∃ xs : List (NestedKey × Addr × V), ho = dTp G.P G.w a xs ∧ ks.map keyOf = xs.map (fun p => some p.1) ∧ (∀ x ∈ xs, KRep G.K H x.1 (.ref x.2.1) ∧ x.1.depth ≤ 8) ∧ us = xs.map (·.2.2))

/-- a list that is shared: known to the heap, or an object of the module -/
def KL (K : PySem.W.Frag) (a : Addr) (vs : List V) : Prop := ∃ (o : Obj) (its : Array Value) (n : Nat), K.lookup a = some o ∧ o.cls = .type "list" ∧ o.dict = none ∧ o.data = .seq its n ∧ its.size ≤ sizeLine ∧ Vals vs its.toList
def FL (K : PySem.W.Frag) (H : Hp) (Z : Addr → Prop) (a : Addr) (vs : List V) : Prop := (Rd H a (.lst vs) ∧ Z a) ∨ KL K a vs
/-! ### a value stands for a datum -/
mutual
def Rep (G : Gl) (H : Hp) (Z : Addr → Prop) : D → V → List Addr → Prop
  | .non, v, F => v = .non ∧ F = []
  | .bl b, v, F => v = .bl b ∧ F = []
  | .int i, v, F => v = .int i ∧ F = []
  | .str x, v, F => v = .str x ∧ F = []
  | .fn k, v, F => v = .ref (G.fa k) ∧ F = []
  | .exn _ _, v, F => (∃ a, v = .ref a) ∧ F = []
  | .thk, v, F => (∃ a, v = .ref a) ∧ F = []
  | .tup xs, v, F => ∃ a vs, v = .ref a ∧ SqT G.K H a vs ∧ Reps G H Z xs vs F
  | .lst o xs, v, F => ∃ a vs F', v = .ref a ∧ Reps G H Z xs vs F' ∧
      if o = true then H a = some (.lst vs) ∧ ¬ Z a ∧ F = a :: F' else FL G.K H Z a vs ∧ F' = [] ∧ F = []
  | .dct o ks ds, v, F => ∃ a ho vs F', v = .ref a ∧ DOk G H a ho ks vs ∧ Reps G H Z ds vs F' ∧
      if o = true then H a = some ho ∧ ¬ Z a ∧ F = a :: F' else Rd H a ho ∧ Z a ∧ F' = [] ∧ F = []
  | .ins o c ds, v, F => ∃ a dx vs F', v = .ref a ∧ Reps G H Z ds vs F' ∧ ds.length = (G.fld c).length ∧
      if o = true then H a = some (.ins (G.ca c) dx ((G.fld c).zip vs)) ∧ ¬ Z a ∧ F = a :: F' else Rd H a (.ins (G.ca c) dx ((G.fld c).zip vs)) ∧ Z a ∧ F' = [] ∧ F = []
def Reps (G : Gl) (H : Hp) (Z : Addr → Prop) : List D → List V → List Addr → Prop
  | [], vs, F => vs = [] ∧ F = []
  | x :: xs, vs, F => ∃ v r F1 F2, vs = v :: r ∧ F = F1 ++ F2 ∧ Rep G H Z x v F1 ∧ Reps G H Z xs r F2
end
end Ev

end T_V0
section T_V1
set_option Elab.async false
set_option linter.all false
set_option maxRecDepth 100000
set_option maxHeartbeats 4000000
/-! Ev, part 1: laws of Rep; items of a state. -/
namespace Ev
open PySem PySem.Spec PyProof.Rows L2

theorem Reps_length {G : Gl} {H : Hp} {Z : Addr → Prop} : ∀ {xs : List D} {vs : List V} {F : List Addr}, Reps G H Z xs vs F → xs.length = vs.length
  | [], _, _, h => by simp only [Reps] at h; rw [h.1]; rfl
  | x :: xs, _, _, h => by
    simp only [Reps] at h
    obtain ⟨v, r, F1, F2, rfl, _, _, h2⟩ := h
    simp only [List.length_cons, Reps_length h2]

/-- an object that is neither a tuple nor locked nor of a code object -/
def NT (o : HO) : Prop := (∀ xs, o ≠ .tup xs) ∧ (∀ ob u, o ≠ .frz ob u) ∧ (∀ ps, o ≠ .tbl ps) ∧ ∀ c q, o ≠ LamX.CodeO c q
theorem nt_lst (vs : List V) : NT (.lst vs) := ⟨fun _ z => (nomatch z), fun _ _ z => (nomatch z), fun _ z => (nomatch z), fun _ _ z => by unfold LamX.CodeO at z; cases z⟩
theorem nt_ins (C dx : Addr) (fs : List (Str × V)) : NT (.ins C dx fs) := ⟨fun _ z => (nomatch z), fun _ _ z => (nomatch z), fun _ z => (nomatch z), fun _ _ z => by unfold LamX.CodeO at z; cases z⟩
/-- a heap of one object over and over -/
def manyObj (n : Nat) (o : Obj) : Heap := { (default : Heap) with objs := Array.replicate n o }
theorem manyObj_get {n : Nat} {c : Value} {vs : Array Value} {a : Addr} : (manyObj n { cls := c, data := .fields vs }).get? a = if a < n then some { cls := c, data := .fields vs } else none := by
  show Heap.get? (manyObj n _) a = _
  unfold Heap.get? manyObj
  simp only [Array.getElem?_replicate]
  by_cases h : a < n
  · simp only [if_pos h]
  · simp only [if_neg h]
theorem ext_ne_code {a : Addr} {φ : Heap → Prop} (h : ∀ hp, φ hp → ∃ o es ep, hp.get? a = some o ∧ o.data = .dict es ep) (c : Addr) (q : Str) : HO.ext φ ≠ LamX.CodeO c q := by
  intro z
  unfold LamX.CodeO at z
  injection z with z
  have t : (∃ (oc : Obj) (vs : Array Value) (t : Tok), (manyObj (c + 1) { cls := .none, data := .fields #[.none, .str q 0] }).get? c = some oc ∧ oc.data = .fields vs ∧ vs[1]? = some (.str q t)) := by
    refine ⟨{ cls := .none, data := .fields #[.none, .str q 0] }, #[.none, .str q 0], 0, ?_, rfl, rfl⟩
    rw [manyObj_get, if_pos (Nat.lt_succ_self c)]
  have t2 : φ (manyObj (c + 1) { cls := .none, data := .fields #[.none, .str q 0] }) := by rw [z]; exact t
  obtain ⟨o, es, ep, h1, h2⟩ := h _ t2
  rw [manyObj_get] at h1
  split at h1
  · cases h1; cases h2
  · cases h1
theorem nt_ext {a : Addr} {φ : Heap → Prop} (h : ∀ hp, φ hp → ∃ o es ep, hp.get? a = some o ∧ o.data = .dict es ep) : NT (.ext φ) := ⟨fun _ z => (nomatch z), fun _ _ z => (nomatch z), fun _ z => (nomatch z), ext_ne_code h⟩
theorem nt_dLf (P : Program) (w : World) (a : Addr) (kvs : List (Leaf × V)) : NT (dLf P w a kvs) := nt_ext (a := a) fun hp ⟨_, _, vs, _, o, es, ep, h1, h2, h3, _⟩ => ⟨o, es, ep, h1, h3⟩
theorem nt_dTp (P : Program) (w : World) (a : Addr) (xs : List (NestedKey × Addr × V)) : NT (dTp P w a xs) := nt_ext (a := a) fun hp ⟨_, _, ys, _, o, es, ep, h1, h2, h3, _⟩ => ⟨o, es, ep, h1, h3⟩
theorem DOk.nt {G : Gl} {H : Hp} {a : Addr} {ho : HO} {ks : List D} {us : List V} (h : DOk G H a ho ks us) : NT ho := by
  rcases h with ⟨_, e, _⟩ | ⟨_, e, _⟩ <;> subst e
  · exact nt_dLf _ _ _ _
  · exact nt_dTp _ _ _ _
theorem DOk.mut {G : Gl} {H : Hp} {a : Addr} {ho : HO} {ks : List D} {us : List V} (h : DOk G H a ho ks us) : Mut (some ho) := by
  rcases h with ⟨_, e, _⟩ | ⟨_, e, _⟩ <;> subst e <;> trivial
/-- how H goes over into H', Z into Z', for what stands at F -/
structure Mv (G : Gl) (H H' : Hp) (Z Z' : Addr → Prop) (F : List Addr) : Prop where
  tup : ∀ a vs, SqT G.K H a vs → SqT G.K H' a vs
  frz : ∀ a u, NT u → Z a → Rd H a u → Z' a ∧ Rd H' a u
  own : ∀ a ∈ F, (∀ o, H a = some o → H' a = some o) ∧ ¬ Z' a
theorem Mv.sub {G : Gl} {H H' : Hp} {Z Z' : Addr → Prop} {F F' : List Addr} (m : Mv G H H' Z Z' F) (h : ∀ a ∈ F', a ∈ F) : Mv G H H' Z Z' F' := ⟨m.tup, m.frz, fun a ha => m.own a (h a ha)⟩

mutual
theorem KRep.mv {K : PySem.W.Frag} {H H' : Hp} (t : ∀ a vs, SqT K H a vs → SqT K H' a vs) : ∀ (k : NestedKey) (v : V), KRep K H k v → KRep K H' k v
  | .none, v, h => by simp only [KRep] at h ⊢; exact h
  | .num i, v, h => by simp only [KRep] at h ⊢; exact h
  | .text x, v, h => by simp only [KRep] at h ⊢; exact h
  | .tup ks, v, h => by
    simp only [KRep] at h ⊢
    obtain ⟨a, vs, e, s, r⟩ := h
    exact ⟨a, vs, e, t a vs s, KReps.mv t ks vs r⟩
theorem KReps.mv {K : PySem.W.Frag} {H H' : Hp} (t : ∀ a vs, SqT K H a vs → SqT K H' a vs) : ∀ (k : List NestedKey) (v : List V), KReps K H k v → KReps K H' k v
  | [], v, h => by simp only [KReps] at h ⊢; exact h
  | k :: ks, v, h => by
    simp only [KReps] at h ⊢
    obtain ⟨v, r, e, s, q⟩ := h
    exact ⟨v, r, e, KRep.mv t k v s, KReps.mv t ks r q⟩
end
theorem DOk.mv {G : Gl} {H H' : Hp} (t : ∀ a vs, SqT G.K H a vs → SqT G.K H' a vs) {a : Addr} {ho : HO} {ks : List D} {us : List V} (h : DOk G H a ho ks us) : DOk G H' a ho ks us := by
  rcases h with h | ⟨xs, e, hk, hr, hu⟩
  · exact .inl h
  · exact .inr ⟨xs, e, hk, fun x hx => ⟨KRep.mv t _ _ (hr x hx).1, (hr x hx).2⟩, hu⟩

mutual
theorem Rep.mv {G : Gl} {H H' : Hp} {Z Z' : Addr → Prop} : ∀ (d : D) (v : V) (F : List Addr), Mv G H H' Z Z' F → Rep G H Z d v F → Rep G H' Z' d v F
  | .non, v, F, m, h => by simp only [Rep] at h ⊢; exact h
  | .bl b, v, F, m, h => by simp only [Rep] at h ⊢; exact h
  | .int i, v, F, m, h => by simp only [Rep] at h ⊢; exact h
  | .str x, v, F, m, h => by simp only [Rep] at h ⊢; exact h
  | .fn k, v, F, m, h => by simp only [Rep] at h ⊢; exact h
  | .exn c a, v, F, m, h => by simp only [Rep] at h ⊢; exact h
  | .thk, v, F, m, h => by simp only [Rep] at h ⊢; exact h
  | .tup xs, v, F, m, h => by
    simp only [Rep] at h ⊢
    obtain ⟨a, vs, e, s, r⟩ := h
    exact ⟨a, vs, e, m.tup a vs s, Reps.mv xs vs F m r⟩
  | .lst o xs, v, F, m, h => by
    simp only [Rep] at h ⊢
    obtain ⟨a, vs, F', e, r, c⟩ := h
    cases o with
    | true =>
      simp only [if_true] at c ⊢
      obtain ⟨c1, c2, rfl⟩ := c
      exact ⟨a, vs, F', e, Reps.mv xs vs F' (m.sub fun b hb => List.mem_cons_of_mem _ hb) r, (m.own a List.mem_cons_self).1 _ c1, (m.own a List.mem_cons_self).2, rfl⟩
    | false =>
      simp only [Bool.false_eq_true, if_false] at c ⊢
      obtain ⟨c1, rfl, rfl⟩ := c
      refine ⟨a, vs, [], e, Reps.mv xs vs [] m r, ?_, rfl, rfl⟩
      rcases c1 with ⟨c1, c2⟩ | c1
      · obtain ⟨z1, z2⟩ := m.frz a _ (nt_lst _) c2 c1
        exact .inl ⟨z2, z1⟩
      · exact .inr c1
  | .dct o ks xs, v, F, m, h => by
    simp only [Rep] at h ⊢
    obtain ⟨a, ho, vs, F', e, dk, r, c⟩ := h
    cases o with
    | true =>
      simp only [if_true] at c ⊢
      obtain ⟨c1, c2, rfl⟩ := c
      exact ⟨a, ho, vs, F', e, dk.mv m.tup, Reps.mv xs vs F' (m.sub fun b hb => List.mem_cons_of_mem _ hb) r, (m.own a List.mem_cons_self).1 _ c1, (m.own a List.mem_cons_self).2, rfl⟩
    | false =>
      simp only [Bool.false_eq_true, if_false] at c ⊢
      obtain ⟨c1, c2, rfl, rfl⟩ := c
      obtain ⟨z1, z2⟩ := m.frz a _ dk.nt c2 c1
      exact ⟨a, ho, vs, [], e, dk.mv m.tup, Reps.mv xs vs [] m r, z2, z1, rfl, rfl⟩
  | .ins o k xs, v, F, m, h => by
    simp only [Rep] at h ⊢
    obtain ⟨a, dx, vs, F', e, r, l, c⟩ := h
    cases o with
    | true =>
      simp only [if_true] at c ⊢
      obtain ⟨c1, c2, rfl⟩ := c
      exact ⟨a, dx, vs, F', e, Reps.mv xs vs F' (m.sub fun b hb => List.mem_cons_of_mem _ hb) r, l, (m.own a List.mem_cons_self).1 _ c1, (m.own a List.mem_cons_self).2, rfl⟩
    | false =>
      simp only [Bool.false_eq_true, if_false] at c ⊢
      obtain ⟨c1, c2, rfl, rfl⟩ := c
      obtain ⟨z1, z2⟩ := m.frz a _ (nt_ins _ _ _) c2 c1
      exact ⟨a, dx, vs, [], e, Reps.mv xs vs [] m r, l, z2, z1, rfl, rfl⟩
theorem Reps.mv {G : Gl} {H H' : Hp} {Z Z' : Addr → Prop} : ∀ (d : List D) (v : List V) (F : List Addr), Mv G H H' Z Z' F → Reps G H Z d v F → Reps G H' Z' d v F
  | [], v, F, m, h => by simp only [Reps] at h ⊢; exact h
  | x :: xs, v, F, m, h => by
    simp only [Reps] at h ⊢
    obtain ⟨v, r, F1, F2, e1, e2, h1, h2⟩ := h
    subst e2
    exact ⟨v, r, F1, F2, e1, rfl, Rep.mv x v F1 (m.sub fun b hb => List.mem_append_left _ hb) h1, Reps.mv xs r F2 (m.sub fun b hb => List.mem_append_right _ hb) h2⟩
end

mutual
theorem Rep.own {G : Gl} {H : Hp} {Z : Addr → Prop} : ∀ (d : D) (v : V) (F : List Addr), Rep G H Z d v F → ∀ a ∈ F, ¬ Z a ∧ ∃ o, H a = some o ∧ NT o
  | .non, v, F, h => by simp only [Rep] at h; rw [h.2]; simp
  | .bl b, v, F, h => by simp only [Rep] at h; rw [h.2]; simp
  | .int i, v, F, h => by simp only [Rep] at h; rw [h.2]; simp
  | .str x, v, F, h => by simp only [Rep] at h; rw [h.2]; simp
  | .fn k, v, F, h => by simp only [Rep] at h; rw [h.2]; simp
  | .exn c a, v, F, h => by simp only [Rep] at h; rw [h.2]; simp
  | .thk, v, F, h => by simp only [Rep] at h; rw [h.2]; simp
  | .tup xs, v, F, h => by
    simp only [Rep] at h
    obtain ⟨a, vs, e, s, r⟩ := h
    exact Reps.own xs vs F r
  | .lst o xs, v, F, h => by
    simp only [Rep] at h
    obtain ⟨a, vs, F', e, r, c⟩ := h
    cases o with
    | true =>
      simp only [if_true] at c
      obtain ⟨c1, c2, rfl⟩ := c
      intro b hb
      rcases List.mem_cons.mp hb with rfl | hb
      · exact ⟨c2, _, c1, nt_lst _⟩
      · exact Reps.own xs vs F' r b hb
    | false =>
      simp only [Bool.false_eq_true, if_false] at c
      rw [c.2.2]; simp
  | .dct o ks xs, v, F, h => by
    simp only [Rep] at h
    obtain ⟨a, ho, vs, F', e, dk, r, c⟩ := h
    cases o with
    | true =>
      simp only [if_true] at c
      obtain ⟨c1, c2, rfl⟩ := c
      intro b hb
      rcases List.mem_cons.mp hb with rfl | hb
      · exact ⟨c2, _, c1, dk.nt⟩
      · exact Reps.own xs vs F' r b hb
    | false =>
      simp only [Bool.false_eq_true, if_false] at c
      rw [c.2.2.2]; simp
  | .ins o k xs, v, F, h => by
    simp only [Rep] at h
    obtain ⟨a, dx, vs, F', e, r, l, c⟩ := h
    cases o with
    | true =>
      simp only [if_true] at c
      obtain ⟨c1, c2, rfl⟩ := c
      intro b hb
      rcases List.mem_cons.mp hb with rfl | hb
      · exact ⟨c2, _, c1, nt_ins _ _ _⟩
      · exact Reps.own xs vs F' r b hb
    | false =>
      simp only [Bool.false_eq_true, if_false] at c
      rw [c.2.2.2]; simp
theorem Reps.own {G : Gl} {H : Hp} {Z : Addr → Prop} : ∀ (d : List D) (v : List V) (F : List Addr), Reps G H Z d v F → ∀ a ∈ F, ¬ Z a ∧ ∃ o, H a = some o ∧ NT o
  | [], v, F, h => by simp only [Reps] at h; rw [h.2]; simp
  | x :: xs, v, F, h => by
    simp only [Reps] at h
    obtain ⟨v, r, F1, F2, e1, e2, h1, h2⟩ := h
    subst e2
    intro a ha
    rcases List.mem_append.mp ha with ha | ha
    · exact Rep.own x v F1 h1 a ha
    · exact Reps.own xs r F2 h2 a ha
end
mutual
theorem Rep.nil {G : Gl} {H : Hp} {Z : Addr → Prop} : ∀ (d : D) (v : V) (F : List Addr), noOwn d = true → Rep G H Z d v F → F = []
  | .non, v, F, _, h => by simp only [Rep] at h; exact h.2
  | .bl b, v, F, _, h => by simp only [Rep] at h; exact h.2
  | .int i, v, F, _, h => by simp only [Rep] at h; exact h.2
  | .str x, v, F, _, h => by simp only [Rep] at h; exact h.2
  | .fn k, v, F, _, h => by simp only [Rep] at h; exact h.2
  | .exn c a, v, F, _, h => by simp only [Rep] at h; exact h.2
  | .thk, v, F, _, h => by simp only [Rep] at h; exact h.2
  | .tup xs, v, F, n, h => by
    simp only [Rep] at h; simp only [noOwn] at n
    obtain ⟨a, vs, e, s, r⟩ := h
    exact Reps.nil xs vs F n r
  | .lst o xs, v, F, n, h => by
    simp only [Rep] at h; simp only [noOwn, Bool.and_eq_true, Bool.not_eq_true'] at n
    obtain ⟨a, vs, F', e, r, c⟩ := h
    rw [n.1] at c
    simp only [Bool.false_eq_true, if_false] at c
    exact c.2.2
  | .dct o ks xs, v, F, n, h => by
    simp only [Rep] at h; simp only [noOwn, Bool.and_eq_true, Bool.not_eq_true'] at n
    obtain ⟨a, ho, vs, F', e, dk, r, c⟩ := h
    rw [n.1] at c
    simp only [Bool.false_eq_true, if_false] at c
    exact c.2.2.2
  | .ins o k xs, v, F, n, h => by
    simp only [Rep] at h; simp only [noOwn, Bool.and_eq_true, Bool.not_eq_true'] at n
    obtain ⟨a, dx, vs, F', e, r, l, c⟩ := h
    rw [n.1] at c
    simp only [Bool.false_eq_true, if_false] at c
    exact c.2.2.2
theorem Reps.nil {G : Gl} {H : Hp} {Z : Addr → Prop} : ∀ (d : List D) (v : List V) (F : List Addr), noOwns d = true → Reps G H Z d v F → F = []
  | [], v, F, _, h => by simp only [Reps] at h; exact h.2
  | x :: xs, v, F, n, h => by
    simp only [Reps] at h; simp only [noOwns, Bool.and_eq_true] at n
    obtain ⟨v, r, F1, F2, e1, e2, h1, h2⟩ := h
    rw [e2, Rep.nil x v F1 n.1 h1, Reps.nil xs r F2 n.2 h2]; rfl
end
mutual
theorem Rep.frz {G : Gl} {H : Hp} {Z Z' : Addr → Prop} (hz : ∀ a, Z a → Z' a) : ∀ (d : D) (v : V) (F : List Addr), (∀ a ∈ F, Z' a) → Rep G H Z d v F → Rep G H Z' (freeze d) v []
  | .non, v, F, _, h => by simp only [Rep] at h; simp only [freeze, Rep]; exact ⟨h.1, trivial⟩
  | .bl b, v, F, _, h => by simp only [Rep] at h; simp only [freeze, Rep]; exact ⟨h.1, trivial⟩
  | .int i, v, F, _, h => by simp only [Rep] at h; simp only [freeze, Rep]; exact ⟨h.1, trivial⟩
  | .str x, v, F, _, h => by simp only [Rep] at h; simp only [freeze, Rep]; exact ⟨h.1, trivial⟩
  | .fn k, v, F, _, h => by simp only [Rep] at h; simp only [freeze, Rep]; exact ⟨h.1, trivial⟩
  | .exn c a, v, F, _, h => by simp only [Rep] at h; simp only [freeze, Rep]; exact ⟨h.1, trivial⟩
  | .thk, v, F, _, h => by simp only [Rep] at h; simp only [freeze, Rep]; exact ⟨h.1, trivial⟩
  | .tup xs, v, F, m, h => by
    simp only [freeze, Rep] at h ⊢
    obtain ⟨a, vs, e, s, r⟩ := h
    exact ⟨a, vs, e, s, Reps.frz hz xs vs F m r⟩
  | .lst o xs, v, F, m, h => by
    simp only [freeze, Rep] at h ⊢
    obtain ⟨a, vs, F', e, r, c⟩ := h
    cases o with
    | true =>
      simp only [if_true] at c
      obtain ⟨c1, c2, rfl⟩ := c
      simp only [Bool.false_eq_true, if_false]
      exact ⟨a, vs, [], e, Reps.frz hz xs vs F' (fun b hb => m b (List.mem_cons_of_mem _ hb)) r, .inl ⟨.inl c1, m a List.mem_cons_self⟩, rfl, trivial⟩
    | false =>
      simp only [Bool.false_eq_true, if_false] at c ⊢
      obtain ⟨c1, rfl, rfl⟩ := c
      exact ⟨a, vs, [], e, Reps.frz hz xs vs [] m r, c1.imp (fun ⟨x, y⟩ => ⟨x, hz a y⟩) id, rfl, trivial⟩
  | .dct o ks xs, v, F, m, h => by
    simp only [freeze, Rep] at h ⊢
    obtain ⟨a, ho, vs, F', e, dk, r, c⟩ := h
    cases o with
    | true =>
      simp only [if_true] at c
      obtain ⟨c1, c2, rfl⟩ := c
      simp only [Bool.false_eq_true, if_false]
      exact ⟨a, ho, vs, [], e, dk, Reps.frz hz xs vs F' (fun b hb => m b (List.mem_cons_of_mem _ hb)) r, .inl c1, m a List.mem_cons_self, rfl, trivial⟩
    | false =>
      simp only [Bool.false_eq_true, if_false] at c ⊢
      obtain ⟨c1, c2, rfl, rfl⟩ := c
      exact ⟨a, ho, vs, [], e, dk, Reps.frz hz xs vs [] m r, c1, hz a c2, rfl, trivial⟩
  | .ins o k xs, v, F, m, h => by
    simp only [freeze, Rep] at h ⊢
    obtain ⟨a, dx, vs, F', e, r, l, c⟩ := h
    cases o with
    | true =>
      simp only [if_true] at c
      obtain ⟨c1, c2, rfl⟩ := c
      simp only [Bool.false_eq_true, if_false]
      exact ⟨a, dx, vs, [], e, Reps.frz hz xs vs F' (fun b hb => m b (List.mem_cons_of_mem _ hb)) r, by rw [freezes_length]; exact l, .inl c1, m a List.mem_cons_self, rfl, trivial⟩
    | false =>
      simp only [Bool.false_eq_true, if_false] at c ⊢
      obtain ⟨c1, c2, rfl, rfl⟩ := c
      exact ⟨a, dx, vs, [], e, Reps.frz hz xs vs [] m r, by rw [freezes_length]; exact l, c1, hz a c2, rfl, trivial⟩
theorem Reps.frz {G : Gl} {H : Hp} {Z Z' : Addr → Prop} (hz : ∀ a, Z a → Z' a) : ∀ (d : List D) (v : List V) (F : List Addr), (∀ a ∈ F, Z' a) → Reps G H Z d v F → Reps G H Z' (freezes d) v []
  | [], v, F, _, h => by simp only [Reps] at h; simp only [freezes, Reps]; exact ⟨h.1, trivial⟩
  | x :: xs, v, F, m, h => by
    simp only [Reps] at h; simp only [freezes, Reps]
    obtain ⟨v, r, F1, F2, e1, e2, h1, h2⟩ := h
    subst e2
    exact ⟨v, r, [], [], e1, rfl, Rep.frz hz x v F1 (fun b hb => m b (List.mem_append_left _ hb)) h1, Reps.frz hz xs r F2 (fun b hb => m b (List.mem_append_right _ hb)) h2⟩
end
end Ev

end T_V1
section T_V2
set_option Elab.async false
set_option linter.all false
set_option maxRecDepth 100000
set_option maxHeartbeats 4000000
/-! Ev, part 2: the items of a state, what may be done to them. -/
namespace Ev
open PySem PySem.Spec PyProof.Rows L2

inductive Itm where
  /-- the value v stands for d -/
  | dv (d : D) (v : V)
  /-- o stands at a, held alone; its items are told apart -/
  | raw (a : Addr) (o : HO)
  | tupf (a : Addr) (vs : List V)
  | frzf (a : Addr) (u : HO)
  /-- a table of code objects -/
  | tab (p : Addr) (q : Str)
  /-- a code object -/
  | code (c : Addr) (q : Str)
  | bad
abbrev TabS := LamX.TabS
def IRep (G : Gl) (H : Hp) (Z : Addr → Prop) : Itm → List Addr → Prop
  | .dv d v, F => Rep G H Z d v F
  | .raw a o, F => H a = some o ∧ NT o ∧ ¬ Z a ∧ F = [a]
  | .tupf a vs, F => SqT G.K H a vs ∧ F = []
  | .frzf a u, F => NT u ∧ Rd H a u ∧ Z a ∧ F = []
  | .tab p q, F => TabS H p q ∧ (p, q) ∈ G.T ∧ F = []
  | .code c q, F => H c = some (LamX.CodeO c q) ∧ F = []
  | .bad, _ => False
def Its (G : Gl) (H : Hp) (Z : Addr → Prop) : List Itm → List Addr → Prop
  | [], F => F = []
  | i :: L, F => ∃ F1 F2, F = F1 ++ F2 ∧ IRep G H Z i F1 ∧ Its G H Z L F2
/-- the items stand apart in H -/
def SRz (G : Gl) (H : Hp) (Z : Addr → Prop) (L : List Itm) (F : List Addr) : Prop := Its G H Z L F ∧ F.Nodup
def SR (G : Gl) (H : Hp) (L : List Itm) : Prop := ∃ Z F, SRz G H Z L F

section
variable {G : Gl} {H H' : Hp} {Z Z' : Addr → Prop} {L M : List Itm} {F : List Addr} {i : Itm} {d : D} {v : V}

structure MvI (G : Gl) (H H' : Hp) (Z Z' : Addr → Prop) (F : List Addr) : Prop extends Mv G H H' Z Z' F where
  tb : ∀ p q, (p, q) ∈ G.T → TabS H p q → TabS H' p q
  cd : ∀ c q, H c = some (LamX.CodeO c q) → H' c = some (LamX.CodeO c q)
theorem MvI.sub {F' : List Addr} (m : MvI G H H' Z Z' F) (h : ∀ a ∈ F', a ∈ F) : MvI G H H' Z Z' F' := ⟨m.toMv.sub h, m.tb, m.cd⟩
theorem IRep.mv {i : Itm} {F : List Addr} (m : MvI G H H' Z Z' F) (h : IRep G H Z i F) : IRep G H' Z' i F := by
  cases i with
  | dv d v => exact Rep.mv d v F m.toMv h
  | raw a o =>
    obtain ⟨h1, h2, h3, rfl⟩ := h
    exact ⟨(m.own a List.mem_cons_self).1 _ h1, h2, (m.own a List.mem_cons_self).2, rfl⟩
  | tupf a vs => exact ⟨m.tup _ _ h.1, h.2⟩
  | frzf a u => obtain ⟨h0, h1, h2, h3⟩ := h; exact ⟨h0, (m.frz a u h0 h2 h1).2, (m.frz a u h0 h2 h1).1, h3⟩
  | tab p q => exact ⟨m.tb _ _ h.2.1 h.1, h.2⟩
  | code c q => exact ⟨m.cd _ _ h.1, h.2⟩
  | bad => exact h
theorem Its.mv : ∀ {L : List Itm} {F : List Addr}, MvI G H H' Z Z' F → Its G H Z L F → Its G H' Z' L F
  | [], F, m, h => h
  | i :: L, F, m, h => by
    obtain ⟨F1, F2, e, h1, h2⟩ := h
    subst e
    exact ⟨F1, F2, rfl, IRep.mv (m.sub fun b hb => List.mem_append_left _ hb) h1, Its.mv (m.sub fun b hb => List.mem_append_right _ hb) h2⟩
theorem IRep.own {i : Itm} {F : List Addr} (h : IRep G H Z i F) : ∀ a ∈ F, ¬ Z a ∧ ∃ o, H a = some o ∧ NT o := by
  cases i with
  | dv d v => exact Rep.own d v F h
  | raw a o =>
    obtain ⟨h1, h2, h3, rfl⟩ := h
    intro b hb
    have : b = a := by simpa using hb
    subst this
    exact ⟨h3, o, h1, h2⟩
  | tupf a vs => rw [h.2]; simp
  | frzf a u => rw [h.2.2.2]; simp
  | tab p q => rw [h.2.2]; simp
  | code c q => rw [h.2]; simp
  | bad => exact h.elim
theorem Its.own : ∀ {L : List Itm} {F : List Addr}, Its G H Z L F → ∀ a ∈ F, ¬ Z a ∧ ∃ o, H a = some o ∧ NT o
  | [], F, h => by have h : F = [] := h; rw [h]; simp
  | i :: L, F, h => by
    obtain ⟨F1, F2, e, h1, h2⟩ := h
    subst e
    intro a ha
    rcases List.mem_append.mp ha with ha | ha
    · exact IRep.own h1 a ha
    · exact Its.own h2 a ha
theorem Its.app : ∀ {L M : List Itm} {F : List Addr}, Its G H Z (L ++ M) F ↔ ∃ F1 F2, F = F1 ++ F2 ∧ Its G H Z L F1 ∧ Its G H Z M F2
  | [], M, F => by
    constructor
    · intro h; exact ⟨[], F, rfl, rfl, h⟩
    · rintro ⟨F1, F2, rfl, h1, h2⟩
      have h1 : F1 = [] := h1
      subst h1; exact h2
  | i :: L, M, F => by
    constructor
    · rintro ⟨F1, F2, rfl, h1, h2⟩
      obtain ⟨F3, F4, rfl, h3, h4⟩ := Its.app.mp h2
      exact ⟨F1 ++ F3, F4, by simp, ⟨F1, F3, rfl, h1, h3⟩, h4⟩
    · rintro ⟨F1, F2, rfl, ⟨F3, F4, rfl, h1, h2⟩, h3⟩
      exact ⟨F3, F4 ++ F2, by simp, h1, Its.app.mpr ⟨F4, F2, rfl, h2, h3⟩⟩
theorem Its.perm {L M : List Itm} (p : L.Perm M) : ∀ {F : List Addr}, Its G H Z L F → ∃ F', Its G H Z M F' ∧ F.Perm F' := by
  induction p with
  | nil => intro F h; exact ⟨F, h, .refl _⟩
  | cons i _ ih =>
    rintro F ⟨F1, F2, rfl, h1, h2⟩
    obtain ⟨F3, h3, q⟩ := ih h2
    exact ⟨F1 ++ F3, ⟨F1, F3, rfl, h1, h3⟩, List.Perm.append_left _ q⟩
  | swap i j L =>
    rintro F ⟨F1, F2, rfl, h1, F3, F4, rfl, h2, h3⟩
    refine ⟨F3 ++ (F1 ++ F4), ⟨F3, F1 ++ F4, rfl, h2, F1, F4, rfl, h1, h3⟩, ?_⟩
    rw [← List.append_assoc, ← List.append_assoc]
    exact List.Perm.append_right _ List.perm_append_comm
  | trans _ _ ih1 ih2 =>
    intro F h
    obtain ⟨F1, h1, p1⟩ := ih1 h
    obtain ⟨F2, h2, p2⟩ := ih2 h1
    exact ⟨F2, h2, p1.trans p2⟩
theorem SRz.perm {L M : List Itm} (h : SRz G H Z L F) (p : L.Perm M) : ∃ F', SRz G H Z M F' := by
  obtain ⟨F', h1, q⟩ := Its.perm p h.1
  exact ⟨F', h1, q.nodup_iff.mp h.2⟩
theorem SR.perm (h : SR G H L) (p : L.Perm M) : SR G H M := by
  obtain ⟨Z, F, h⟩ := h
  obtain ⟨F', h'⟩ := h.perm p
  exact ⟨Z, F', h'⟩
theorem SR.perm_iff (p : L.Perm M) : SR G H L ↔ SR G H M := ⟨fun h => h.perm p, fun h => h.perm p.symm⟩
theorem SR.left (h : SR G H (L ++ M)) : SR G H L := by
  obtain ⟨Z, F, h1, h2⟩ := h
  obtain ⟨F1, F2, rfl, h3, h4⟩ := Its.app.mp h1
  exact ⟨Z, F1, h3, (List.nodup_append.mp h2).1⟩
theorem SR.right (h : SR G H (L ++ M)) : SR G H M := by
  obtain ⟨Z, F, h1, h2⟩ := h
  obtain ⟨F1, F2, rfl, h3, h4⟩ := Its.app.mp h1
  exact ⟨Z, F2, h4, (List.nodup_append.mp h2).2.1⟩
theorem SR.drop (h : SR G H (i :: L)) : SR G H L := SR.right (L := [i]) h
theorem SR.swap {i j : Itm} (h : SR G H (i :: j :: L)) : SR G H (j :: i :: L) := h.perm (.swap ..)
/-- the first of a list goes to its end -/
theorem SR.rot (h : SR G H (i :: (L ++ M))) : SR G H (L ++ i :: M) := h.perm List.perm_middle.symm
theorem SR.unrot (h : SR G H (L ++ i :: M)) : SR G H (i :: (L ++ M)) := h.perm List.perm_middle
theorem SR.comm (h : SR G H (L ++ M)) : SR G H (M ++ L) := h.perm List.perm_append_comm

/-! ### H grows -/
theorem sqT_ext {K : PySem.W.Frag} {a : Addr} {vs : List V} (e : ∀ b o, H b = some o → H' b = some o) (h : SqT K H a vs) : SqT K H' a vs := by
  rcases h with (h | ⟨o, h⟩) | h
  · exact .inl (.inl (e _ _ h))
  · exact .inl (.inr ⟨o, e _ _ h⟩)
  · exact .inr h
theorem rd_ext {a : Addr} {u : HO} (e : ∀ b o, H b = some o → H' b = some o) (h : Rd H a u) : Rd H' a u := by
  rcases h with h | ⟨o, h⟩
  · exact .inl (e _ _ h)
  · exact .inr ⟨o, e _ _ h⟩
theorem rd_there {a : Addr} {u : HO} (h : Rd H a u) : ∃ o, H a = some o := by
  rcases h with h | ⟨o, h⟩
  · exact ⟨_, h⟩
  · exact ⟨_, h⟩
theorem upd_ext {p : Addr} {o : HO} (h : H p = none) : ∀ b u, H b = some u → upd H p o b = some u := fun b u e => by rw [upd_ne (ne_of_none e h)]; exact e
theorem MvI.ext (e : ∀ b o, H b = some o → H' b = some o) (hz : ∀ a u, Z a → Rd H a u → Z' a) (ho : ∀ a ∈ F, ¬ Z' a) : MvI G H H' Z Z' F :=
  ⟨⟨fun _ _ h => sqT_ext e h, fun a u _ z h => ⟨hz a u z h, rd_ext e h⟩, fun a ha => ⟨fun o q => e a o q, ho a ha⟩⟩, fun _ _ _ h => h.ext e, fun _ _ h => e _ _ h⟩
theorem SRz.ext (h : SRz G H Z L F) (e : ∀ b o, H b = some o → H' b = some o) : SRz G H' Z L F := ⟨Its.mv (.ext e (fun _ _ z _ => z) fun a ha => (Its.own h.1 a ha).1) h.1, h.2⟩
theorem SR.ext (h : SR G H L) (e : ∀ b o, H b = some o → H' b = some o) : SR G H' L := by
  obtain ⟨Z, F, h⟩ := h
  exact ⟨Z, F, h.ext e⟩
/-- a new object, held alone -/
theorem SR.alloc {p : Addr} {o : HO} (h : SR G H L) (hp : H p = none) (n : NT o) : SR G (upd H p o) (.raw p o :: L) := by
  obtain ⟨Z, F, h1, h2⟩ := h
  have nF : p ∉ F := fun hm => by
    obtain ⟨_, o, q, _⟩ := Its.own h1 p hm
    rw [hp] at q; cases q
  refine ⟨fun a => Z a ∧ a ≠ p, [p] ++ F, ⟨[p], F, rfl, ⟨upd_same, n, fun z => z.2 rfl, rfl⟩, ?_⟩, ?_⟩
  · refine Its.mv (.ext (upd_ext hp) (fun a u z r => ⟨z, ?_⟩) fun a ha z => (Its.own h1 a ha).1 z.1) h1
    obtain ⟨o', q⟩ := rd_there r
    exact ne_of_none q hp
  · exact List.nodup_cons.mpr ⟨nF, h2⟩
/-- a new tuple -/
theorem SR.allocT {p : Addr} {vs : List V} (h : SR G H L) (hp : H p = none) : SR G (upd H p (.tup vs)) (.tupf p vs :: L) := by
  obtain ⟨Z, F, h1, h2⟩ := h
  refine ⟨Z, F, ⟨[], F, rfl, ⟨.inl (.inl upd_same), rfl⟩, ?_⟩, h2⟩
  exact (SRz.ext ⟨h1, h2⟩ (upd_ext hp)).1
/-- an object held alone is written -/
theorem SR.write {a : Addr} {o o' : HO} (h : SR G H (.raw a o :: L)) (n : NT o') : SR G (upd H a o') (.raw a o' :: L) := by
  obtain ⟨Z, F, ⟨F1, F2, rfl, ⟨h1, h2, h3, rfl⟩, h4⟩, h5⟩ := h
  have nd := List.nodup_cons.mp h5
  have keep : ∀ b u, H b = some u → (∀ z : u = o, False) → upd H a o' b = some u := fun b u e q => by
    rw [upd_ne]
    · exact e
    · intro z; subst z; rw [h1] at e; exact q (Option.some.inj e).symm
  refine ⟨Z, [a] ++ F2, ⟨[a], F2, rfl, ⟨upd_same, n, h3, rfl⟩, Its.mv ⟨⟨fun b vs s => ?_, fun b u _ z r => ⟨z, ?_⟩, fun b hb => ⟨fun u e => ?_, (Its.own h4 b hb).1⟩⟩, fun p q _ t => ?_, fun c q e => keep _ _ e fun z => h2.2.2.2 _ _ z.symm⟩ h4⟩, h5⟩
  · rcases s with (s | ⟨ob, s⟩) | s
    · exact .inl (.inl (keep _ _ s fun z => h2.1 _ z.symm))
    · exact .inl (.inr ⟨ob, keep _ _ s fun z => h2.2.1 _ _ z.symm⟩)
    · exact .inr s
  · have ne : b ≠ a := fun e => h3 (e ▸ z)
    rcases r with r | ⟨ob, r⟩
    · exact .inl (by rw [upd_ne ne]; exact r)
    · exact .inr ⟨ob, by rw [upd_ne ne]; exact r⟩
  · have ne : b ≠ a := fun z => by subst z; exact nd.1 hb
    rw [upd_ne ne]; exact e
  · obtain ⟨ps, e1, e2, e3⟩ := t
    refine ⟨ps, keep _ _ e1 fun z => h2.2.2.1 _ z.symm, e2, fun pos cv hc => ?_⟩
    obtain ⟨c, e4, e5⟩ := e3 pos cv hc
    exact ⟨c, e4, keep _ _ e5 fun z => h2.2.2.2 _ _ z.symm⟩
theorem SR.rawAt {a : Addr} {o : HO} (h : SR G H (.raw a o :: L)) : H a = some o := by
  obtain ⟨Z, F, ⟨F1, F2, rfl, ⟨h1, _⟩, _⟩, _⟩ := h
  exact h1
theorem SR.tupAt {a : Addr} {vs : List V} (h : SR G H (.tupf a vs :: L)) : SqT G.K H a vs := by
  obtain ⟨Z, F, ⟨F1, F2, rfl, ⟨h1, _⟩, _⟩, _⟩ := h
  exact h1
theorem SR.frzAt {a : Addr} {u : HO} (h : SR G H (.frzf a u :: L)) : Rd H a u := by
  obtain ⟨Z, F, ⟨F1, F2, rfl, ⟨_, h1, _⟩, _⟩, _⟩ := h
  exact h1
theorem SR.codeAt {c : Addr} {q : Str} (h : SR G H (.code c q :: L)) : H c = some (LamX.CodeO c q) := by
  obtain ⟨Z, F, ⟨F1, F2, rfl, ⟨h1, _⟩, _⟩, _⟩ := h
  exact h1
/-- all but tables stay -/
theorem SR.extN (h : SR G H L) (e : LamX.ExtN H H') (t : LamX.Tabs G.T H') : SR G H' L := by
  obtain ⟨Z, F, h1, h2⟩ := h
  refine ⟨Z, F, Its.mv ⟨⟨fun a vs s => ?_, fun a u n z r => ⟨z, ?_⟩, fun a ha => ⟨fun o q => ?_, (Its.own h1 a ha).1⟩⟩, fun p q hp _ => t (p, q) hp, fun c q hc => e _ _ hc LamX.codeO_ne⟩ h1, h2⟩
  · rcases s with (s | ⟨o, s⟩) | s
    · exact .inl (.inl (e _ _ s fun _ z => nomatch z))
    · exact .inl (.inr ⟨o, e _ _ s fun _ z => nomatch z⟩)
    · exact .inr s
  · rcases r with r | ⟨o, r⟩
    · exact .inl (e _ _ r n.2.2.1)
    · exact .inr ⟨o, e _ _ r fun _ z => nomatch z⟩
  · obtain ⟨_, o', q', n⟩ := Its.own h1 a ha
    rw [q] at q'
    cases q'
    exact e _ _ q n.2.2.1
theorem SR.tabAt {p : Addr} {q : Str} (h : SR G H (.tab p q :: L)) : TabS H p q := by
  obtain ⟨Z, F, ⟨F1, F2, rfl, ⟨h1, _⟩, _⟩, _⟩ := h
  exact h1
/-- an item held alone is shared from now on -/
theorem SRz.addF {i : Itm} (h : SRz G H Z L F) (r : IRep G H Z i []) : SRz G H Z (i :: L) F := ⟨⟨[], F, rfl, r, h.1⟩, h.2⟩
theorem SRz.sr (h : SRz G H Z L F) : SR G H L := ⟨Z, F, h⟩
theorem SR.freeze (h : SR G H (.dv d v :: L)) : SR G H (.dv (freeze d) v :: L) := by
  obtain ⟨Z, F, ⟨F1, F2, rfl, h1, h2⟩, h3⟩ := h
  obtain ⟨n1, n2, n3⟩ := List.nodup_append.mp h3
  refine ⟨fun a => Z a ∨ a ∈ F1, F2, ⟨[], F2, rfl, Rep.frz (fun a z => .inl z) d v F1 (fun a ha => .inr ha) h1, ?_⟩, n2⟩
  refine Its.mv (.ext (fun _ _ e => e) (fun a u z _ => .inl z) fun a ha z => ?_) h2
  rcases z with z | z
  · exact (Its.own h2 a ha).1 z
  · exact n3 a z a ha rfl
theorem SR.dup (n : noOwn d = true) (h : SR G H (.dv d v :: L)) : SR G H (.dv d v :: .dv d v :: L) := by
  obtain ⟨Z, F, ⟨F1, F2, rfl, h1, h2⟩, h3⟩ := h
  obtain rfl := Rep.nil d v F1 n h1
  exact ⟨Z, [] ++ ([] ++ F2), ⟨[], _, rfl, h1, [], _, rfl, h1, h2⟩, h3⟩
theorem SR.dupT {a : Addr} {vs : List V} (h : SR G H (.tupf a vs :: L)) : SR G H (.tupf a vs :: .tupf a vs :: L) := by
  obtain ⟨Z, F, ⟨F1, F2, rfl, ⟨h1, rfl⟩, h2⟩, h3⟩ := h
  exact ⟨Z, [] ++ ([] ++ F2), ⟨[], _, rfl, ⟨h1, rfl⟩, [], _, rfl, ⟨h1, rfl⟩, h2⟩, h3⟩
theorem SR.dupF {a : Addr} {u : HO} (h : SR G H (.frzf a u :: L)) : SR G H (.frzf a u :: .frzf a u :: L) := by
  obtain ⟨Z, F, ⟨F1, F2, rfl, ⟨h0, h1, h2, rfl⟩, h3⟩, h4⟩ := h
  exact ⟨Z, [] ++ ([] ++ F2), ⟨[], _, rfl, ⟨h0, h1, h2, rfl⟩, [], _, rfl, ⟨h0, h1, h2, rfl⟩, h3⟩, h4⟩

/-! ### several data -/
def dvs (ds : List D) (vs : List V) : List Itm := List.zipWith Itm.dv ds vs
theorem Reps.its : ∀ {ds : List D} {vs : List V} {F : List Addr}, Reps G H Z ds vs F ↔ ds.length = vs.length ∧ Its G H Z (dvs ds vs) F
  | [], vs, F => by
    simp only [Reps]
    constructor
    · rintro ⟨rfl, rfl⟩; exact ⟨rfl, rfl⟩
    · rintro ⟨h1, h2⟩
      cases vs with
      | nil => exact ⟨rfl, h2⟩
      | cons _ _ => simp at h1
  | d :: ds, vs, F => by
    simp only [Reps]
    constructor
    · rintro ⟨v, r, F1, F2, rfl, rfl, h1, h2⟩
      obtain ⟨h3, h4⟩ := Reps.its.mp h2
      exact ⟨by simp [h3], F1, F2, rfl, h1, h4⟩
    · rintro ⟨h1, h2⟩
      cases vs with
      | nil => simp at h1
      | cons v r =>
        obtain ⟨F1, F2, rfl, h3, h4⟩ := h2
        exact ⟨v, r, F1, F2, rfl, rfl, h3, Reps.its.mpr ⟨by simpa using h1, h4⟩⟩
theorem SR.openT {xs : List D} (h : SR G H (.dv (.tup xs) v :: L)) : ∃ a vs, v = .ref a ∧ xs.length = vs.length ∧ SR G H (.tupf a vs :: (dvs xs vs ++ L)) := by
  obtain ⟨Z, F, ⟨F1, F2, rfl, h1, h2⟩, h3⟩ := h
  simp only [IRep, Rep] at h1
  obtain ⟨a, vs, e, s, r⟩ := h1
  obtain ⟨l, r⟩ := Reps.its.mp r
  exact ⟨a, vs, e, l, Z, [] ++ (F1 ++ F2), ⟨[], _, rfl, ⟨s, rfl⟩, Its.app.mpr ⟨F1, F2, rfl, r, h2⟩⟩, h3⟩
theorem SR.closeT {xs : List D} {a : Addr} {vs : List V} (l : xs.length = vs.length) (h : SR G H (.tupf a vs :: (dvs xs vs ++ L))) : SR G H (.dv (.tup xs) (.ref a) :: L) := by
  obtain ⟨Z, F, ⟨F1, F2, rfl, ⟨s, rfl⟩, h2⟩, h3⟩ := h
  obtain ⟨F3, F4, rfl, h4, h5⟩ := Its.app.mp h2
  refine ⟨Z, F3 ++ F4, ⟨F3, F4, rfl, ?_, h5⟩, h3⟩
  simp only [IRep, Rep]
  exact ⟨a, vs, rfl, s, Reps.its.mpr ⟨l, h4⟩⟩
theorem SR.openL {xs : List D} (h : SR G H (.dv (.lst true xs) v :: L)) : ∃ a vs, v = .ref a ∧ xs.length = vs.length ∧ SR G H (.raw a (.lst vs) :: (dvs xs vs ++ L)) := by
  obtain ⟨Z, F, ⟨F1, F2, rfl, h1, h2⟩, h3⟩ := h
  simp only [IRep, Rep, if_true] at h1
  obtain ⟨a, vs, F', e, r, s, z, rfl⟩ := h1
  obtain ⟨l, r⟩ := Reps.its.mp r
  exact ⟨a, vs, e, l, Z, [a] ++ (F' ++ F2), ⟨[a], _, rfl, ⟨s, nt_lst _, z, rfl⟩, Its.app.mpr ⟨F', F2, rfl, r, h2⟩⟩, h3⟩
theorem SR.closeL {xs : List D} {a : Addr} {vs : List V} (l : xs.length = vs.length) (h : SR G H (.raw a (.lst vs) :: (dvs xs vs ++ L))) : SR G H (.dv (.lst true xs) (.ref a) :: L) := by
  obtain ⟨Z, F, ⟨F1, F2, rfl, ⟨s, _, z, rfl⟩, h2⟩, h3⟩ := h
  obtain ⟨F3, F4, rfl, h4, h5⟩ := Its.app.mp h2
  refine ⟨Z, (a :: F3) ++ F4, ⟨a :: F3, F4, rfl, ?_, h5⟩, h3⟩
  simp only [IRep, Rep, if_true]
  exact ⟨a, vs, F3, rfl, Reps.its.mpr ⟨l, h4⟩, s, z, rfl⟩
end
end Ev

end T_V2
section T_V3
set_option Elab.async false
set_option linter.all false
set_option maxRecDepth 100000
set_option maxHeartbeats 4000000
/-! Ev, part 3: slots, what a piece of code does to them, as a reading. -/
namespace Ev
open PySem PySem.Spec L2
open PyProof.Rows hiding St

abbrev Env := List (Option D)
inductive Res (α : Type) where
  | ok (a : α) (ρ : Env)
  | exc (c : Nat) (a : List D) (ρ : Env)
  | stuck
def Res.bind {α β : Type} (r : Res α) (f : α → Env → Res β) : Res β :=
  match r with
  | .ok a ρ => f a ρ
  | .exc c a ρ => .exc c a ρ
  | .stuck => .stuck
/-- what a statement comes to -/
inductive RS where
  | next (ρ : Env)
  | ret (d : D) (ρ : Env)
  | brk (ρ : Env)
  | cont (ρ : Env)
  | exc (c : Nat) (a : List D) (ρ : Env)
  | stuck

def slotI : Env → St → List Itm
  | [], [] => []
  | none :: ρ, _ :: σ => slotI ρ σ
  | some d :: ρ, some v :: σ => .dv d v :: slotI ρ σ
  | some _ :: ρ, none :: σ => .bad :: slotI ρ σ
  | _, _ => [.bad]

/-- what is fixed while a def's body runs: the values of some slots (of what is changed in its place, of the exception that is handled), the slots around a lambda that was got, before and behind its call -/
structure Dy where
  pin : List (Nat × V) := []
  /-- what else stands beside -/
  ext : List Itm := []
  to : Option (Env × Env × St) := none
def thI (Δ : Dy) (ρ : Env) : List Itm := match Δ.to with
  | none => []
  | some (ρ0, ρ1, σo) => if ρ[0]? = some (some .thk) then slotI ρ0 σo else slotI ρ1 σo
def tabI (G : Gl) : List Itm := G.T.map fun p => .tab p.1 p.2
/-- what stands beside the slots of this frame -/
def basI (G : Gl) (Δ : Dy) (ρ : Env) : List Itm := thI Δ ρ ++ (Δ.ext ++ tabI G)
def SRS (G : Gl) (Δ : Dy) (H : Hp) (σ : St) (ρ : Env) (L : List Itm) : Prop :=
  SR G H (L ++ (slotI ρ σ ++ basI G Δ ρ)) ∧ ∀ p ∈ Δ.pin, σ[p.1]? = some (some p.2)

/-- slot i may be written -/
def Wr (Δ : Dy) (i : Nat) : Prop := (i = 0 → Δ.to = none) ∧ ∀ v, (i, v) ∉ Δ.pin
/-- an exception of the class c with what it holds -/
def ExR (G : Gl) (c : Nat) (a : List D) (dd : Option Addr) (E : List Itm) : Prop :=
  (a = [] ∧ dd = none ∧ E = []) ∨ ∃ x d v, a = [x] ∧ noOwn x = true ∧ dd = some d ∧ E = [.frzf d (.xd [(G.xf c, v)]), .dv x v]

def TEof (G : Gl) (Δ : Dy) (W : WX) (f : Env → Res D) : TE := fun σ H Q => ∃ ρ L, SRS G Δ H σ ρ L ∧ match f ρ with
  | .ok d ρ' => ∀ v H', SRS G Δ H' σ ρ' (.dv d v :: L) → Q v H'
  | .exc c a ρ' => ∀ H' E dd, SRS G Δ H' σ ρ' (E ++ L) → ExR G c a dd E → W (.ref (G.ca c)) dd σ H'
  | .stuck => False
/-- a test -/
def TTof (G : Gl) (Δ : Dy) (W : WX) (f : Env → Res Bool) : TT := fun σ H Q => ∃ ρ L, SRS G Δ H σ ρ L ∧ match f ρ with
  | .ok b ρ' => ∀ H', SRS G Δ H' σ ρ' L → Q b H'
  | .exc c a ρ' => ∀ H' E dd, SRS G Δ H' σ ρ' (E ++ L) → ExR G c a dd E → W (.ref (G.ca c)) dd σ H'
  | .stuck => False
def TSof (G : Gl) (Δ : Dy) (W : WX) (f : Env → RS) : TS := fun D σ H => ∃ ρ L, SRS G Δ H σ ρ L ∧ match f ρ with
  | .next ρ' => ∀ σ' H', SRS G Δ H' σ' ρ' L → D.nx σ' H'
  | .ret d ρ' => ∀ σ' v H', SRS G Δ H' σ' ρ' (.dv d v :: L) → D.rt v H'
  | .brk ρ' => ∀ σ' H', SRS G Δ H' σ' ρ' L → D.bk σ' H'
  | .cont ρ' => ∀ σ' H', SRS G Δ H' σ' ρ' L → D.ct σ' H'
  | .exc c a ρ' => ∀ σ' H' E dd, SRS G Δ H' σ' ρ' (E ++ L) → ExR G c a dd E → W (.ref (G.ca c)) dd σ' H'
  | .stuck => False

theorem pe_imp {X : Cx} {e : Expr} {t t' : TE} (h : PE X e t) (i : ∀ σ H Q, t' σ H Q → t σ H Q) : PE X e t' := ⟨fun pins s σ H Q I q => h.run pins s σ H Q I (i σ H Q q)⟩
theorem pt_imp {X : Cx} {e : Expr} {t t' : TT} (h : PT X e t) (i : ∀ σ H Q, t' σ H Q → t σ H Q) : PT X e t' := ⟨fun pins s σ H Q I q => h.run pins s σ H Q I (i σ H Q q)⟩
theorem ps_imp {X : Cx} {e : Stmt} {t t' : TS} (h : PS X e t) (i : ∀ D σ H, t' D σ H → t D σ H) : PS X e t' := ⟨fun pins s σ H D I q => h.run pins s σ H D I (i D σ H q)⟩
theorem pss_imp {X : Cx} {e : List Stmt} {t t' : TS} (h : PSs X e t) (i : ∀ D σ H, t' D σ H → t D σ H) : PSs X e t' := ⟨fun pins s σ H D I q => h.run pins s σ H D I (i D σ H q)⟩

/-! ### slots -/
section
variable {G : Gl} {Δ : Dy} {H H' : Hp} {L M : List Itm} {σ : St} {ρ ρ' : Env} {d : D} {v : V} {i : Nat}

theorem SR.nobad (h : SR G H (.bad :: L)) : False := by
  obtain ⟨Z, F, ⟨F1, F2, _, h1, _⟩, _⟩ := h
  exact h1
theorem slotI_len : ∀ {ρ : Env} {σ : St}, SR G H (slotI ρ σ ++ L) → ρ.length = σ.length
  | [], [], _ => rfl
  | [], _ :: _, h => (SR.nobad h).elim
  | _ :: _, [], h => by
    rename_i x r
    cases x <;> exact (SR.nobad h).elim
  | none :: ρ, _ :: σ, h => by
    have := slotI_len (ρ := ρ) (σ := σ) h
    simp [this]
  | some d :: ρ, none :: σ, h => (SR.nobad h).elim
  | some d :: ρ, some v :: σ, h => by
    have := slotI_len (ρ := ρ) (σ := σ) (SR.drop h)
    simp [this]
theorem SRS.len (h : SRS G Δ H σ ρ L) : ρ.length = σ.length := slotI_len (SR.right h.1)
/-- what stands in slot i, put apart -/
theorem slotI_get : ∀ {ρ : Env} {σ : St} {i : Nat} {d : D}, SR G H (slotI ρ σ ++ L) → ρ[i]? = some (some d) →
    ∃ v, σ[i]? = some (some v) ∧ (slotI ρ σ).Perm (.dv d v :: slotI (ρ.set i none) σ)
  | [], _, i, d, _, e => by simp at e
  | x :: ρ, [], i, d, h, _ => by cases x <;> exact (SR.nobad h).elim
  | none :: ρ, y :: σ, 0, d, h, e => by simp at e
  | none :: ρ, y :: σ, i + 1, d, h, e => by
    obtain ⟨v, e1, p⟩ := slotI_get (ρ := ρ) (σ := σ) (i := i) h (by simpa using e)
    exact ⟨v, by simpa using e1, p⟩
  | some x :: ρ, none :: σ, _, d, h, _ => (SR.nobad h).elim
  | some x :: ρ, some y :: σ, 0, d, h, e => by
    have e : x = d := by simpa using e
    subst e
    exact ⟨y, rfl, .refl _⟩
  | some x :: ρ, some y :: σ, i + 1, d, h, e => by
    obtain ⟨v, e1, p⟩ := slotI_get (ρ := ρ) (σ := σ) (i := i) (SR.drop h) (by simpa using e)
    exact ⟨v, by simpa using e1, (List.Perm.cons _ p).trans (.swap ..)⟩
/-- slot i is set -/
theorem slotI_set : ∀ {ρ : Env} {σ : St} {i : Nat} {d : D} {v : V}, ρ.length = σ.length → i < ρ.length → (slotI (ρ.set i (some d)) (σ.set i (some v))).Perm (.dv d v :: slotI (ρ.set i none) σ)
  | [], _, i, d, v, _, h => by simp at h
  | x :: ρ, [], i, d, v, e, _ => by simp at e
  | x :: ρ, y :: σ, 0, d, v, e, _ => .refl _
  | none :: ρ, y :: σ, i + 1, d, v, e, h => by
    show (slotI (ρ.set i (some d)) (σ.set i (some v))).Perm (.dv d v :: slotI (ρ.set i none) σ)
    exact slotI_set (by simpa using e) (by simpa using h)
  | some x :: ρ, none :: σ, i + 1, d, v, e, h => by
    show (.bad :: slotI (ρ.set i (some d)) (σ.set i (some v))).Perm (.dv d v :: .bad :: slotI (ρ.set i none) σ)
    exact (List.Perm.cons _ (slotI_set (by simpa using e) (by simpa using h))).trans (.swap ..)
  | some x :: ρ, some y :: σ, i + 1, d, v, e, h => by
    show (.dv x y :: slotI (ρ.set i (some d)) (σ.set i (some v))).Perm (.dv d v :: .dv x y :: slotI (ρ.set i none) σ)
    exact (List.Perm.cons _ (slotI_set (by simpa using e) (by simpa using h))).trans (.swap ..)
end
end Ev

end T_V3
section T_V4
set_option Elab.async false
set_option linter.all false
set_option maxRecDepth 100000
set_option maxHeartbeats 4000000
/-! Ev, part 4: operands, consumers. -/
namespace Ev
open PySem PySem.Spec L2
open PyProof.Rows hiding St

section
variable {G : Gl} {Δ : Dy} {H H' : Hp} {L M : List Itm} {σ : St} {ρ ρ' : Env} {d : D} {v : V} {i : Nat}

/-- what is done to the loose items is done to the state -/
theorem SRS.lift (h : SRS G Δ H σ ρ L) (f : ∀ K, SR G H (L ++ K) → SR G H' (M ++ K)) : SRS G Δ H' σ ρ M := ⟨f _ h.1, h.2⟩
theorem SRS.perm (h : SRS G Δ H σ ρ L) (p : L.Perm M) : SRS G Δ H σ ρ M := h.lift fun K q => q.perm (List.Perm.append_right _ p)
theorem SRS.ext (h : SRS G Δ H σ ρ L) (e : ∀ b o, H b = some o → H' b = some o) : SRS G Δ H' σ ρ L := ⟨h.1.ext e, h.2⟩
theorem SRS.drop {j : Itm} (h : SRS G Δ H σ ρ (j :: L)) : SRS G Δ H σ ρ L := h.lift fun K q => SR.drop q
theorem SRS.right (h : SRS G Δ H σ ρ (M ++ L)) : SRS G Δ H σ ρ L := h.lift fun K q => by rw [List.append_assoc] at q; exact SR.right q
theorem SRS.swap {j k : Itm} (h : SRS G Δ H σ ρ (j :: k :: L)) : SRS G Δ H σ ρ (k :: j :: L) := h.perm (.swap ..)
theorem SRS.dup (n : noOwn d = true) (h : SRS G Δ H σ ρ (.dv d v :: L)) : SRS G Δ H σ ρ (.dv d v :: .dv d v :: L) := h.lift fun K q => SR.dup n q
theorem SRS.frz (h : SRS G Δ H σ ρ (.dv d v :: L)) : SRS G Δ H σ ρ (.dv (freeze d) v :: L) := h.lift fun K q => SR.freeze q
theorem SRS.tupE {xs : List D} (h : SRS G Δ H σ ρ (.dv (.tup xs) v :: L)) : ∃ a vs, v = .ref a ∧ xs.length = vs.length ∧ SqT G.K H a vs ∧ SRS G Δ H σ ρ (.tupf a vs :: (dvs xs vs ++ L)) := by
  obtain ⟨a, vs, e, l, q⟩ := SR.openT h.1
  exact ⟨a, vs, e, l, q.tupAt, by (show SR G H (.tupf a vs :: ((dvs xs vs ++ L) ++ _)); rw [List.append_assoc]; exact q), h.2⟩

theorem thI_set {x : Option D} (h : i = 0 → Δ.to = none) : thI Δ (ρ.set i x) = thI Δ ρ := by
  unfold thI
  cases e : Δ.to with
  | none => rfl
  | some t =>
    have ni : i ≠ 0 := fun z => by rw [h z] at e; cases e
    obtain ⟨a, b, c⟩ := t
    simp only [List.getElem?_set_ne ni]
theorem slotI_none : ∀ {ρ : Env} {σ : St} {i : Nat} {L : List Itm}, SR G H (slotI ρ σ ++ L) → SR G H (slotI (ρ.set i none) σ ++ L)
  | [], _, i, _, h => by simpa using h
  | x :: ρ, [], i, _, h => by cases x <;> exact (SR.nobad h).elim
  | none :: ρ, y :: σ, 0, _, h => h
  | none :: ρ, y :: σ, i + 1, _, h => slotI_none (ρ := ρ) (σ := σ) (i := i) h
  | some x :: ρ, none :: σ, _, _, h => (SR.nobad h).elim
  | some x :: ρ, some y :: σ, 0, _, h => SR.drop h
  | some x :: ρ, some y :: σ, i + 1, L, h => by
    have h' : SR G H (slotI ρ σ ++ (.dv x y :: L)) := SR.rot h
    show SR G H (.dv x y :: (slotI (ρ.set i none) σ ++ L))
    exact SR.unrot (slotI_none (i := i) h')
theorem basI_set {x : Option D} (h : i = 0 → Δ.to = none) : basI G Δ (ρ.set i x) = basI G Δ ρ := by unfold basI; rw [thI_set h]
theorem SRS.take (h : SRS G Δ H σ ρ L) (e : ρ[i]? = some (some d)) (hs : i = 0 → Δ.to = none) : ∃ v, σ[i]? = some (some v) ∧ SRS G Δ H σ (ρ.set i none) (.dv d v :: L) := by
  obtain ⟨h1, h2⟩ := h
  obtain ⟨v, e1, p⟩ := slotI_get (SR.right h1) e
  refine ⟨v, e1, ?_, h2⟩
  rw [basI_set hs]
  exact h1.perm ((List.Perm.append_left _ (List.Perm.append_right _ p)).trans List.perm_middle)
/-- the value of a slot, its datum -/
theorem SRS.look (h : SRS G Δ H σ ρ L) (e : ρ[i]? = some (some d)) : ∃ v, σ[i]? = some (some v) := by
  obtain ⟨v, e1, _⟩ := slotI_get (SR.right h.1) e
  exact ⟨v, e1⟩
theorem slotI_setN : ∀ {ρ : Env} {σ : St} {i : Nat} {x : Option V}, slotI (ρ.set i none) (σ.set i x) = slotI (ρ.set i none) σ
  | [], [], i, x => by simp
  | [], y :: σ, i, x => by cases i <;> rfl
  | z :: ρ, [], i, x => by simp
  | z :: ρ, y :: σ, 0, x => rfl
  | none :: ρ, y :: σ, i + 1, x => by
    show slotI (ρ.set i none) (σ.set i x) = slotI (ρ.set i none) σ
    exact slotI_setN
  | some z :: ρ, none :: σ, i + 1, x => by
    show Itm.bad :: slotI (ρ.set i none) (σ.set i x) = .bad :: slotI (ρ.set i none) σ
    rw [slotI_setN]
  | some z :: ρ, some y :: σ, i + 1, x => by
    show Itm.dv z y :: slotI (ρ.set i none) (σ.set i x) = .dv z y :: slotI (ρ.set i none) σ
    rw [slotI_setN]
theorem slotI_noneR (h : SR G H (M ++ (slotI ρ σ ++ L))) : SR G H (M ++ (slotI (ρ.set i none) σ ++ L)) := by
  have h1 : SR G H (slotI ρ σ ++ (L ++ M)) := by rw [← List.append_assoc]; exact SR.comm h
  have h2 := slotI_none (i := i) h1
  rw [← List.append_assoc] at h2
  exact SR.comm h2
/-- slot i takes a loose value -/
theorem SRS.put (h : SRS G Δ H σ ρ (.dv d v :: L)) (hi : i < ρ.length) (hs : Wr Δ i) : SRS G Δ H (σ.set i (some v)) (ρ.set i (some d)) L := by
  have hl := h.len
  obtain ⟨h1, h2⟩ := h
  refine ⟨?_, fun w hw => ?_⟩
  · rw [basI_set hs.1]
    have h3 := slotI_noneR (i := i) h1
    exact h3.perm (List.perm_middle.symm.trans (List.Perm.append_left _ (List.Perm.append_right _ (slotI_set hl hi).symm)))
  · have ni : i ≠ w.1 := fun z => hs.2 w.2 (by rw [z]; exact hw)
    rw [List.getElem?_set_ne ni]
    exact h2 w hw
theorem set_same {α : Type} : ∀ {l : List α} {i : Nat} {x : α}, l[i]? = some x → l.set i x = l
  | [], _, _, h => by simp at h
  | y :: l, 0, x, h => by
    have : y = x := by simpa using h
    rw [this]; rfl
  | y :: l, i + 1, x, h => by
    show y :: l.set i x = y :: l
    rw [set_same (by simpa using h)]
/-- slot i, its value as it was, has this datum -/
theorem SRS.back (h : SRS G Δ H σ ρ (.dv d v :: L)) (hi : i < ρ.length) (e : σ[i]? = some (some v)) (hs : i = 0 → Δ.to = none) : SRS G Δ H σ (ρ.set i (some d)) L := by
  have hl := h.len
  obtain ⟨h1, h2⟩ := h
  refine ⟨?_, h2⟩
  rw [basI_set hs]
  have h3 := slotI_noneR (i := i) h1
  have p := slotI_set (d := d) (v := v) hl hi
  rw [set_same e] at p
  exact h3.perm (List.perm_middle.symm.trans (List.Perm.append_left _ (List.Perm.append_right _ p.symm)))
/-- slot i is forgotten, its value may change -/
theorem SRS.forget {x : Option V} (h : SRS G Δ H σ ρ L) (hs : Wr Δ i) : SRS G Δ H (σ.set i x) (ρ.set i none) L := by
  obtain ⟨h1, h2⟩ := h
  refine ⟨?_, fun w hw => ?_⟩
  · rw [basI_set hs.1, slotI_setN]
    exact slotI_noneR h1
  · have ni : i ≠ w.1 := fun z => hs.2 w.2 (by rw [z]; exact hw)
    rw [List.getElem?_set_ne ni]
    exact h2 w hw
end

/-! ### operands -/
inductive OE where
  | e (f : Env → Res D)
  | b (i : Nat)
def evOps : List OE → Env → Res (List (D ⊕ Nat))
  | [], ρ => .ok [] ρ
  | .e f :: r, ρ => (f ρ).bind fun d ρ1 => (evOps r ρ1).bind fun os ρ2 => .ok (.inl d :: os) ρ2
  | .b i :: r, ρ => match ρ[i]? with
    | some (some _) => (evOps r ρ).bind fun os ρ2 => .ok (.inr i :: os) ρ2
    | _ => .stuck
def datOps (ρ : Env) : List (D ⊕ Nat) → Option (List D)
  | [] => some []
  | .inl d :: r => (datOps ρ r).map (d :: ·)
  | .inr i :: r => match ρ[i]? with
    | some (some d) => (datOps ρ r).map (d :: ·)
    | _ => none
def opI : List (D ⊕ Nat) → List V → List Itm
  | .inl d :: r, v :: vs => .dv d v :: opI r vs
  | .inr _ :: r, _ :: vs => opI r vs
  | _, _ => []
def OpV (σ : St) : List (D ⊕ Nat) → List V → Prop
  | [], vs => vs = []
  | .inl _ :: r, vs => ∃ v vr, vs = v :: vr ∧ OpV σ r vr
  | .inr i :: r, vs => ∃ v vr, vs = v :: vr ∧ σ[i]? = some (some v) ∧ OpV σ r vr
def TAof (G : Gl) (Δ : Dy) (W : WX) (fs : List OE) : TA := fun σ H Q => ∃ ρ L, SRS G Δ H σ ρ L ∧ match evOps fs ρ with
  | .ok os ρ' => ∀ vs H', SRS G Δ H' σ ρ' (opI os vs ++ L) → OpV σ os vs → Q vs H'
  | .exc c a ρ' => ∀ H' E dd, SRS G Δ H' σ ρ' (E ++ L) → ExR G c a dd E → W (.ref (G.ca c)) dd σ H'
  | .stuck => False
def opTE (G : Gl) (Δ : Dy) (W : WX) : OE → TE
  | .e f => TEof G Δ W f
  | .b i => tVar i
section
variable {G : Gl} {Δ : Dy} {W : WX} {σ : St} {H : Hp} {Q : List V → Hp → Prop}
theorem ta_nil (h : TAof G Δ W [] σ H Q) : Q [] H := by
  obtain ⟨ρ, L, s, k⟩ := h
  exact k [] H s rfl
theorem ta_cons {f : OE} {fs : List OE} (h : TAof G Δ W (f :: fs) σ H Q) : opTE G Δ W f σ H fun x H1 => TAof G Δ W fs σ H1 fun xs H2 => Q (x :: xs) H2 := by
  obtain ⟨ρ, L, s, k⟩ := h
  cases f with
  | e f =>
    simp only [evOps] at k
    refine ⟨ρ, L, s, ?_⟩
    cases e : f ρ with
    | stuck => rw [e] at k; exact k
    | exc c a ρ1 => rw [e] at k; exact k
    | ok d ρ1 =>
      rw [e] at k
      intro v H1 s1
      refine ⟨ρ1, _, s1, ?_⟩
      simp only [Res.bind] at k
      cases e2 : evOps fs ρ1 with
      | stuck => rw [e2] at k; exact k
      | exc c a ρ2 =>
        rw [e2] at k
        intro H' E dd s2 x
        refine k H' E dd (s2.lift fun K q => ?_) x
        have q' : SR G H' (E ++ .dv d v :: (L ++ K)) := by rw [List.append_assoc, List.cons_append] at q; exact q
        rw [List.append_assoc]
        exact SR.drop (SR.unrot q')
      | ok os ρ2 =>
        rw [e2] at k
        intro vs H' s2 ov
        refine k (v :: vs) H' (s2.perm ?_) ⟨v, vs, rfl, ov⟩
        exact List.perm_middle
  | b i =>
    simp only [evOps] at k
    cases e : ρ[i]? with
    | none => rw [e] at k; exact k.elim
    | some y =>
      cases y with
      | none => rw [e] at k; exact k.elim
      | some d =>
        rw [e] at k
        obtain ⟨v, e1⟩ := s.look e
        refine ⟨v, e1, ρ, L, s, ?_⟩
        cases e2 : evOps fs ρ with
        | stuck => rw [e2] at k; exact k
        | exc c a ρ2 => rw [e2] at k; exact k
        | ok os ρ2 =>
          rw [e2] at k
          exact fun vs H' s2 ov => k (v :: vs) H' s2 ⟨v, vs, rfl, e1, ov⟩
theorem pa_ops {X : Cx} : ∀ {es : List Expr} {fs : List OE}, Paired (fun e f => PE X e (opTE G Δ W f) ∧ ∀ r env, starEach (e :: r) env = (false, eval e env) :: starEach r env) es fs → PA X es (TAof G Δ W fs)
  | [], [], .nil => ⟨fun pos pins s σ H Q I h => pa_nil.run pos pins s σ H Q I (ta_nil h)⟩
  | e :: es, f :: fs, .cons h t => ⟨fun pos pins s σ H Q I q => (pa_cons h.1 (pa_ops t) (h.2 _ _)).run pos pins s σ H Q I (ta_cons q)⟩
end
/-- the data of operands, at one place -/
theorem ops_reps {G : Gl} {H : Hp} {σ : St} {ρ : Env} {Z : Addr → Prop} : ∀ {os : List (D ⊕ Nat)} {vs : List V} {ds : List D} {F : List Addr}, Its G H Z (opI os vs ++ slotI ρ σ) F → OpV σ os vs → datOps ρ os = some ds →
    Paired (fun d v => ∃ F, Rep G H Z d v F) ds vs := by
  have slot : ∀ {ρ : Env} {σ : St} {i : Nat} {d : D} {v : V} {F : List Addr}, Its G H Z (slotI ρ σ) F → ρ[i]? = some (some d) → σ[i]? = some (some v) → ∃ F, Rep G H Z d v F := by
    intro ρ
    induction ρ with
    | nil => intro σ i d v F _ e; simp at e
    | cons x ρ ih =>
      intro σ i d v F h e e2
      cases σ with
      | nil => simp at e2
      | cons y σ =>
        cases x with
        | none =>
          cases i with
          | zero => simp at e
          | succ i => exact ih (σ := σ) h (by simpa using e) (by simpa using e2)
        | some x =>
          cases y with
          | none => obtain ⟨_, _, _, h, _⟩ := h; exact h.elim
          | some y =>
            obtain ⟨F1, F2, rfl, h1, h2⟩ := h
            cases i with
            | zero =>
              have e : x = d := by simpa using e
              have e2 : y = v := by simpa using e2
              subst e; subst e2
              exact ⟨F1, h1⟩
            | succ i => exact ih (σ := σ) h2 (by simpa using e) (by simpa using e2)
  intro os
  induction os with
  | nil =>
    intro vs ds F _ ov e
    have ov : vs = [] := ov
    subst ov
    simp only [datOps, Option.some.injEq] at e
    subst e
    exact .nil
  | cons o os ih =>
    intro vs ds F h ov e
    cases o with
    | inl d =>
      obtain ⟨v, vr, rfl, ov⟩ := ov
      simp only [datOps, Option.map_eq_some_iff] at e
      obtain ⟨dr, e, rfl⟩ := e
      obtain ⟨F1, F2, rfl, h1, h2⟩ := h
      exact .cons ⟨F1, h1⟩ (ih h2 ov e)
    | inr i =>
      obtain ⟨v, vr, rfl, e2, ov⟩ := ov
      simp only [datOps] at e
      cases e3 : ρ[i]? with
      | none => rw [e3] at e; cases e
      | some y =>
        cases y with
        | none => rw [e3] at e; cases e
        | some d =>
          rw [e3] at e
          simp only [Option.map_eq_some_iff] at e
          obtain ⟨dr, e, rfl⟩ := e
          obtain ⟨F1, F2, rfl, h1, h2⟩ := Its.app.mp h
          exact .cons (slot h2 e3 e2) (ih h ov e)
/-- several data at one place -/
abbrev RepsA (G : Gl) (H : Hp) (Z : Addr → Prop) : List D → List V → Prop := Paired fun d v => ∃ F, Rep G H Z d v F
/-- what is asked of a rule by values that only reads: it gives what sem says -/
def Con (G : Gl) (r : List V → Hp → VK → Prop) (sem : List D → Option D) : Prop :=
  ∀ (H : Hp) (Z : Addr → Prop) (L : List Itm) (F : List Addr) (ds : List D) (vs : List V) (Q : VK) (d : D), SRz G H Z L F → RepsA G H Z ds vs → sem ds = some d → (∀ v H', SR G H' (.dv d v :: L) → Q v H') → r vs H Q
def conE (fs : List OE) (sem : List D → Option D) : Env → Res D := fun ρ => (evOps fs ρ).bind fun os ρ' => match datOps ρ' os with
  | some ds => (match sem ds with
    | some d => .ok d ρ'
    | none => .stuck)
  | none => .stuck
theorem con_te {G : Gl} {Δ : Dy} {W : WX} {σ : St} {H : Hp} {Q : VK} {r : List V → Hp → VK → Prop} {sem : List D → Option D} {fs : List OE} (c : Con G r sem) (h : TEof G Δ W (conE fs sem) σ H Q) : TAof G Δ W fs σ H fun vs H1 => r vs H1 Q := by
  obtain ⟨ρ, L, s, k⟩ := h
  refine ⟨ρ, L, s, ?_⟩
  unfold conE at k
  cases e : evOps fs ρ with
  | stuck => rw [e] at k; exact k
  | exc c a ρ1 => rw [e] at k; exact k
  | ok os ρ1 =>
    rw [e] at k
    simp only [Res.bind] at k
    intro vs H' s1 ov
    cases e1 : datOps ρ1 os with
    | none => rw [e1] at k; exact k.elim
    | some ds =>
      rw [e1] at k
      simp only at k
      cases e2 : sem ds with
      | none => rw [e2] at k; exact k.elim
      | some d =>
        rw [e2] at k
        simp only at k
        obtain ⟨⟨Z, F, s2, nd⟩, s3⟩ := s1
        have p : ((opI os vs ++ L) ++ (slotI ρ1 σ ++ basI G Δ ρ1)).Perm ((opI os vs ++ slotI ρ1 σ) ++ (L ++ basI G Δ ρ1)) := by
          rw [List.append_assoc, List.append_assoc]
          refine List.Perm.append_left _ ?_
          rw [← List.append_assoc, ← List.append_assoc]
          exact List.Perm.append_right _ List.perm_append_comm
        obtain ⟨F', s4, q⟩ := Its.perm p s2
        have nd' := q.nodup_iff.mp nd
        obtain ⟨F1, F2, rfl, s5, s6⟩ := Its.app.mp s4
        have ra := ops_reps s5 ov e1
        -- the temporaries are dropped
        obtain ⟨F3, F4, e3, s8, s9⟩ := Its.app.mp s2
        obtain ⟨F5, F6, e4, s10, s11⟩ := Its.app.mp s8
        subst e3 e4
        have s7 : SRz G H' Z (L ++ (slotI ρ1 σ ++ basI G Δ ρ1)) (F6 ++ F4) := by
          refine ⟨Its.app.mpr ⟨F6, F4, rfl, s11, s9⟩, ?_⟩
          rw [List.append_assoc] at nd
          exact (List.nodup_append.mp nd).2.1
        exact c H' Z _ _ ds vs Q d s7 ra e2 fun v H2 s12 => k v H2 ⟨s12, s3⟩
end Ev

end T_V4
section T_V5
set_option Elab.async false
set_option linter.all false
set_option maxRecDepth 100000
set_option maxHeartbeats 4000000
/-! Ev, part 5: names, constants, displays, operators. -/
namespace Ev
open PySem PySem.Spec L2
open PyProof.Rows hiding St

/-! ### names -/
def getE (i : Nat) : Env → Res D := fun ρ => match ρ[i]? with
  | some (some d) => if noOwn d = true then .ok d ρ else .ok (freeze d) (ρ.set i (some (freeze d)))
  | _ => .stuck
def mvE (i : Nat) : Env → Res D := fun ρ => match ρ[i]? with
  | some (some d) => .ok d (ρ.set i none)
  | _ => .stuck
def cE (d : D) : Env → Res D := fun ρ => .ok d ρ
section
variable {G : Gl} {Δ : Dy} {W : WX} {X : Cx} {i : Nat}
theorem ilt {ρ : Env} {d : D} (e : ρ[i]? = some (some d)) : i < ρ.length := (List.getElem?_eq_some_iff.mp e).1
theorem set_set' {ρ : Env} {x y : Option D} : (ρ.set i x).set i y = ρ.set i y := by simp
theorem te_get (hs : i = 0 → Δ.to = none) {σ : St} {H : Hp} {Q : VK} (h : TEof G Δ W (getE i) σ H Q) : tVar i σ H Q := by
  obtain ⟨ρ, L, s, k⟩ := h
  unfold getE at k
  cases e : ρ[i]? with
  | none => rw [e] at k; exact k.elim
  | some y =>
    cases y with
    | none => rw [e] at k; exact k.elim
    | some d =>
      rw [e] at k
      obtain ⟨v, e1, s1⟩ := s.take e hs
      refine ⟨v, e1, ?_⟩
      have hl := ilt e
      have hl' : i < (ρ.set i none).length := by simpa using hl
      simp only at k
      by_cases n : noOwn d = true
      · rw [if_pos n] at k
        have s2 := (s1.dup n).back hl' e1 hs
        rw [set_set', set_same e] at s2
        exact k v H s2
      · rw [if_neg n] at k
        have s2 := ((s1.frz).dup (freeze_noOwn d)).back hl' e1 hs
        rw [set_set'] at s2
        exact k v H s2
theorem te_mv (hs : i = 0 → Δ.to = none) {σ : St} {H : Hp} {Q : VK} (h : TEof G Δ W (mvE i) σ H Q) : tVar i σ H Q := by
  obtain ⟨ρ, L, s, k⟩ := h
  unfold mvE at k
  cases e : ρ[i]? with
  | none => rw [e] at k; exact k.elim
  | some y =>
    cases y with
    | none => rw [e] at k; exact k.elim
    | some d =>
      rw [e] at k
      obtain ⟨v, e1, s1⟩ := s.take e hs
      exact ⟨v, e1, k v H s1⟩
theorem SRS.add {H : Hp} {σ : St} {ρ : Env} {L : List Itm} {d : D} {v : V} (h : SRS G Δ H σ ρ L) (r : ∀ Z, Rep G H Z d v []) : SRS G Δ H σ ρ (.dv d v :: L) := by
  obtain ⟨⟨Z, F, s⟩, h2⟩ := h
  exact ⟨⟨Z, F, s.addF (i := .dv d v) (r Z)⟩, h2⟩
/-- a value that is the datum's wherever -/
theorem te_c {d : D} {v : V} (r : ∀ H Z, Rep G H Z d v []) {σ : St} {H : Hp} {Q : VK} (h : TEof G Δ W (cE d) σ H Q) : tC v σ H Q := by
  obtain ⟨ρ, L, s, k⟩ := h
  exact k v H (s.add (r H))
theorem rep_int (n : Int) (H : Hp) (Z : Addr → Prop) : Rep G H Z (.int n) (.int n) [] := by simp only [Rep]; exact ⟨trivial, trivial⟩
theorem rep_str (n : Str) (H : Hp) (Z : Addr → Prop) : Rep G H Z (.str n) (.str n) [] := by simp only [Rep]; exact ⟨trivial, trivial⟩
theorem rep_bl (n : Bool) (H : Hp) (Z : Addr → Prop) : Rep G H Z (.bl n) (.bl n) [] := by simp only [Rep]; exact ⟨trivial, trivial⟩
theorem rep_non (H : Hp) (Z : Addr → Prop) : Rep G H Z .non .non [] := by simp only [Rep]; exact ⟨trivial, trivial⟩
end

/-! ### displays -/
def tmpE (fs : List (Env → Res D)) : List OE := fs.map .e
/-- several values, one behind another -/
def evAll : List (Env → Res D) → Env → Res (List D)
  | [], ρ => .ok [] ρ
  | f :: r, ρ => (f ρ).bind fun d ρ1 => (evAll r ρ1).bind fun ds ρ2 => .ok (d :: ds) ρ2
theorem evOps_tmp : ∀ (fs : List (Env → Res D)) (ρ : Env), evOps (tmpE fs) ρ = (evAll fs ρ).bind fun ds ρ' => .ok (ds.map Sum.inl) ρ'
  | [], ρ => rfl
  | f :: r, ρ => by
    show ((f ρ).bind fun d ρ1 => (evOps (tmpE r) ρ1).bind fun os ρ2 => .ok (.inl d :: os) ρ2) = _
    simp only [evAll]
    cases f ρ with
    | stuck => rfl
    | exc c a ρ1 => rfl
    | ok d ρ1 =>
      simp only [Res.bind]
      rw [evOps_tmp r ρ1]
      cases evAll r ρ1 with
      | stuck => rfl
      | exc c a ρ1 => rfl
      | ok d ρ1 => rfl
theorem opI_tmp : ∀ {ds : List D} {vs : List V} {σ : St}, OpV σ (ds.map Sum.inl) vs → ds.length = vs.length ∧ opI (ds.map Sum.inl) vs = dvs ds vs
  | [], vs, σ, h => by
    have h : vs = [] := h
    subst h; exact ⟨rfl, rfl⟩
  | d :: ds, vs, σ, h => by
    obtain ⟨v, vr, rfl, h⟩ := h
    obtain ⟨h1, h2⟩ := opI_tmp h
    refine ⟨by simp [h1], ?_⟩
    show .dv d v :: opI (ds.map Sum.inl) vr = .dv d v :: dvs ds vr
    rw [h2]
def tupE (fs : List (Env → Res D)) : Env → Res D := fun ρ => (evAll fs ρ).bind fun ds ρ' => .ok (.tup ds) ρ'
def lstE (fs : List (Env → Res D)) : Env → Res D := fun ρ => (evAll fs ρ).bind fun ds ρ' => .ok (.lst true ds) ρ'
theorem evAll_len : ∀ {fs : List (Env → Res D)} {ρ ρ' : Env} {ds : List D}, evAll fs ρ = .ok ds ρ' → ds.length = fs.length
  | [], ρ, ρ', ds, h => by simp only [evAll] at h; cases h; rfl
  | f :: r, ρ, ρ', ds, h => by
    simp only [evAll] at h
    cases e : f ρ with
    | stuck => rw [e] at h; cases h
    | exc c a ρ1 => rw [e] at h; cases h
    | ok d ρ1 =>
      rw [e] at h
      simp only [Res.bind] at h
      cases e2 : evAll r ρ1 with
      | stuck => rw [e2] at h; cases h
      | exc c a ρ1 => rw [e2] at h; cases h
      | ok ds' ρ2 =>
        rw [e2] at h
        cases h
        simp [evAll_len e2]
section
variable {G : Gl} {Δ : Dy} {W : WX} {σ : St} {H : Hp} {Q : VK} {fs : List (Env → Res D)}
/-- all values loose -/
theorem ta_all {t : List V → Hp → Prop} {f : Env → Res D} (g : List D → D)
    (hf : ∀ ρ, f ρ = (evAll fs ρ).bind fun ds ρ' => .ok (g ds) ρ')
    (hk : ∀ ρ L ds vs H1, SRS G Δ H1 σ ρ (dvs ds vs ++ L) → ds.length = vs.length → ds.length = fs.length → (∀ v H2, SRS G Δ H2 σ ρ (.dv (g ds) v :: L) → Q v H2) → t vs H1)
    (h : TEof G Δ W f σ H Q) : TAof G Δ W (tmpE fs) σ H t := by
  obtain ⟨ρ, L, s, k⟩ := h
  refine ⟨ρ, L, s, ?_⟩
  rw [hf] at k
  rw [evOps_tmp]
  cases e : evAll fs ρ with
  | stuck => rw [e] at k; exact k
  | exc c a ρ1 => rw [e] at k; exact k
  | ok ds ρ1 =>
    rw [e] at k
    intro vs H1 s1 ov
    obtain ⟨l, e1⟩ := opI_tmp ov
    rw [e1] at s1
    exact hk ρ1 L ds vs H1 s1 l (evAll_len e) k
theorem te_tup (hz : fs.length ≤ sizeLine) (h : TEof G Δ W (tupE fs) σ H Q) : tTup (TAof G Δ W (tmpE fs)) σ H Q := by
  refine ta_all .tup (fun _ => rfl) (fun ρ L ds vs H1 s l l2 k => ⟨by rw [← l, l2]; exact hz, fun p hp => k _ _ ?_⟩) h
  refine ⟨?_, s.2⟩
  refine SR.closeT l ?_
  have := SR.allocT (vs := vs) s.1 hp
  rw [List.append_assoc] at this
  exact this
theorem te_lst (hz : fs.length ≤ sizeLine) (h : TEof G Δ W (lstE fs) σ H Q) : tLst (TAof G Δ W (tmpE fs)) σ H Q := by
  refine ta_all (.lst true) (fun _ => rfl) (fun ρ L ds vs H1 s l l2 k => ⟨by rw [← l, l2]; exact hz, fun p hp => k _ _ ?_⟩) h
  refine ⟨?_, s.2⟩
  refine SR.closeL l ?_
  have := SR.alloc (o := .lst vs) s.1 hp (nt_lst vs)
  rw [List.append_assoc] at this
  exact this
end

/-! ### what a consumer needs -/
section
variable {G : Gl} {H : Hp} {Z : Addr → Prop} {L : List Itm} {F : List Addr}
theorem SRz.addD (s : SRz G H Z L F) {d : D} {v : V} (r : Rep G H Z d v []) : SR G H (.dv d v :: L) := ⟨Z, F, s.addF (i := .dv d v) r⟩
theorem SRz.addDs (s : SRz G H Z L F) {ds : List D} {vs : List V} (r : Reps G H Z ds vs []) : SRz G H Z (dvs ds vs ++ L) F := by
  obtain ⟨l, q⟩ := Reps.its.mp r
  exact ⟨Its.app.mpr ⟨[], F, rfl, q, s.1⟩, s.2⟩
theorem RepsA.one {d : D} {vs : List V} (h : RepsA G H Z [d] vs) : ∃ v F, vs = [v] ∧ Rep G H Z d v F := by
  cases h with
  | cons h t => cases t; obtain ⟨F, h⟩ := h; exact ⟨_, F, rfl, h⟩
theorem RepsA.two {d e : D} {vs : List V} (h : RepsA G H Z [d, e] vs) : ∃ v w F F', vs = [v, w] ∧ Rep G H Z d v F ∧ Rep G H Z e w F' := by
  cases h with
  | cons h t =>
    cases t with
    | cons h2 t => cases t; obtain ⟨F, h⟩ := h; obtain ⟨F', h2⟩ := h2; exact ⟨_, _, F, F', rfl, h, h2⟩
theorem Rep.seqL {o : Bool} {xs : List D} {v : V} {F : List Addr} (h : Rep G H Z (.lst o xs) v F) : ∃ a vs F', v = .ref a ∧ SqL G.K H a vs ∧ Reps G H Z xs vs F' := by
  simp only [Rep] at h
  obtain ⟨a, vs, F', e, r, c⟩ := h
  cases o with
  | true =>
    simp only [if_true] at c
    exact ⟨a, vs, F', e, .inl (.inl c.1), r⟩
  | false =>
    simp only [Bool.false_eq_true, if_false] at c
    exact ⟨a, vs, F', e, c.1.imp (fun z => z.1) id, r⟩
theorem Rep.seqT {xs : List D} {v : V} {F : List Addr} (h : Rep G H Z (.tup xs) v F) : ∃ a vs, v = .ref a ∧ SqT G.K H a vs ∧ Reps G H Z xs vs F := by
  simp only [Rep] at h
  exact h
theorem Reps.noOwn {xs : List D} {vs : List V} {F : List Addr} (n : noOwns xs = true) (h : Reps G H Z xs vs F) : Reps G H Z xs vs [] := by
  have := Reps.nil xs vs F n h
  rw [this] at h; exact h
theorem Reps.app : ∀ {xs ys : List D} {vs ws : List V} {F F' : List Addr}, Reps G H Z xs vs F → Reps G H Z ys ws F' → Reps G H Z (xs ++ ys) (vs ++ ws) (F ++ F')
  | [], ys, vs, ws, F, F', h, h2 => by
    simp only [Reps] at h
    rw [h.1, h.2]; exact h2
  | x :: xs, ys, vs, ws, F, F', h, h2 => by
    simp only [Reps] at h
    obtain ⟨v, r, F1, F2, e1, e2, h3, h4⟩ := h
    subst e1 e2
    show Reps G H Z (x :: (xs ++ ys)) (v :: (r ++ ws)) ((F1 ++ F2) ++ F')
    simp only [Reps]
    exact ⟨v, r ++ ws, F1, F2 ++ F', rfl, by simp, h3, Reps.app h4 h2⟩
/-- a new tuple of shared items -/
theorem SRz.newT (s : SRz G H Z L F) {xs : List D} {vs : List V} (r : Reps G H Z xs vs []) {p : Addr} (hp : H p = none) : SR G (upd H p (.tup vs)) (.dv (.tup xs) (.ref p) :: L) :=
  SR.closeT (Reps_length r) (SR.allocT (s.addDs r).sr hp)
/-- a new list of shared items -/
theorem SRz.newL (s : SRz G H Z L F) {xs : List D} {vs : List V} (r : Reps G H Z xs vs []) {p : Addr} (hp : H p = none) : SR G (upd H p (.lst vs)) (.dv (.lst true xs) (.ref p) :: L) :=
  SR.closeL (Reps_length r) (SR.alloc (s.addDs r).sr hp (nt_lst vs))
end

/-! ### operators by values -/
def opL (r : R2) : List V → Hp → VK → Prop := fun vs H Q => ∃ x y, vs = [x, y] ∧ r x y H Q
section
variable {G : Gl} {Δ : Dy} {W : WX} {X : Cx} {a b : Expr} {fa fb : OE} {sem : List D → Option D} {r : R2}
theorem te_two {σ : St} {H : Hp} {Q : VK} (c : Con G (opL r) sem) (h : TEof G Δ W (conE [fa, fb] sem) σ H Q) : tOp r (opTE G Δ W fa) (opTE G Δ W fb) σ H Q := by
  have h1 := ta_cons (con_te c h)
  -- one operand, then the other
  have mono : ∀ (f : OE) (Q1 Q2 : VK), (∀ x H, Q1 x H → Q2 x H) → ∀ σ H, opTE G Δ W f σ H Q1 → opTE G Δ W f σ H Q2 := by
    intro f Q1 Q2 i σ H h
    cases f with
    | e f =>
      obtain ⟨ρ, L, s, k⟩ := h
      refine ⟨ρ, L, s, ?_⟩
      cases e : f ρ with
      | stuck => rw [e] at k; exact k
      | exc c a ρ1 => rw [e] at k; exact k
      | ok d ρ1 => rw [e] at k; exact fun v H' s' => i _ _ (k v H' s')
    | b j =>
      obtain ⟨v, e, q⟩ := h
      exact ⟨v, e, i _ _ q⟩
  refine mono fa _ _ (fun x H1 q => ?_) σ H h1
  refine mono fb _ _ (fun y H2 q => ?_) σ H1 (ta_cons q)
  obtain ⟨x', y', e, q⟩ := ta_nil q
  cases e
  exact q
theorem pe_two {op : Operator} {pos : Pos} (ho : OpR X (binaryOp op) r) (c : Con G (opL r) sem) (ha : PE X a (opTE G Δ W fa)) (hb : PE X b (opTE G Δ W fb)) : PE X (.BinOp a op b pos) (TEof G Δ W (conE [fa, fb] sem)) :=
  pe_imp (pe_op ho ha hb) fun _ _ _ h => te_two c h
theorem pe_cmp2 {op : CmpOp} {pos : Pos} (ho : OpR X (compareOp op) r) (c : Con G (opL r) sem) (ha : PE X a (opTE G Δ W fa)) (hb : PE X b (opTE G Δ W fb)) (hm : behindInMarks op b = false) : PE X (.Compare a [op] [b] pos) (TEof G Δ W (conE [fa, fb] sem)) :=
  pe_imp (pe_cmpR ho ha hb hm) fun _ _ _ h => te_two c h
end
end Ev

end T_V5
section T_V6
set_option Elab.async false
set_option linter.all false
set_option maxRecDepth 100000
set_option maxHeartbeats 4000000
/-! Ev, part 6: comparisons and arithmetic of data. -/
namespace Ev
open PySem PySem.Spec L2
open PyProof.Rows hiding St

mutual
def toPy : D → Option PyData
  | .non => some .none
  | .bl b => some (.bool b)
  | .int i => some (.int i)
  | .str x => some (.str x)
  | .tup xs => (toPys xs).map .tuple
  | .lst _ xs => (toPys xs).map .list
  | _ => none
def toPys : List D → Option (List PyData)
  | [] => some []
  | x :: r => match toPy x, toPys r with
    | some p, some ps => some (p :: ps)
    | _, _ => none
end
section
variable {G : Gl} {H : Hp} {Z : Addr → Prop}
mutual
theorem rep_dp : ∀ (d : D) (v : V) (F : List Addr) (p : PyData), Rep G H Z d v F → toPy d = some p → Dp G.K H v p
  | .non, v, F, p, h, e => by simp only [Rep] at h; simp only [toPy] at e; cases e; rw [h.1]; exact .non
  | .bl b, v, F, p, h, e => by simp only [Rep] at h; simp only [toPy] at e; cases e; rw [h.1]; exact .bl b
  | .int b, v, F, p, h, e => by simp only [Rep] at h; simp only [toPy] at e; cases e; rw [h.1]; exact .int b
  | .str b, v, F, p, h, e => by simp only [Rep] at h; simp only [toPy] at e; cases e; rw [h.1]; exact .str b
  | .tup xs, v, F, p, h, e => by
    obtain ⟨a, vs, rfl, s, r⟩ := Rep.seqT h
    simp only [toPy, Option.map_eq_some_iff] at e
    obtain ⟨ps, e, rfl⟩ := e
    exact .tup s (reps_dp xs vs F ps r e)
  | .lst o xs, v, F, p, h, e => by
    obtain ⟨a, vs, F', rfl, s, r⟩ := Rep.seqL h
    simp only [toPy, Option.map_eq_some_iff] at e
    obtain ⟨ps, e, rfl⟩ := e
    exact .lst s (reps_dp xs vs F' ps r e)
  | .dct _ _ _, _, _, _, _, e => by simp [toPy] at e
  | .ins _ _ _, _, _, _, _, e => by simp [toPy] at e
  | .fn _, _, _, _, _, e => by simp [toPy] at e
  | .exn _ _, _, _, _, _, e => by simp [toPy] at e
  | .thk, _, _, _, _, e => by simp [toPy] at e
theorem reps_dp : ∀ (d : List D) (v : List V) (F : List Addr) (p : List PyData), Reps G H Z d v F → toPys d = some p → DpAll G.K H v p
  | [], v, F, p, h, e => by simp only [Reps] at h; simp only [toPys] at e; cases e; rw [h.1]; exact .nil
  | x :: r, v, F, p, h, e => by
    simp only [Reps] at h
    obtain ⟨v, vr, F1, F2, rfl, rfl, h1, h2⟩ := h
    simp only [toPys] at e
    cases e1 : toPy x with
    | none => rw [e1] at e; cases e
    | some q =>
      cases e2 : toPys r with
      | none => rw [e1, e2] at e; cases e
      | some qs =>
        rw [e1, e2] at e
        cases e
        exact .cons (rep_dp x v F1 q h1 e1) (reps_dp r vr F2 qs h2 e2)
end
end

/-! ### rules by values -/
section
variable {X : Cx}
def rDat (K : PySem.W.Frag) (ok : PyData → PyData → Bool) (g : PyData → PyData → Bool) : R2 := fun x y H Q => ∃ d e, Dp K H x d ∧ Dp K H y e ∧ ok d e = true ∧ Q (.bl (g d e)) H
def okOrd (d e : PyData) : Bool := PySem.W.alike d e && (match d with | .none => false | _ => true) && decide (d.depth ≤ 60)
theorem okOrd_ne {d e : PyData} (h : okOrd d e = true) : PySem.W.alike d e = true ∧ d ≠ .none ∧ d.depth ≤ 60 := by
  unfold okOrd at h
  simp only [Bool.and_eq_true, decide_eq_true_eq] at h
  refine ⟨h.1.1, fun z => ?_, h.2⟩
  subst z
  have := h.1.2
  cases this
theorem ord_rule (hu : X.A.units + 64 < cLine) {op : CmpOp} {g : PyData → PyData → Bool}
    (rule : ∀ {prog : Program} {w : World} {A : Around} {E : Value → Shared → Prop} {s : Shared} {a b : Value} {da db : PyData} {as bs : List Addr} {Q : Value → Shared → Prop}, Reads s.heap a da as → Reads s.heap b db bs → PySem.W.alike da db = true → da ≠ .none → A.units + min da.depth db.depth < cLine → Q (.bool (g da db)) s → wpAny (model prog w) A (compareOp op a b) Q E s) :
    OpR X (compareOp op) (rDat X.K okOrd g) := by
  intro pins s σ H x y v u Q I rx ry h
  obtain ⟨d, e, hd, he, ok, q⟩ := h
  obtain ⟨as, r1⟩ := Dp.reads I d x v hd rx
  obtain ⟨bs, r2⟩ := Dp.reads I e y u he ry
  obtain ⟨o1, o2, o3⟩ := okOrd_ne ok
  exact rule r1 r2 o1 o2 (by omega) ⟨.bl _, H, I, rfl, q⟩
theorem op_ltD (hu : X.A.units + 64 < cLine) : OpR X (compareOp .Lt) (rDat X.K okOrd PySem.W.dataLt) := ord_rule hu PySem.W.lt_data
theorem op_gtD (hu : X.A.units + 64 < cLine) : OpR X (compareOp .Gt) (rDat X.K okOrd fun a b => PySem.W.dataLt b a) := ord_rule hu PySem.W.gt_data
theorem op_leD (hu : X.A.units + 64 < cLine) : OpR X (compareOp .LtE) (rDat X.K okOrd fun a b => !PySem.W.dataLt b a) := ord_rule hu PySem.W.le_data
theorem op_geD (hu : X.A.units + 64 < cLine) : OpR X (compareOp .GtE) (rDat X.K okOrd fun a b => !PySem.W.dataLt a b) := ord_rule hu PySem.W.ge_data
def okEq (d e : PyData) : Bool := SeqAt.shaped d && SeqAt.shaped e
theorem op_eqD2 (hu : X.A.units + 64 < cLine) : OpR X (compareOp .Eq) (rDat X.K okEq PyData.eqv) := by
  intro pins s σ H x y v u Q I rx ry h
  obtain ⟨d, e, hd, he, ok, q⟩ := h
  simp only [okEq, Bool.and_eq_true] at ok
  exact op_eqD hu pins s σ H x y v u Q I rx ry ⟨d, e, hd, he, ok.1, ok.2, q⟩
theorem op_neD2 (hu : X.A.units + 64 < cLine) : OpR X (compareOp .NotEq) (rDat X.K okEq fun a b => !PyData.eqv a b) := by
  intro pins s σ H x y v u Q I rx ry h
  obtain ⟨d, e, hd, he, ok, q⟩ := h
  simp only [okEq, Bool.and_eq_true] at ok
  exact op_neD hu pins s σ H x y v u Q I rx ry ⟨d, e, hd, he, ok.1, ok.2, q⟩
def itemsOf : PyData → Option (List PyData)
  | .list ds => some ds
  | .tuple ds => some ds
  | _ => none
def okIn (d e : PyData) : Bool := SeqAt.shaped d && SeqAt.shaped e && (itemsOf e).isSome
def inD (d e : PyData) : Bool := ((itemsOf e).getD []).any fun z => PyData.eqv z d
theorem room_in_T {ds : List PyData} {d : PyData} {u : Nat} (h : SeqAt.shaped d = true) (hu : u + 65 < cLine) : u + 1 + min (PyData.depthAll ds) d.depth < cLine := by
  unfold SeqAt.shaped at h
  simp only [Bool.and_eq_true, decide_eq_true_eq] at h
  omega
theorem shaped_lay {ds : List PyData} (h : SeqAt.shaped (.tuple ds) = true) : PyData.canLayAll0 ds = true := by
  unfold SeqAt.shaped at h
  simp only [Bool.and_eq_true, PyData.canLay0] at h
  exact h.1
theorem op_inD2 (hu : X.A.units + 65 < cLine) : OpR X (compareOp .In) (rDat X.K okIn inD) := by
  intro pins s σ H x y v u Q I rx ry h
  obtain ⟨d, e, hd, he, ok, q⟩ := h
  simp only [okIn, Bool.and_eq_true] at ok
  obtain ⟨⟨o1, o2⟩, o3⟩ := ok
  cases e with
  | list ds => exact op_inD hu pins s σ H x y v u Q I rx ry ⟨d, ds, hd, he, o1, o2, q⟩
  | tuple ds =>
    obtain ⟨as, r1⟩ := Dp.reads I d x v hd rx
    obtain ⟨bs, r2⟩ := Dp.reads I _ y u he ry
    exact SeqAt.in_tuple_reads r2 r1 (shaped_lay o2) (SeqAt.canLay_of_shaped o1) (room_in_T o1 hu) ⟨.bl _, H, I, rfl, q⟩
  | none => cases o3
  | bool _ => cases o3
  | int _ => cases o3
  | str _ => cases o3
  | dict _ => cases o3
theorem op_notInD2 (hu : X.A.units + 65 < cLine) : OpR X (compareOp .NotIn) (rDat X.K okIn fun a b => !inD a b) := by
  intro pins s σ H x y v u Q I rx ry h
  obtain ⟨d, e, hd, he, ok, q⟩ := h
  simp only [okIn, Bool.and_eq_true] at ok
  obtain ⟨⟨o1, o2⟩, o3⟩ := ok
  cases e with
  | list ds => exact op_notInD hu pins s σ H x y v u Q I rx ry ⟨d, ds, hd, he, o1, o2, q⟩
  | tuple ds =>
    obtain ⟨as, r1⟩ := Dp.reads I d x v hd rx
    obtain ⟨bs, r2⟩ := Dp.reads I _ y u he ry
    exact SeqAt.notIn_tuple_reads r2 r1 (shaped_lay o2) (SeqAt.canLay_of_shaped o1) (room_in_T o1 hu) ⟨.bl _, H, I, rfl, q⟩
  | none => cases o3
  | bool _ => cases o3
  | int _ => cases o3
  | str _ => cases o3
  | dict _ => cases o3
/-- list + list, any two that may be read -/
def rCatS (K : PySem.W.Frag) : R2 := fun x y H Q => ∃ l b xs zs, x = .ref l ∧ y = .ref b ∧ SqL K H l xs ∧ SqL K H b zs ∧ xs.length + zs.length ≤ sizeLine ∧ ∀ p, H p = none → Q (.ref p) (upd H p (.lst (xs ++ zs)))
theorem op_catS : OpR X (binaryOp .Add) (rCatS X.K) := by
  intro pins s σ H x y v u Q I rx ry h
  obtain ⟨l, b, xs, zs, rfl, rfl, hH, hB, hz, q⟩ := h
  cases rx
  cases ry
  obtain ⟨its, r, p1, z⟩ := I.list hH
  obtain ⟨its2, r2, p2, z2⟩ := I.list hB
  have hl := r.length
  have hl2 := r2.length
  obtain ⟨⟨cc, dd, dt, sl⟩, ho, hc, n, hd⟩ := p1.isList
  obtain ⟨⟨cc2, dd2, dt2, sl2⟩, ho2, hc2, n2, hd2⟩ := p2.isList
  simp only at hc hd hc2 hd2
  subst hc hd hc2 hd2
  have ea : its.toArray ++ its2.toArray = (its ++ its2).toArray := by simp
  refine concat_meets ⟨_, ho, rfl⟩ ⟨_, ho2, rfl⟩ noFill_list_add seq_list_add PySem.F.slot_list_add PySem.F.entry_list_add (PySem.F.args_list_add_2 _ _) (list_addW l b its.toArray its2.toArray n n2 dd dd2 sl sl2 (by rw [List.size_toArray, List.size_toArray]; omega)) ⟨ho, ho2, ?_⟩
  rw [ea]
  exact ⟨.ref _, _, I.lnew (t' := s.toks) (r.append r2) (by rw [List.length_append]; omega), rfl, q _ I.fresh⟩
end

/-! ### what the operators say of data -/
def addS : List D → Option D
  | [.int a, .int b] => some (.int (a + b))
  | [.str a, .str b] => if a.length + b.length ≤ sizeLine then some (.str (a ++ b)) else none
  | [.tup a, .tup b] => if (noOwns a && noOwns b && decide (a.length + b.length ≤ sizeLine)) = true then some (.tup (a ++ b)) else none
  | [.lst _ a, .lst _ b] => if (noOwns a && noOwns b && decide (a.length + b.length ≤ sizeLine)) = true then some (.lst true (a ++ b)) else none
  | _ => none
def subS : List D → Option D
  | [.int a, .int b] => some (.int (a - b))
  | _ => none
def mulOk (a b : Int) : Bool := decide (a.natAbs < 2 ^ 63) || decide (b.natAbs < 2 ^ 63) || decide (a.natAbs.log2 + b.natAbs.log2 < 1000000)
def mulS : List D → Option D
  | [.int a, .int b] => if mulOk a b = true then some (.int (a * b)) else none
  | [.lst o a, .int k] => if (o && noOwns a && decide (a.length * k.toNat ≤ sizeLine) && decide (k.natAbs < 2 ^ 62)) = true then some (.lst true (List.replicate k.toNat a).flatten) else none
  | [.tup a, .int k] => if (noOwns a && !a.isEmpty && decide (a.length ≤ 1000) && decide (2 ≤ k) && decide (k ≤ 1000)) = true then some (.tup (List.replicate k.toNat a).flatten) else none
  | _ => none
def divS : List D → Option D
  | [.int a, .int b] => if (decide (b ≠ 0) && (decide (b.natAbs < 1073741824) || (decide (0 < b) && decide (b.natAbs.log2 < 9000)))) = true then some (.int (a.fdiv b)) else none
  | _ => none
def modS : List D → Option D
  | [.int a, .int b] => if b ≠ 0 then some (.int (a.fmod b)) else none
  | _ => none
def powS : List D → Option D
  | [.int a, .int b] => if (decide (0 ≤ b) && decide (b ≤ 1000) && decide (a.natAbs < 2 ^ 60)) = true then some (.int (a ^ b.toNat)) else none
  | _ => none
def datS (ok g : PyData → PyData → Bool) : D → D → Option D := fun a b => match toPy a, toPy b with
  | some p, some q => if ok p q = true then some (.bl (g p q)) else none
  | _, _ => none
def eqS : List D → Option D
  | [.int a, .int b] => some (.bl (decide (a = b)))
  | [.bl a, .bl b] => some (.bl (decide (a = b)))
  | [.str a, .str b] => some (.bl (decide (a = b)))
  | [a, b] => datS okEq PyData.eqv a b
  | _ => none
def neS : List D → Option D
  | [.int a, .int b] => some (.bl (!decide (a = b)))
  | [.bl a, .bl b] => some (.bl (!decide (a = b)))
  | [.str a, .str b] => some (.bl (!decide (a = b)))
  | [a, b] => datS okEq (fun a b => !PyData.eqv a b) a b
  | _ => none
def ltS : List D → Option D
  | [.int a, .int b] => some (.bl (decide (a < b)))
  | [a, b] => datS okOrd PySem.W.dataLt a b
  | _ => none
def leS : List D → Option D
  | [.int a, .int b] => some (.bl (decide (a ≤ b)))
  | [a, b] => datS okOrd (fun a b => !PySem.W.dataLt b a) a b
  | _ => none
def gtS : List D → Option D
  | [.int a, .int b] => some (.bl (decide (b < a)))
  | [a, b] => datS okOrd (fun a b => PySem.W.dataLt b a) a b
  | _ => none
def geS : List D → Option D
  | [.int a, .int b] => some (.bl (decide (b ≤ a)))
  | [a, b] => datS okOrd (fun a b => !PySem.W.dataLt a b) a b
  | _ => none
def inStr (i j : Str) : Bool := !(Builtin.Str.occurrences j i 0 j.length 1).isEmpty
def inS : List D → Option D
  | [.str a, .str b] => some (.bl (inStr a b))
  | [a, b] => datS okIn inD a b
  | _ => none
def ninS : List D → Option D
  | [.str a, .str b] => some (.bl (!inStr a b))
  | [a, b] => datS okIn (fun a b => !inD a b) a b
  | _ => none
/-- is: None, a flag on the right -/
def isS : List D → Option D
  | [a, .non] => some (.bl (decide (a = .non)))
  | [.bl a, .bl b] => some (.bl (decide (a = b)))
  | _ => none
def isnS : List D → Option D
  | [a, .non] => some (.bl (!decide (a = .non)))
  | [.bl a, .bl b] => some (.bl (!decide (a = b)))
  | _ => none

section
variable {G : Gl} {H : Hp} {Z : Addr → Prop}
/-- a scalar comes -/
theorem con_scal {r : R2} {sem : List D → Option D}
    (h : ∀ (H : Hp) (Z : Addr → Prop) (a b d : D) (x y : V) (F F' : List Addr) (Q : VK), sem [a, b] = some d → Rep G H Z a x F → Rep G H Z b y F' → (∀ v, (∀ Z, Rep G H Z d v []) → Q v H) → r x y H Q)
    (l : ∀ ds, (∀ a b, ds ≠ [a, b]) → sem ds = none) : Con G (opL r) sem := by
  intro H Z L F ds vs Q d s ra e k
  match ds, e, ra with
  | [a, b], e, ra =>
    obtain ⟨x, y, F1, F2, rfl, h1, h2⟩ := ra.two
    exact ⟨x, y, rfl, h H Z a b d x y F1 F2 Q e h1 h2 fun v q => k v H (s.addD (q Z))⟩
  | [], e, _ => rw [l [] (by intro a b z; cases z)] at e; cases e
  | [a], e, _ => rw [l [a] (by intro a b z; cases z)] at e; cases e
  | a :: b :: c :: r, e, _ => rw [l (a :: b :: c :: r) (by intro a b z; cases z)] at e; cases e
theorem rep_i {i : Int} {v : V} {F : List Addr} (h : Rep G H Z (.int i) v F) : v = .int i := by simp only [Rep] at h; exact h.1
theorem rep_s {i : Str} {v : V} {F : List Addr} (h : Rep G H Z (.str i) v F) : v = .str i := by simp only [Rep] at h; exact h.1
theorem rep_b {i : Bool} {v : V} {F : List Addr} (h : Rep G H Z (.bl i) v F) : v = .bl i := by simp only [Rep] at h; exact h.1
theorem rep_n {v : V} {F : List Addr} (h : Rep G H Z .non v F) : v = .non := by simp only [Rep] at h; exact h.1
theorem datS_r {ok g : PyData → PyData → Bool} {a b d : D} {x y : V} {F F' : List Addr} {Q : VK} (e : datS ok g a b = some d) (h1 : Rep G H Z a x F) (h2 : Rep G H Z b y F') (k : ∀ v, (∀ Z, Rep G H Z d v []) → Q v H) : rDat G.K ok g x y H Q := by
  unfold datS at e
  cases e1 : toPy a with
  | none => rw [e1] at e; cases e
  | some p =>
    cases e2 : toPy b with
    | none => rw [e1, e2] at e; cases e
    | some q =>
      rw [e1, e2] at e
      simp only at e
      split at e
      · rename_i o
        cases e
        exact ⟨p, q, rep_dp a x F p h1 e1, rep_dp b y F' q h2 e2, o, k _ (rep_bl _ H)⟩
      · cases e
end
end Ev

end T_V6
section T_V7
set_option Elab.async false
set_option linter.all false
set_option maxRecDepth 100000
set_option maxHeartbeats 4000000
/-! Ev, part 7: the operators do what is said of data. -/
namespace Ev
open PySem PySem.Spec L2
open PyProof.Rows hiding St

def orR (r r' : R2) : R2 := fun x y H Q => r x y H Q ∨ r' x y H Q
section
variable {G : Gl}
/-- one of several scalars, or data -/
theorem con_sc {sem : List D → Option D} {ok g : PyData → PyData → Bool} {r : R2}
    (hs : ∀ a b d, sem [a, b] = some d → (∃ i j, a = .int i ∧ b = .int j ∧ d = .bl (g (.int i) (.int j))) ∨ (∃ i j, a = .bl i ∧ b = .bl j ∧ d = .bl (g (.bool i) (.bool j))) ∨ (∃ i j, a = .str i ∧ b = .str j ∧ d = .bl (g (.str i) (.str j))) ∨ datS ok g a b = some d)
    (hi : ∀ i j H (Q : VK), Q (.bl (g (.int i) (.int j))) H → r (.int i) (.int j) H Q) (hb : ∀ i j H (Q : VK), Q (.bl (g (.bool i) (.bool j))) H → r (.bl i) (.bl j) H Q) (ht : ∀ i j H (Q : VK), Q (.bl (g (.str i) (.str j))) H → r (.str i) (.str j) H Q)
    (l : ∀ ds, (∀ a b, ds ≠ [a, b]) → sem ds = none) : Con G (opL (orR r (rDat G.K ok g))) sem := by
  refine con_scal (fun H Z a b d x y F F' Q e h1 h2 k => ?_) l
  rcases hs a b d e with ⟨i, j, rfl, rfl, rfl⟩ | ⟨i, j, rfl, rfl, rfl⟩ | ⟨i, j, rfl, rfl, rfl⟩ | e
  · rw [rep_i h1, rep_i h2]; exact .inl (hi i j H Q (k _ (rep_bl _ H)))
  · rw [rep_b h1, rep_b h2]; exact .inl (hb i j H Q (k _ (rep_bl _ H)))
  · rw [rep_s h1, rep_s h2]; exact .inl (ht i j H Q (k _ (rep_bl _ H)))
  · exact .inr (datS_r e h1 h2 k)
theorem eqv_i (i j : Int) : PyData.eqv (.int i) (.int j) = decide (i = j) := by simp only [PyData.eqv]; exact Bool.beq_eq_decide_eq i j
theorem eqv_b (i j : Bool) : PyData.eqv (.bool i) (.bool j) = decide (i = j) := by simp only [PyData.eqv]; exact Bool.beq_eq_decide_eq i j
theorem eqv_s (i j : Str) : PyData.eqv (.str i) (.str j) = decide (i = j) := by
  simp only [PyData.eqv]
  by_cases h : i = j
  · subst h; simp
  · rw [decide_eq_false h]; exact beq_eq_false_iff_ne.mpr h
theorem dV_i (i j : Int) : decide (V.int i = V.int j) = decide (i = j) := by simp only [V.int.injEq]
theorem dV_b (i j : Bool) : decide (V.bl i = V.bl j) = decide (i = j) := by simp only [V.bl.injEq]
theorem dV_s (i j : Str) : decide (V.str i = V.str j) = decide (i = j) := by simp only [V.str.injEq]
theorem con_eq : Con G (opL (orR rEq (rDat G.K okEq PyData.eqv))) eqS := by
  refine con_sc (fun a b d e => ?_) (fun i j H Q q => ⟨rfl, by rw [dV_i, ← eqv_i]; exact q⟩) (fun i j H Q q => ⟨rfl, by rw [dV_b, ← eqv_b]; exact q⟩) (fun i j H Q q => ⟨rfl, by rw [dV_s, ← eqv_s]; exact q⟩) (fun ds n => ?_)
  · cases a <;> cases b <;> first
      | exact .inr (.inr (.inr e))
      | (simp only [eqS] at e; cases e; exact .inl ⟨_, _, rfl, rfl, by rw [eqv_i]⟩)
      | (simp only [eqS] at e; cases e; exact .inr (.inl ⟨_, _, rfl, rfl, by rw [eqv_b]⟩))
      | (simp only [eqS] at e; cases e; exact .inr (.inr (.inl ⟨_, _, rfl, rfl, by rw [eqv_s]⟩)))
  · match ds, n with
    | [], _ => rfl
    | [a], _ => cases a <;> rfl
    | [a, b], n => exact (n a b rfl).elim
    | a :: b :: c :: r, _ => cases a <;> cases b <;> rfl
theorem con_ne : Con G (opL (orR rNe (rDat G.K okEq fun a b => !PyData.eqv a b))) neS := by
  refine con_sc (fun a b d e => ?_) (fun i j H Q q => ⟨rfl, by rw [dV_i, ← eqv_i]; exact q⟩) (fun i j H Q q => ⟨rfl, by rw [dV_b, ← eqv_b]; exact q⟩) (fun i j H Q q => ⟨rfl, by rw [dV_s, ← eqv_s]; exact q⟩) (fun ds n => ?_)
  · cases a <;> cases b <;> first
      | exact .inr (.inr (.inr e))
      | (simp only [neS] at e; cases e; exact .inl ⟨_, _, rfl, rfl, by rw [eqv_i]⟩)
      | (simp only [neS] at e; cases e; exact .inr (.inl ⟨_, _, rfl, rfl, by rw [eqv_b]⟩))
      | (simp only [neS] at e; cases e; exact .inr (.inr (.inl ⟨_, _, rfl, rfl, by rw [eqv_s]⟩)))
  · match ds, n with
    | [], _ => rfl
    | [a], _ => cases a <;> rfl
    | [a, b], n => exact (n a b rfl).elim
    | a :: b :: c :: r, _ => cases a <;> cases b <;> rfl
/-- an order -/
theorem con_ord {sem : List D → Option D} {p : Int → Int → Bool} {g : PyData → PyData → Bool} (hi : ∀ i j, sem [.int i, .int j] = some (.bl (p i j))) (hd : ∀ a b, (∀ i j, a = .int i → b = .int j → False) → sem [a, b] = datS okOrd g a b)
    (hn : ∀ ds, (∀ a b, ds ≠ [a, b]) → sem ds = none) : Con G (opL (orR (rI0 fun i j => .bl (p i j)) (rDat G.K okOrd g))) sem := by
  refine con_scal (fun H Z a b d x y F F' Q e h1 h2 k => ?_) hn
  by_cases h : ∃ i j, a = .int i ∧ b = .int j
  · obtain ⟨i, j, rfl, rfl⟩ := h
    rw [hi] at e
    cases e
    exact .inl ⟨i, j, rep_i h1, rep_i h2, k _ (rep_bl _ H)⟩
  · rw [hd a b fun i j e1 e2 => h ⟨i, j, e1, e2⟩] at e
    exact .inr (datS_r e h1 h2 k)
theorem con_lt : Con G (opL (orR (rI0 fun i j => .bl (decide (i < j))) (rDat G.K okOrd PySem.W.dataLt))) ltS := by
  refine con_ord (fun _ _ => rfl) (fun a b h => ?_) (fun ds n => ?_)
  · cases a <;> cases b <;> first | rfl | exact (h _ _ rfl rfl).elim
  · match ds, n with
    | [], _ => rfl
    | [a], _ => cases a <;> rfl
    | [a, b], n => exact (n a b rfl).elim
    | a :: b :: c :: r, _ => cases a <;> cases b <;> rfl
theorem con_gt : Con G (opL (orR (rI0 fun i j => .bl (decide (j < i))) (rDat G.K okOrd fun a b => PySem.W.dataLt b a))) gtS := by
  refine con_ord (fun _ _ => rfl) (fun a b h => ?_) (fun ds n => ?_)
  · cases a <;> cases b <;> first | rfl | exact (h _ _ rfl rfl).elim
  · match ds, n with
    | [], _ => rfl
    | [a], _ => cases a <;> rfl
    | [a, b], n => exact (n a b rfl).elim
    | a :: b :: c :: r, _ => cases a <;> cases b <;> rfl
theorem con_le : Con G (opL (orR (rI0 fun i j => .bl (decide (i ≤ j))) (rDat G.K okOrd fun a b => !PySem.W.dataLt b a))) leS := by
  refine con_ord (fun _ _ => rfl) (fun a b h => ?_) (fun ds n => ?_)
  · cases a <;> cases b <;> first | rfl | exact (h _ _ rfl rfl).elim
  · match ds, n with
    | [], _ => rfl
    | [a], _ => cases a <;> rfl
    | [a, b], n => exact (n a b rfl).elim
    | a :: b :: c :: r, _ => cases a <;> cases b <;> rfl
theorem con_ge : Con G (opL (orR (rI0 fun i j => .bl (decide (j ≤ i))) (rDat G.K okOrd fun a b => !PySem.W.dataLt a b))) geS := by
  refine con_ord (fun _ _ => rfl) (fun a b h => ?_) (fun ds n => ?_)
  · cases a <;> cases b <;> first | rfl | exact (h _ _ rfl rfl).elim
  · match ds, n with
    | [], _ => rfl
    | [a], _ => cases a <;> rfl
    | [a, b], n => exact (n a b rfl).elim
    | a :: b :: c :: r, _ => cases a <;> cases b <;> rfl
def rInS (neg : Bool) : R2 := fun x y H Q => ∃ i j, x = .str i ∧ y = .str j ∧ Q (.bl (if neg then !inStr i j else inStr i j)) H
theorem con_in1 {sem : List D → Option D} {neg : Bool} {g : PyData → PyData → Bool} (hs : ∀ a b d, sem [a, b] = some d → (∃ i j, a = .str i ∧ b = .str j ∧ d = .bl (if neg then !inStr i j else inStr i j)) ∨ datS okIn g a b = some d)
    (l : ∀ ds, (∀ a b, ds ≠ [a, b]) → sem ds = none) : Con G (opL (orR (rInS neg) (rDat G.K okIn g))) sem := by
  refine con_scal (fun H Z a b d x y F F' Q e h1 h2 k => ?_) l
  rcases hs a b d e with ⟨i, j, rfl, rfl, rfl⟩ | e
  · exact .inl ⟨_, _, rep_s h1, rep_s h2, k _ (rep_bl _ H)⟩
  · exact .inr (datS_r e h1 h2 k)
theorem con_in : Con G (opL (orR (rInS false) (rDat G.K okIn inD))) inS := by
  refine con_in1 (fun a b d e => ?_) (fun ds n => ?_)
  · cases a <;> cases b <;> first
      | exact .inr e
      | (simp only [inS] at e; cases e; exact .inl ⟨_, _, rfl, rfl, rfl⟩)
  · match ds, n with
    | [], _ => rfl
    | [a], _ => cases a <;> rfl
    | [a, b], n => exact (n a b rfl).elim
    | a :: b :: c :: r, _ => cases a <;> cases b <;> rfl
theorem con_nin : Con G (opL (orR (rInS true) (rDat G.K okIn fun a b => !inD a b))) ninS := by
  refine con_in1 (fun a b d e => ?_) (fun ds n => ?_)
  · cases a <;> cases b <;> first
      | exact .inr e
      | (simp only [ninS] at e; cases e; exact .inl ⟨_, _, rfl, rfl, rfl⟩)
  · match ds, n with
    | [], _ => rfl
    | [a], _ => cases a <;> rfl
    | [a, b], n => exact (n a b rfl).elim
    | a :: b :: c :: r, _ => cases a <;> cases b <;> rfl
/-- only None stands for None -/
theorem rep_non_iff {H : Hp} {Z : Addr → Prop} : ∀ {a : D} {x : V} {F : List Addr}, Rep G H Z a x F → decide (x = V.non) = decide (a = .non) := by
  intro a x F h
  cases a with
  | non => rw [rep_n h]; rfl
  | tup xs => obtain ⟨b, _, rfl, _⟩ := Rep.seqT h; rfl
  | lst o xs => obtain ⟨b, _, _, rfl, _⟩ := Rep.seqL h; rfl
  | dct o ks xs => simp only [Rep] at h; obtain ⟨b, _, _, _, rfl, _⟩ := h; rfl
  | ins o c xs => simp only [Rep] at h; obtain ⟨b, _, _, _, rfl, _⟩ := h; rfl
  | bl i => rw [rep_b h]; rfl
  | int i => rw [rep_i h]; rfl
  | str i => rw [rep_s h]; rfl
  | fn i => simp only [Rep] at h; rw [h.1]; rfl
  | exn i j => simp only [Rep] at h; obtain ⟨⟨b, rfl⟩, _⟩ := h; rfl
  | thk => simp only [Rep] at h; obtain ⟨⟨b, rfl⟩, _⟩ := h; rfl
def rIsA (neg : Bool) : R2 := fun x y H Q => (y = .non ∧ Q (.bl (if neg then !decide (x = .non) else decide (x = .non))) H) ∨ ∃ a b, x = .bl a ∧ y = .bl b ∧ Q (.bl (if neg then !decide (a = b) else decide (a = b))) H
theorem isS_two {a b d : D} (e : isS [a, b] = some d) : (b = .non ∧ d = .bl (decide (a = .non))) ∨ ∃ i j, a = .bl i ∧ b = .bl j ∧ d = .bl (decide (i = j)) := by
  cases b <;> simp only [isS] at e
  · cases e; exact .inl ⟨rfl, rfl⟩
  · cases a <;> simp only [isS] at e <;> first | (cases e; exact .inr ⟨_, _, rfl, rfl, rfl⟩) | cases e
  all_goals (first | cases e | (cases a <;> cases e))
theorem isnS_two {a b d : D} (e : isnS [a, b] = some d) : (b = .non ∧ d = .bl (!decide (a = .non))) ∨ ∃ i j, a = .bl i ∧ b = .bl j ∧ d = .bl (!decide (i = j)) := by
  cases b <;> simp only [isnS] at e
  · cases e; exact .inl ⟨rfl, rfl⟩
  · cases a <;> simp only [isnS] at e <;> first | (cases e; exact .inr ⟨_, _, rfl, rfl, rfl⟩) | cases e
  all_goals (first | cases e | (cases a <;> cases e))
theorem isS_len {ds : List D} (n : ∀ a b, ds ≠ [a, b]) : isS ds = none := by
  match ds, n with
  | [], _ => rfl
  | [a], _ => cases a <;> rfl
  | [a, b], n => exact (n a b rfl).elim
  | a :: b :: c :: r, _ => cases a <;> cases b <;> rfl
theorem isnS_len {ds : List D} (n : ∀ a b, ds ≠ [a, b]) : isnS ds = none := by
  match ds, n with
  | [], _ => rfl
  | [a], _ => cases a <;> rfl
  | [a, b], n => exact (n a b rfl).elim
  | a :: b :: c :: r, _ => cases a <;> cases b <;> rfl
theorem con_is : Con G (opL (rIsA false)) isS := by
  refine con_scal (fun H Z a b d x y F F' Q e h1 h2 k => ?_) (fun ds n => isS_len n)
  rcases isS_two e with ⟨rfl, rfl⟩ | ⟨i, j, rfl, rfl, rfl⟩
  · refine .inl ⟨rep_n h2, k _ fun Z => ?_⟩
    rw [if_neg Bool.false_ne_true, rep_non_iff h1]; exact rep_bl _ H Z
  · exact .inr ⟨i, j, rep_b h1, rep_b h2, k _ fun Z => rep_bl _ H Z⟩
theorem con_isn : Con G (opL (rIsA true)) isnS := by
  refine con_scal (fun H Z a b d x y F F' Q e h1 h2 k => ?_) (fun ds n => isnS_len n)
  rcases isnS_two e with ⟨rfl, rfl⟩ | ⟨i, j, rfl, rfl, rfl⟩
  · refine .inl ⟨rep_n h2, k _ fun Z => ?_⟩
    rw [if_pos rfl, rep_non_iff h1]; exact rep_bl _ H Z
  · exact .inr ⟨i, j, rep_b h1, rep_b h2, k _ fun Z => rep_bl _ H Z⟩
theorem con_sub : Con G (opL (rI0 fun i j => .int (i - j))) subS := by
  refine con_scal (fun H Z a b d x y F F' Q e h1 h2 k => ?_) (fun ds n => ?_)
  · cases a <;> cases b <;> simp only [subS] at e <;> first | cases e | skip
    exact ⟨_, _, rep_i h1, rep_i h2, k _ (rep_int _ H)⟩
  · match ds, n with
    | [], _ => rfl
    | [a], _ => cases a <;> rfl
    | [a, b], n => exact (n a b rfl).elim
    | a :: b :: c :: r, _ => cases a <;> cases b <;> rfl
def CDivA (i j : Int) : Prop := CDivN i j ∨ CDivW i j
theorem con_div : Con G (opL (rI CDivA fun i j => .int (i.fdiv j))) divS := by
  refine con_scal (fun H Z a b d x y F F' Q e h1 h2 k => ?_) (fun ds n => ?_)
  · cases a <;> cases b <;> simp only [divS] at e <;> first | cases e | skip
    split at e
    · rename_i c
      cases e
      simp only [Bool.and_eq_true, Bool.or_eq_true, decide_eq_true_eq] at c
      refine ⟨_, _, rep_i h1, rep_i h2, ?_, k _ (rep_int _ H)⟩
      rcases c with ⟨c1, c2 | c2⟩
      · exact .inl ⟨c1, c2⟩
      · exact .inr ⟨c2.1, c2.2⟩
    · cases e
  · match ds, n with
    | [], _ => rfl
    | [a], _ => cases a <;> rfl
    | [a, b], n => exact (n a b rfl).elim
    | a :: b :: c :: r, _ => cases a <;> cases b <;> rfl
theorem con_mod : Con G (opL (rI (fun _ j => j ≠ 0) fun i j => .int (i.fmod j))) modS := by
  refine con_scal (fun H Z a b d x y F F' Q e h1 h2 k => ?_) (fun ds n => ?_)
  · cases a <;> cases b <;> simp only [modS] at e <;> first | cases e | skip
    split at e
    · rename_i c
      cases e
      exact ⟨_, _, rep_i h1, rep_i h2, c, k _ (rep_int _ H)⟩
    · cases e
  · match ds, n with
    | [], _ => rfl
    | [a], _ => cases a <;> rfl
    | [a, b], n => exact (n a b rfl).elim
    | a :: b :: c :: r, _ => cases a <;> cases b <;> rfl
theorem con_pow : Con G (opL (rI CPow fun i j => .int (i ^ j.toNat))) powS := by
  refine con_scal (fun H Z a b d x y F F' Q e h1 h2 k => ?_) (fun ds n => ?_)
  · cases a <;> cases b <;> simp only [powS] at e <;> first | cases e | skip
    split at e
    · rename_i c
      cases e
      simp only [Bool.and_eq_true, decide_eq_true_eq] at c
      refine ⟨_, _, rep_i h1, rep_i h2, ⟨c.1.1, by omega, ?_⟩, k _ (rep_int _ H)⟩
      exact Nat.lt_trans c.2 (by decide)
    · cases e
  · match ds, n with
    | [], _ => rfl
    | [a], _ => cases a <;> rfl
    | [a, b], n => exact (n a b rfl).elim
    | a :: b :: c :: r, _ => cases a <;> cases b <;> rfl
end
section
variable {X : Cx}
theorem opr_eq (hu : X.A.units + 64 < cLine) : OpR X (compareOp .Eq) (orR rEq (rDat X.K okEq PyData.eqv)) := op_eq.or (op_eqD2 hu)
theorem opr_ne (hu : X.A.units + 64 < cLine) : OpR X (compareOp .NotEq) (orR rNe (rDat X.K okEq fun a b => !PyData.eqv a b)) := op_ne.or (op_neD2 hu)
theorem opr_lt (hu : X.A.units + 64 < cLine) : OpR X (compareOp .Lt) (orR (rI0 fun i j => .bl (decide (i < j))) (rDat X.K okOrd PySem.W.dataLt)) := op_lt.or (op_ltD hu)
theorem opr_gt (hu : X.A.units + 64 < cLine) : OpR X (compareOp .Gt) (orR (rI0 fun i j => .bl (decide (j < i))) (rDat X.K okOrd fun a b => PySem.W.dataLt b a)) := op_gt.or (op_gtD hu)
theorem opr_le (hu : X.A.units + 64 < cLine) : OpR X (compareOp .LtE) (orR (rI0 fun i j => .bl (decide (i ≤ j))) (rDat X.K okOrd fun a b => !PySem.W.dataLt b a)) := op_le.or (op_leD hu)
theorem opr_ge (hu : X.A.units + 64 < cLine) : OpR X (compareOp .GtE) (orR (rI0 fun i j => .bl (decide (j ≤ i))) (rDat X.K okOrd fun a b => !PySem.W.dataLt a b)) := op_ge.or (op_geD hu)
theorem opr_in (hu : X.A.units + 65 < cLine) : OpR X (compareOp .In) (orR (rInS false) (rDat X.K okIn inD)) := op_in_str.or (op_inD2 hu)
theorem opr_nin (hu : X.A.units + 65 < cLine) : OpR X (compareOp .NotIn) (orR (rInS true) (rDat X.K okIn fun a b => !inD a b)) := op_notin_str.or (op_notInD2 hu)
theorem opr_is : OpR X (compareOp .Is) (rIsA false) := op_isN.or op_is_bl
theorem opr_isn : OpR X (compareOp .IsNot) (rIsA true) := op_notN.or op_isnot_bl
theorem fdiv_pos {i j : Int} (h : 0 < j) : i / j = i.fdiv j := by rw [Int.fdiv_eq_ediv_of_nonneg _ (Int.le_of_lt h)]
theorem opr_div : OpR X (binaryOp .FloorDiv) (rI CDivA fun i j => .int (i.fdiv j)) := by
  intro pins s σ H x y v u Q I rx ry h
  obtain ⟨i, j, e1, e2, c, q⟩ := h
  rcases c with c | c
  · exact op_fdivN pins s σ H x y v u Q I rx ry ⟨i, j, e1, e2, c, q⟩
  · exact op_fdivW pins s σ H x y v u Q I rx ry ⟨i, j, e1, e2, c, by show Q (.int (i / j)) H; rw [fdiv_pos c.1]; exact q⟩
end
end Ev

end T_V7
section T_V8
set_option Elab.async false
set_option linter.all false
set_option maxRecDepth 100000
set_option maxHeartbeats 4000000
/-! Ev, part 8: sums and products; minus; subscripts and slices. -/
namespace Ev
open PySem PySem.Spec L2
open PyProof.Rows hiding St

section
variable {G : Gl}
/-- two operands -/
theorem con_two {r : R2} {sem : List D → Option D}
    (h : ∀ (H : Hp) (Z : Addr → Prop) (L : List Itm) (F0 : List Addr) (a b d : D) (x y : V) (F F' : List Addr) (Q : VK), SRz G H Z L F0 → sem [a, b] = some d → Rep G H Z a x F → Rep G H Z b y F' → (∀ v H', SR G H' (.dv d v :: L) → Q v H') → r x y H Q)
    (l : ∀ ds, (∀ a b, ds ≠ [a, b]) → sem ds = none) : Con G (opL r) sem := by
  intro H Z L F ds vs Q d s ra e k
  match ds, e, ra with
  | [a, b], e, ra =>
    obtain ⟨x, y, F1, F2, rfl, h1, h2⟩ := ra.two
    exact ⟨x, y, rfl, h H Z L F a b d x y F1 F2 Q s e h1 h2 k⟩
  | [], e, _ => rw [l [] (by intro a b z; cases z)] at e; cases e
  | [a], e, _ => rw [l [a] (by intro a b z; cases z)] at e; cases e
  | a :: b :: c :: r, e, _ => rw [l (a :: b :: c :: r) (by intro a b z; cases z)] at e; cases e
def rAddStr : R2 := fun x y H Q => ∃ i j, x = .str i ∧ y = .str j ∧ i.length + j.length ≤ sizeLine ∧ Q (.str (i ++ j)) H
def rAdd5 (K : PySem.W.Frag) : R2 := orR (rI0 fun i j => .int (i + j)) (orR rAddStr (orR (rCatA K) (rCatS K)))
theorem addS_two {a b d : D} (e : addS [a, b] = some d) : (∃ i j, a = .int i ∧ b = .int j ∧ d = .int (i + j)) ∨ (∃ i j, a = .str i ∧ b = .str j ∧ i.length + j.length ≤ sizeLine ∧ d = .str (i ++ j)) ∨
    (∃ i j, a = .tup i ∧ b = .tup j ∧ noOwns i = true ∧ noOwns j = true ∧ i.length + j.length ≤ sizeLine ∧ d = .tup (i ++ j)) ∨
    (∃ o p i j, a = .lst o i ∧ b = .lst p j ∧ noOwns i = true ∧ noOwns j = true ∧ i.length + j.length ≤ sizeLine ∧ d = .lst true (i ++ j)) := by
  cases a <;> cases b <;> simp only [addS] at e <;> first | (cases e; done) | skip
  · cases e; exact .inl ⟨_, _, rfl, rfl, rfl⟩
  · split at e
    · rename_i h; cases e; exact .inr (.inl ⟨_, _, rfl, rfl, h, rfl⟩)
    · cases e
  · split at e
    · rename_i h; cases e
      simp only [Bool.and_eq_true, decide_eq_true_eq] at h
      exact .inr (.inr (.inl ⟨_, _, rfl, rfl, h.1.1, h.1.2, h.2, rfl⟩))
    · cases e
  · split at e
    · rename_i h; cases e
      simp only [Bool.and_eq_true, decide_eq_true_eq] at h
      exact .inr (.inr (.inr ⟨_, _, _, _, rfl, rfl, h.1.1, h.1.2, h.2, rfl⟩))
    · cases e
theorem con_add : Con G (opL (rAdd5 G.K)) addS := by
  refine con_two (fun H Z L F0 a b d x y F F' Q s e h1 h2 k => ?_) (fun ds n => ?_)
  · rcases addS_two e with ⟨i, j, rfl, rfl, rfl⟩ | ⟨i, j, rfl, rfl, z, rfl⟩ | ⟨i, j, rfl, rfl, n1, n2, z, rfl⟩ | ⟨o, p, i, j, rfl, rfl, n1, n2, z, rfl⟩
    · exact .inl ⟨i, j, rep_i h1, rep_i h2, k _ _ (s.addD (rep_int _ H Z))⟩
    · exact .inr (.inl ⟨i, j, rep_s h1, rep_s h2, z, k _ _ (s.addD (rep_str _ H Z))⟩)
    · obtain ⟨a, vs, rfl, sa, ra⟩ := Rep.seqT h1
      obtain ⟨b, ws, rfl, sb, rb⟩ := Rep.seqT h2
      have ra := Reps.noOwn n1 ra
      have rb := Reps.noOwn n2 rb
      have la := Reps_length ra
      have lb := Reps_length rb
      refine .inr (.inr (.inl ⟨a, b, vs, ws, rfl, rfl, sa, sb, by omega, fun e => ?_, fun e1 e2 => ?_, fun e1 e2 p hp => ?_⟩))
      · subst e
        have : i = [] := List.length_eq_zero_iff.mp (by simpa using la)
        subst this
        refine k _ _ (s.addD ?_)
        simp only [Rep, List.nil_append]
        exact ⟨b, ws, rfl, sb, rb⟩
      · subst e2
        have : j = [] := List.length_eq_zero_iff.mp (by simpa using lb)
        subst this
        refine k _ _ (s.addD ?_)
        simp only [Rep, List.append_nil]
        exact ⟨a, vs, rfl, sa, ra⟩
      · exact k _ _ (s.newT (Reps.app ra rb) hp)
    · obtain ⟨a, vs, F1, rfl, sa, ra⟩ := Rep.seqL h1
      obtain ⟨b, ws, F2, rfl, sb, rb⟩ := Rep.seqL h2
      have ra := Reps.noOwn n1 ra
      have rb := Reps.noOwn n2 rb
      have la := Reps_length ra
      have lb := Reps_length rb
      exact .inr (.inr (.inr ⟨a, b, vs, ws, rfl, rfl, sa, sb, by omega, fun p hp => k _ _ (s.newL (Reps.app ra rb) hp)⟩))
  · match ds, n with
    | [], _ => rfl
    | [a], _ => cases a <;> rfl
    | [a, b], n => exact (n a b rfl).elim
    | a :: b :: c :: r, _ => cases a <;> cases b <;> rfl
theorem Reps.rep {H : Hp} {Z : Addr → Prop} {xs : List D} {vs : List V} (r : Reps G H Z xs vs []) : ∀ k : Nat, Reps G H Z (List.replicate k xs).flatten (List.replicate k vs).flatten []
  | 0 => by simp [Reps]
  | k + 1 => by
    rw [List.replicate_succ, List.replicate_succ, List.flatten_cons, List.flatten_cons]
    exact Reps.app r (Reps.rep r k)
def CMulA (i j : Int) : Prop := CMul i j ∨ CMulW i j
def rMul3 (K : PySem.W.Frag) : R2 := orR (rI CMulA fun i j => .int (i * j)) (orR rRep (rRepT K))
theorem mulS_two {a b d : D} (e : mulS [a, b] = some d) : (∃ i j, a = .int i ∧ b = .int j ∧ mulOk i j = true ∧ d = .int (i * j)) ∨
    (∃ i k, a = .lst true i ∧ b = .int k ∧ noOwns i = true ∧ i.length * k.toNat ≤ sizeLine ∧ k.natAbs < 2 ^ 62 ∧ d = .lst true (List.replicate k.toNat i).flatten) ∨
    (∃ i k, a = .tup i ∧ b = .int k ∧ noOwns i = true ∧ i ≠ [] ∧ i.length ≤ 1000 ∧ 2 ≤ k ∧ k ≤ 1000 ∧ d = .tup (List.replicate k.toNat i).flatten) := by
  cases a <;> cases b <;> simp only [mulS] at e <;> first | (cases e; done) | skip
  · split at e
    · rename_i h; cases e; exact .inl ⟨_, _, rfl, rfl, h, rfl⟩
    · cases e
  · split at e
    · rename_i h; cases e
      simp only [Bool.and_eq_true, decide_eq_true_eq, Bool.not_eq_true'] at h
      refine .inr (.inr ⟨_, _, rfl, rfl, h.1.1.1.1, fun z => ?_, h.1.1.2, h.1.2, h.2, rfl⟩)
      rw [z] at h
      have := h.1.1.1.2
      cases this
    · cases e
  · split at e
    · rename_i h; cases e
      simp only [Bool.and_eq_true, decide_eq_true_eq] at h
      obtain ⟨⟨⟨h1, h2⟩, h3⟩, h4⟩ := h
      subst h1
      exact .inr (.inl ⟨_, _, rfl, rfl, h2, h3, h4, rfl⟩)
    · cases e
theorem con_mul : Con G (opL (rMul3 G.K)) mulS := by
  refine con_two (fun H Z L F0 a b d x y F F' Q s e h1 h2 k => ?_) (fun ds n => ?_)
  · rcases mulS_two e with ⟨i, j, rfl, rfl, c, rfl⟩ | ⟨i, m, rfl, rfl, n1, z1, z2, rfl⟩ | ⟨i, m, rfl, rfl, n1, z0, z1, z2, z3, rfl⟩
    · refine .inl ⟨i, j, rep_i h1, rep_i h2, ?_, k _ _ (s.addD (rep_int _ H Z))⟩
      unfold mulOk at c
      simp only [Bool.or_eq_true, decide_eq_true_eq] at c
      rcases c with (c | c) | c
      · exact .inl (.inl (by omega))
      · exact .inl (.inr (by omega))
      · exact .inr c
    · simp only [Rep, if_true] at h1
      obtain ⟨a, vs, F1, rfl, ra, ha, _, _⟩ := h1
      have ra := Reps.noOwn n1 ra
      have la := Reps_length ra
      refine .inr (.inl ⟨a, m, vs, rfl, rep_i h2, ha, by omega, by omega, by rw [← la]; exact z1, fun p hp => k _ _ (s.newL (Reps.rep ra m.toNat) hp)⟩)
    · obtain ⟨a, vs, rfl, sa, ra⟩ := Rep.seqT h1
      have ra := Reps.noOwn n1 ra
      have la := Reps_length ra
      refine .inr (.inr ⟨a, m, vs, rfl, rep_i h2, sa, fun e => ?_, z2, z3, by omega, fun p hp => k _ _ (s.newT (Reps.rep ra m.toNat) hp)⟩)
      subst e
      exact z0 (List.length_eq_zero_iff.mp (by simpa using la))
  · match ds, n with
    | [], _ => rfl
    | [a], _ => cases a <;> rfl
    | [a, b], n => exact (n a b rfl).elim
    | a :: b :: c :: r, _ => cases a <;> cases b <;> rfl
end
section
variable {X : Cx}
theorem opr_add : OpR X (binaryOp .Add) (rAdd5 X.K) := op_add.or (op_add_str.or (op_catA.or op_catS))
theorem opr_mulI : OpR X (binaryOp .Mult) (rI CMulA fun i j => .int (i * j)) := by
  intro pins s σ H x y v u Q I rx ry h
  obtain ⟨i, j, e1, e2, c, q⟩ := h
  rcases c with c | c
  · exact op_mul pins s σ H x y v u Q I rx ry ⟨i, j, e1, e2, c, q⟩
  · exact op_mulW pins s σ H x y v u Q I rx ry ⟨i, j, e1, e2, c, q⟩
theorem opr_mul : OpR X (binaryOp .Mult) (rMul3 X.K) := opr_mulI.or (op_rep.or op_repT)
end
end Ev

end T_V8
section T_V9
set_option Elab.async false
set_option linter.all false
set_option maxRecDepth 100000
set_option maxHeartbeats 4000000
/-! Ev, part 9: subscripts, slices, isinstance, the built-ins that only read. -/
namespace Ev
open PySem PySem.Spec L2
open PyProof.Rows hiding St

/-! ### one item -/
def shareD (d : D) : Option D := if noOwn d = true then some d else none
def idxS : List D → Option D
  | [.lst _ xs, .int i] => (atI xs i).bind shareD
  | [.tup xs, .int i] => (atI xs i).bind shareD
  | [.str x, .int i] => if x.length ≤ sizeLine then (atI x.cps.toList i).map fun c => .str ⟨#[c]⟩ else none
  | _ => none
theorem shareD_eq {d e : D} (h : shareD d = some e) : d = e ∧ noOwn e = true := by
  unfold shareD at h
  split at h
  · rename_i n; cases h; exact ⟨rfl, n⟩
  · cases h
theorem atI_map {α β : Type} {xs : List α} {ys : List β} {i : Int} {x : α} (l : xs.length = ys.length) (h : atI xs i = some x) : ∃ (j : Nat) (y : β), xs[j]? = some x ∧ ys[j]? = some y ∧ atI ys i = some y := by
  unfold atI at h ⊢
  rw [← l]
  cases e : ixN xs.length i with
  | none => rw [e] at h; cases h
  | some j =>
    rw [e] at h
    have h : xs[j]? = some x := h
    have hj : j < ys.length := by rw [← l]; exact (List.getElem?_eq_some_iff.mp h).1
    exact ⟨j, ys[j], h, List.getElem?_eq_getElem hj, List.getElem?_eq_getElem hj⟩
section
variable {G : Gl} {H : Hp} {Z : Addr → Prop}
theorem Reps.at : ∀ {xs : List D} {vs : List V} {F : List Addr} {j : Nat} {x : D} {v : V}, Reps G H Z xs vs F → xs[j]? = some x → vs[j]? = some v → ∃ F', Rep G H Z x v F'
  | [], _, _, j, x, v, _, e, _ => by simp at e
  | x :: xs, _, _, 0, y, w, h, e, e2 => by
    simp only [Reps] at h
    obtain ⟨v, r, F1, F2, rfl, rfl, h1, h2⟩ := h
    have e : x = y := by simpa using e
    have e2 : v = w := by simpa using e2
    subst e; subst e2
    exact ⟨F1, h1⟩
  | x :: xs, _, _, j + 1, y, w, h, e, e2 => by
    simp only [Reps] at h
    obtain ⟨v, r, F1, F2, rfl, rfl, h1, h2⟩ := h
    exact Reps.at h2 (by simpa using e) (by simpa using e2)
theorem idxS_two {a b d : D} (e : idxS [a, b] = some d) : (∃ o xs i, a = .lst o xs ∧ b = .int i ∧ atI xs i = some d ∧ noOwn d = true) ∨ (∃ xs i, a = .tup xs ∧ b = .int i ∧ atI xs i = some d ∧ noOwn d = true) ∨
    ∃ x i c, a = .str x ∧ b = .int i ∧ x.length ≤ sizeLine ∧ atI x.cps.toList i = some c ∧ d = .str ⟨#[c]⟩ := by
  cases a <;> cases b <;> simp only [idxS] at e <;> first | (cases e; done) | skip
  · split at e
    · rename_i h
      simp only [Option.map_eq_some_iff] at e
      obtain ⟨c, e1, rfl⟩ := e
      exact .inr (.inr ⟨_, _, c, rfl, rfl, h, e1, rfl⟩)
    · cases e
  · simp only [Option.bind_eq_some_iff] at e
    obtain ⟨y, e1, e2⟩ := e
    obtain ⟨rfl, n⟩ := shareD_eq e2
    exact .inr (.inl ⟨_, _, rfl, rfl, e1, n⟩)
  · simp only [Option.bind_eq_some_iff] at e
    obtain ⟨y, e1, e2⟩ := e
    obtain ⟨rfl, n⟩ := shareD_eq e2
    exact .inl ⟨_, _, _, rfl, rfl, e1, n⟩
theorem con_idx : Con G (opL (rIx G.K)) idxS := by
  refine con_two (fun H Z L F0 a b d x y F F' Q s e h1 h2 k => ?_) (fun ds n => ?_)
  · rcases idxS_two e with ⟨o, xs, i, rfl, rfl, e1, n⟩ | ⟨xs, i, rfl, rfl, e1, n⟩ | ⟨z, i, c, rfl, rfl, l, e1, rfl⟩
    · obtain ⟨p, vs, F1, rfl, sa, ra⟩ := Rep.seqL h1
      obtain ⟨j, v, e2, e3, e4⟩ := atI_map (Reps_length ra) e1
      obtain ⟨F2, r⟩ := Reps.at ra e2 e3
      rw [Rep.nil _ _ _ n r] at r
      exact .inl ⟨p, vs, i, v, rfl, rep_i h2, sa, e4, k _ _ (s.addD r)⟩
    · obtain ⟨p, vs, rfl, sa, ra⟩ := Rep.seqT h1
      obtain ⟨j, v, e2, e3, e4⟩ := atI_map (Reps_length ra) e1
      obtain ⟨F2, r⟩ := Reps.at ra e2 e3
      rw [Rep.nil _ _ _ n r] at r
      exact .inr (.inl ⟨p, vs, i, v, rfl, rep_i h2, sa, e4, k _ _ (s.addD r)⟩)
    · exact .inr (.inr ⟨z, i, c, rep_s h1, rep_i h2, l, e1, k _ _ (s.addD (rep_str _ H Z))⟩)
  · match ds, n with
    | [], _ => rfl
    | [a], _ => cases a <;> rfl
    | [a, b], n => exact (n a b rfl).elim
    | a :: b :: c :: r, _ => cases a <;> cases b <;> rfl
end
theorem pe_idx {G : Gl} {Δ : Dy} {W : WX} {X : Cx} {a b : Expr} {fa fb : OE} {pos : Pos} (hK : X.K = G.K) (ha : PE X a (opTE G Δ W fa)) (hb : PE X b (opTE G Δ W fb)) (hs : PlainIx b) : PE X (.Subscript a b pos) (TEof G Δ W (conE [fa, fb] idxS)) := by
  have h := pe_ix (pos := pos) ix_seq ha hb hs
  rw [hK] at h
  exact pe_imp h fun _ _ _ q => te_two con_idx q

/-! ### slices -/
def cutD (xs : List D) (lo hi : Option Int) : List D := (xs.drop (HT.sIx xs.length 0 lo)).take (HT.sIx xs.length xs.length hi - HT.sIx xs.length 0 lo)
def cutS' : D → Option Int → Option Int → Option D
  | .lst _ xs, lo, hi => if noOwns xs = true then some (.lst true (cutD xs lo hi)) else none
  | .tup xs, lo, hi => if noOwns xs = true then some (.tup (cutD xs lo hi)) else none
  | .str x, lo, hi => if x.length ≤ sizeLine then some (.str (cutS x lo hi)) else none
  | _, _, _ => none
def rSl3 (K : PySem.W.Frag) : V → Option Int → Option Int → Hp → VK → Prop := fun x lo hi H Q => rSlL K x lo hi H Q ∨ rSlA K x lo hi H Q ∨ rSlS x lo hi H Q
def evPart : Option (Env → Res D) → Env → Res (Option Int)
  | none, ρ => .ok none ρ
  | some f, ρ => (f ρ).bind fun d ρ1 => match d with
    | .int i => .ok (some i) ρ1
    | _ => .stuck
def slcE (fa : OE) (fl fh : Option (Env → Res D)) : Env → Res D := fun ρ => (evOps [fa] ρ).bind fun os ρ1 => (evPart fl ρ1).bind fun lo ρ2 => (evPart fh ρ2).bind fun hi ρ3 => match datOps ρ3 os with
  | some [x] => (match cutS' x lo hi with
    | some d => .ok d ρ3
    | none => .stuck)
  | _ => .stuck
section
variable {G : Gl} {H : Hp} {Z : Addr → Prop}
theorem reps_take : ∀ {xs : List D} {vs : List V} (n : Nat), Reps G H Z xs vs [] → Reps G H Z (xs.take n) (vs.take n) []
  | [], _, n, h => by simp only [Reps] at h; rw [h.1]; simp [Reps]
  | x :: xs, _, 0, h => by simp [Reps]
  | x :: xs, _, n + 1, h => by
    simp only [Reps] at h
    obtain ⟨v, r, F1, F2, rfl, e, h1, h2⟩ := h
    have e := List.append_eq_nil_iff.mp e.symm
    rw [e.1] at h1; rw [e.2] at h2
    simp only [List.take_succ_cons, Reps]
    exact ⟨v, r.take n, [], [], rfl, rfl, h1, reps_take n h2⟩
theorem reps_drop : ∀ {xs : List D} {vs : List V} (n : Nat), Reps G H Z xs vs [] → Reps G H Z (xs.drop n) (vs.drop n) []
  | [], _, n, h => by simp only [Reps] at h; rw [h.1]; simp [Reps]
  | x :: xs, _, 0, h => h
  | x :: xs, _, n + 1, h => by
    simp only [Reps] at h
    obtain ⟨v, r, F1, F2, rfl, e, h1, h2⟩ := h
    have e := List.append_eq_nil_iff.mp e.symm
    rw [e.2] at h2
    exact reps_drop n h2
theorem reps_cut {xs : List D} {vs : List V} (lo hi : Option Int) (h : Reps G H Z xs vs []) : Reps G H Z (cutD xs lo hi) (cutV vs lo hi) [] := by
  unfold cutD cutV
  rw [← Reps_length h]
  exact reps_take _ (reps_drop _ h)
theorem cut_whole {α : Type} {xs : List α} {lo hi : Option Int} (h1 : HT.sIx xs.length 0 lo = 0) (h2 : HT.sIx xs.length xs.length hi = xs.length) : (xs.drop (HT.sIx xs.length 0 lo)).take (HT.sIx xs.length xs.length hi - HT.sIx xs.length 0 lo) = xs := by
  rw [h1, h2]; simp
theorem con_cut {L : List Itm} {F0 : List Addr} {a d : D} {x : V} {F : List Addr} {lo hi : Option Int} {Q : VK} (s : SRz G H Z L F0) (e : cutS' a lo hi = some d) (h1 : Rep G H Z a x F) (k : ∀ v H', SR G H' (.dv d v :: L) → Q v H') : rSl3 G.K x lo hi H Q := by
  cases a <;> simp only [cutS'] at e <;> first | (cases e; done) | skip
  · split at e
    · rename_i l
      cases e
      exact .inr (.inr ⟨_, rep_s h1, l, k _ _ (s.addD (rep_str _ H Z))⟩)
    · cases e
  · split at e
    · rename_i n
      cases e
      obtain ⟨p, vs, rfl, sa, ra⟩ := Rep.seqT h1
      have ra := Reps.noOwn n ra
      have l := Reps_length ra
      refine .inr (.inl ⟨p, vs, rfl, sa, fun w => ?_, fun w q hq => k _ _ (s.newT (reps_cut lo hi ra) hq)⟩)
      refine k _ _ (s.addD ?_)
      simp only [Rep]
      refine ⟨p, vs, rfl, sa, ?_⟩
      unfold cutD
      rw [cut_whole (by rw [l]; exact w.1) (by rw [l]; exact w.2)]
      exact ra
    · cases e
  · split at e
    · rename_i n
      cases e
      obtain ⟨p, vs, F1, rfl, sa, ra⟩ := Rep.seqL h1
      have ra := Reps.noOwn n ra
      exact .inl ⟨p, vs, rfl, sa, fun q hq => k _ _ (s.newL (reps_cut lo hi ra) hq)⟩
    · cases e
end
theorem sl_three {X : Cx} : SlR X (rSl3 X.K) := sl_list.or (sl_tupA.or sl_str)
section
variable {G : Gl} {Δ : Dy} {W : WX} {X : Cx} {a : Expr} {fa : OE} {pos p2 : Pos}
/-- what operands leave may be weakened -/
theorem opTE_mono {f : OE} {Q1 Q2 : VK} (i : ∀ x H, Q1 x H → Q2 x H) {σ : St} {H : Hp} (h : opTE G Δ W f σ H Q1) : opTE G Δ W f σ H Q2 := by
  cases f with
  | e f =>
    obtain ⟨ρ, L, s, k⟩ := h
    refine ⟨ρ, L, s, ?_⟩
    cases e : f ρ with
    | stuck => rw [e] at k; exact k
    | exc c a ρ1 => rw [e] at k; exact k
    | ok d ρ1 => rw [e] at k; exact fun v H' s' => i _ _ (k v H' s')
  | b j =>
    obtain ⟨v, e, q⟩ := h
    exact ⟨v, e, i _ _ q⟩
def partE (G : Gl) (Δ : Dy) (W : WX) : Option (Env → Res D) → TO
  | none => tNoPart
  | some f => tPart (TEof G Δ W f)
theorem part_te {fl : Option (Env → Res D)} {σ : St} {H : Hp} {ρ : Env} {L : List Itm} {R : Option Int → Hp → Prop} (s : SRS G Δ H σ ρ L)
    (k : match evPart fl ρ with
      | .ok lo ρ' => ∀ H', SRS G Δ H' σ ρ' L → R lo H'
      | .exc c a ρ' => ∀ H' E dd, SRS G Δ H' σ ρ' (E ++ L) → ExR G c a dd E → W (.ref (G.ca c)) dd σ H'
      | .stuck => False) : partE G Δ W fl σ H R := by
  cases fl with
  | none => exact k H s
  | some f =>
    simp only [evPart] at k
    refine ⟨ρ, L, s, ?_⟩
    cases e : f ρ with
    | stuck => rw [e] at k; exact k
    | exc c a ρ1 => rw [e] at k; exact k
    | ok d ρ1 =>
      rw [e] at k
      simp only [Res.bind] at k
      intro v H1 s1
      cases d <;> first | exact k.elim | skip
      obtain ⟨Z, F, ⟨F1, F2, rfl, h1, h2⟩, _⟩ := id s1.1
      exact ⟨_, rep_i (G := G) (H := H1) (Z := Z) h1, k H1 s1.drop⟩
/-- where the data of operands stand -/
theorem ops_at {os : List (D ⊕ Nat)} {vs : List V} {ds : List D} {σ : St} {H : Hp} {ρ : Env} {L : List Itm} (s : SRS G Δ H σ ρ (opI os vs ++ L)) (ov : OpV σ os vs) (e : datOps ρ os = some ds) :
    ∃ Z F, SRz G H Z (L ++ (slotI ρ σ ++ basI G Δ ρ)) F ∧ RepsA G H Z ds vs := by
  obtain ⟨⟨Z, F, s2, nd⟩, s3⟩ := s
  have p : ((opI os vs ++ L) ++ (slotI ρ σ ++ basI G Δ ρ)).Perm ((opI os vs ++ slotI ρ σ) ++ (L ++ basI G Δ ρ)) := by
    rw [List.append_assoc, List.append_assoc]
    refine List.Perm.append_left _ ?_
    rw [← List.append_assoc, ← List.append_assoc]
    exact List.Perm.append_right _ List.perm_append_comm
  obtain ⟨F', s4, q⟩ := Its.perm p s2
  obtain ⟨F1, F2, e1, s5, s6⟩ := Its.app.mp s4
  obtain ⟨F3, F4, e3, s8, s9⟩ := Its.app.mp s2
  obtain ⟨F5, F6, e4, s10, s11⟩ := Its.app.mp s8
  subst e3 e4
  refine ⟨Z, F6 ++ F4, ⟨Its.app.mpr ⟨F6, F4, rfl, s11, s9⟩, ?_⟩, ops_reps s5 ov e⟩
  rw [List.append_assoc] at nd
  exact (List.nodup_append.mp nd).2.1
/-- one operand that stays while more is done -/
theorem op_first {fa : OE} {σ : St} {H : Hp} {ρ : Env} {L : List Itm} {t : VK} (s : SRS G Δ H σ ρ L)
    (k : match evOps [fa] ρ with
      | .ok os ρ' => ∀ v H', SRS G Δ H' σ ρ' (opI os [v] ++ L) → OpV σ os [v] → t v H'
      | .exc c a ρ' => ∀ H' E dd, SRS G Δ H' σ ρ' (E ++ L) → ExR G c a dd E → W (.ref (G.ca c)) dd σ H'
      | .stuck => False) : opTE G Δ W fa σ H t := by
  have h : TAof G Δ W [fa] σ H fun vs H1 => ∀ v, vs = [v] → t v H1 := by
    refine ⟨ρ, L, s, ?_⟩
    cases e : evOps [fa] ρ with
    | stuck => rw [e] at k; exact k
    | exc c a ρ1 => rw [e] at k; exact k
    | ok os ρ1 =>
      rw [e] at k
      intro vs H1 s1 ov v ev
      subst ev
      exact k v H1 s1 ov
  exact opTE_mono (fun x H1 q => ta_nil (Q := fun xs H2 => ∀ v, x :: xs = [v] → t v H2) q x rfl) (ta_cons h)
theorem te_slc {fl fh : Option (Env → Res D)} {σ : St} {H : Hp} {Q : VK} (h : TEof G Δ W (slcE fa fl fh) σ H Q) : tSl (rSl3 G.K) (opTE G Δ W fa) (partE G Δ W fl) (partE G Δ W fh) σ H Q := by
  obtain ⟨ρ, L, s, k⟩ := h
  unfold slcE at k
  refine op_first s ?_
  cases e : evOps [fa] ρ with
  | stuck => rw [e] at k; exact k
  | exc c a ρ1 => rw [e] at k; exact k
  | ok os ρ1 =>
    rw [e] at k
    simp only [Res.bind] at k
    intro v H1 s1 ov
    have lft : ∀ {ρ' : Env} {H' : Hp} {E : List Itm}, SRS G Δ H' σ ρ' (E ++ (opI os [v] ++ L)) → SRS G Δ H' σ ρ' (E ++ L) := fun {ρ' H' E} s' => s'.lift fun K q => by
      rw [List.append_assoc] at q ⊢
      have q := SR.comm q
      rw [List.append_assoc, List.append_assoc] at q
      have q := SR.right q
      exact SR.comm (by rw [← List.append_assoc] at q; exact q)
    refine part_te s1 ?_
    cases e1 : evPart fl ρ1 with
    | stuck => rw [e1] at k; exact k
    | exc c a ρ2 => rw [e1] at k; exact fun H' E dd s' x => k H' E dd (lft s') x
    | ok lo ρ2 =>
      rw [e1] at k
      simp only at k
      intro H2 s2
      refine part_te s2 ?_
      cases e2 : evPart fh ρ2 with
      | stuck => rw [e2] at k; exact k
      | exc c a ρ3 => rw [e2] at k; exact fun H' E dd s' x => k H' E dd (lft s') x
      | ok hi ρ3 =>
        rw [e2] at k
        simp only at k
        intro H3 s3
        cases e3 : datOps ρ3 os with
        | none => rw [e3] at k; exact k.elim
        | some ds =>
          obtain ⟨Z, F, sz, ra⟩ := ops_at s3 ov e3
          cases ra with
          | cons h1 t =>
            cases t
            obtain ⟨F1, h1⟩ := h1
            rw [e3] at k
            simp only at k
            rename_i x
            cases e4 : cutS' x lo hi with
            | none => rw [e4] at k; exact k.elim
            | some d =>
              rw [e4] at k
              exact con_cut sz e4 h1 fun v' H' s' => k v' H' ⟨s', s3.2⟩
theorem pe_slc {lo hi : Option Expr} {fl fh : Option (Env → Res D)} (hK : X.K = G.K) (ha : PE X a (opTE G Δ W fa)) (hl : PO X lo (partE G Δ W fl)) (hh : PO X hi (partE G Δ W fh)) : PE X (.Subscript a (.Slice lo hi none p2) pos) (TEof G Δ W (slcE fa fl fh)) := by
  have h := pe_slice (pos := pos) (p2 := p2) sl_three ha hl hh
  rw [hK] at h
  exact pe_imp h fun _ _ _ q => te_slc q
theorem po_none' : PO X none (partE G Δ W none) := po_none
theorem po_some' {e : Expr} {f : Env → Res D} (h : PE X e (TEof G Δ W f)) : PO X (some e) (partE G Δ W (some f)) := po_some h
end
end Ev

end T_V9
section T_V10
set_option Elab.async false
set_option linter.all false
set_option maxRecDepth 100000
set_option maxHeartbeats 4000000
/-! Ev, part 10: tests, statements, loops. -/
namespace Ev
open PySem PySem.Spec L2
open PyProof.Rows hiding St

def Res.rs {α : Type} (r : Res α) (k : α → Env → RS) : RS := match r with
  | .ok a ρ => k a ρ
  | .exc c a ρ => .exc c a ρ
  | .stuck => .stuck
def RS.then (r : RS) (f : Env → RS) : RS := match r with
  | .next ρ => f ρ
  | r => r
/-! ### semantics -/
def nextS : Env → RS := .next
def seqS (f g : Env → RS) : Env → RS := fun ρ => (f ρ).then g
def setS (i : Nat) (f : Env → Res D) : Env → RS := fun ρ => (f ρ).rs fun d ρ' => if i < ρ'.length then .next (ρ'.set i (some d)) else .stuck
def ifS (t : Env → Res Bool) (f g : Env → RS) : Env → RS := fun ρ => (t ρ).rs fun b ρ' => if b = true then f ρ' else g ρ'
def retS (f : Env → Res D) : Env → RS := fun ρ => (f ρ).rs .ret
def exprS (f : Env → Res D) : Env → RS := fun ρ => (f ρ).rs fun _ ρ' => .next ρ'
def whileS (t : Env → Res Bool) (f : Env → RS) : Nat → Env → RS
  | 0, _ => .stuck
  | n + 1, ρ => (t ρ).rs fun b ρ' => if b = true then (match f ρ' with
    | .next ρ2 => whileS t f n ρ2
    | .cont ρ2 => whileS t f n ρ2
    | .brk ρ2 => .next ρ2
    | r => r) else .next ρ'
/-- a target: what is stored, the slots behind -/
abbrev TgF := D → Env → Option Env
def tgN (i : Nat) : TgF := fun d ρ => if i < ρ.length then some (ρ.set i (some d)) else none
def tgAll : List TgF → List D → Env → Option Env
  | [], [], ρ => some ρ
  | t :: ts, d :: ds, ρ => (t d ρ).bind (tgAll ts ds)
  | _, _, _ => none
def tgT (ts : List TgF) : TgF := fun d ρ => match d with
  | .tup ds => tgAll ts ds ρ
  | _ => none
def tgS (tg : TgF) (f : Env → Res D) : Env → RS := fun ρ => (f ρ).rs fun d ρ' => match tg d ρ' with
  | some ρ2 => .next ρ2
  | none => .stuck
def forL (tg : TgF) (f : Env → RS) : List D → Env → RS
  | [], ρ => .next ρ
  | d :: r, ρ => match tg d ρ with
    | some ρ1 => (match f ρ1 with
      | .next ρ2 => forL tg f r ρ2
      | .cont ρ2 => forL tg f r ρ2
      | .brk ρ2 => .next ρ2
      | x => x)
    | none => .stuck
def forS (it : Env → Res (List D)) (tg : TgF) (f : Env → RS) : Env → RS := fun ρ => (it ρ).rs fun ds ρ' => forL tg f ds ρ'
/-! tests -/
def tstE (f : Env → Res D) : Env → Res Bool := fun ρ => (f ρ).bind fun d ρ' => match d with
  | .bl b => .ok b ρ'
  | _ => .stuck
def andT (a b : Env → Res Bool) : Env → Res Bool := fun ρ => (a ρ).bind fun c ρ' => if c = true then b ρ' else .ok false ρ'
def orT (a b : Env → Res Bool) : Env → Res Bool := fun ρ => (a ρ).bind fun c ρ' => if c = true then .ok true ρ' else b ρ'
def notT (a : Env → Res Bool) : Env → Res Bool := fun ρ => (a ρ).bind fun c ρ' => .ok (!c) ρ'
def andE (a b : Env → Res D) : Env → Res D := fun ρ => (a ρ).bind fun d ρ' => match d with
  | .bl c => if c = true then b ρ' else .ok (.bl false) ρ'
  | _ => .stuck
def orE (a b : Env → Res D) : Env → Res D := fun ρ => (a ρ).bind fun d ρ' => match d with
  | .bl c => if c = true then .ok (.bl true) ρ' else b ρ'
  | _ => .stuck
def notE (a : Env → Res D) : Env → Res D := fun ρ => (a ρ).bind fun d ρ' => match d with
  | .bl c => .ok (.bl (!c)) ρ'
  | _ => .stuck
def iteE (t : Env → Res Bool) (a b : Env → Res D) : Env → Res D := fun ρ => (t ρ).bind fun c ρ' => if c = true then a ρ' else b ρ'

section
variable {G : Gl} {Δ : Dy} {W : WX} {X : Cx} {pos : Pos}
theorem vbl {H : Hp} {σ : St} {ρ : Env} {L : List Itm} {b : Bool} {v : V} (s : SRS G Δ H σ ρ (.dv (.bl b) v :: L)) : v = .bl b := by
  obtain ⟨⟨Z, F, ⟨F1, F2, rfl, h1, h2⟩, _⟩, _⟩ := s
  simp only [IRep, Rep] at h1
  exact h1.1
theorem vint {H : Hp} {σ : St} {ρ : Env} {L : List Itm} {b : Int} {v : V} (s : SRS G Δ H σ ρ (.dv (.int b) v :: L)) : v = .int b := by
  obtain ⟨⟨Z, F, ⟨F1, F2, rfl, h1, h2⟩, _⟩, _⟩ := s
  simp only [IRep, Rep] at h1
  exact h1.1
theorem pt_tst {e : Expr} {f : Env → Res D} (h : PE X e (TEof G Δ W f)) (he : ∀ whole, isTrue e X.env whole = (do let v ← whole; standAt e.pos; holding [v] (truthy v)) := by intro _; rfl) : PT X e (TTof G Δ W (tstE f)) := by
  refine pt_imp (pt_val h he) fun σ H Q ⟨ρ, L, s, k⟩ => ⟨ρ, L, s, ?_⟩
  unfold tstE at k
  cases e : f ρ with
  | stuck => rw [e] at k; exact k
  | exc c a ρ1 => rw [e] at k; exact k
  | ok d ρ1 =>
    rw [e] at k
    simp only [Res.bind] at k
    intro v H1 s1
    cases d <;> first | exact k.elim | skip
    rename_i b
    exact ⟨b, vbl s1, k H1 s1.drop⟩
theorem pt_cmp2 {op : CmpOp} {r : R2} {a b : Expr} {fa fb : OE} {sem : List D → Option D} (ho : OpR X (compareOp op) r) (c : Con G (opL r) sem) (ha : PE X a (opTE G Δ W fa)) (hb : PE X b (opTE G Δ W fb)) (hm : behindInMarks op b = false) : PT X (.Compare a [op] [b] pos) (TTof G Δ W (tstE (conE [fa, fb] sem))) := by
  refine pt_imp (pt_cmpR (pos := pos) ho ha hb hm) fun σ H Q h => ?_
  have h2 : TEof G Δ W (conE [fa, fb] sem) σ H fun x H' => ∃ k, x = .bl k ∧ Q k H' := by
    obtain ⟨ρ, L, s, k⟩ := h
    refine ⟨ρ, L, s, ?_⟩
    unfold tstE at k
    cases e : conE [fa, fb] sem ρ with
    | stuck => rw [e] at k; exact k
    | exc c a ρ1 => rw [e] at k; exact k
    | ok d ρ1 =>
      rw [e] at k
      simp only [Res.bind] at k
      intro v H1 s1
      cases d <;> first | exact k.elim | skip
      rename_i b
      exact ⟨b, vbl s1, k H1 s1.drop⟩
  exact te_two c h2
theorem pw_andT {a b : Expr} {rest : List Expr} {fa fb : Env → Res Bool} (ha : PT X a (TTof G Δ W fa)) (hb : PW X (.BoolOp .And (b :: rest) pos) (TTof G Δ W fb)) : PW X (.BoolOp .And (a :: b :: rest) pos) (TTof G Δ W (andT fa fb)) := by
  have h := pw_and ha hb
  refine ⟨fun wh pins s σ H Q I q => h.run wh pins s σ H Q I ?_⟩
  obtain ⟨ρ, L, s, k⟩ := q
  refine ⟨ρ, L, s, ?_⟩
  unfold andT at k
  cases e : fa ρ with
  | stuck => rw [e] at k; exact k
  | exc c a ρ1 => rw [e] at k; exact k
  | ok d ρ1 =>
    rw [e] at k
    simp only [Res.bind] at k
    intro H1 s1
    cases d with
    | true => exact ⟨ρ1, L, s1, k⟩
    | false => exact k H1 s1
theorem pw_orT {a b : Expr} {rest : List Expr} {fa fb : Env → Res Bool} (ha : PT X a (TTof G Δ W fa)) (hb : PW X (.BoolOp .Or (b :: rest) pos) (TTof G Δ W fb)) : PW X (.BoolOp .Or (a :: b :: rest) pos) (TTof G Δ W (orT fa fb)) := by
  have h := pw_or ha hb
  refine ⟨fun wh pins s σ H Q I q => h.run wh pins s σ H Q I ?_⟩
  obtain ⟨ρ, L, s, k⟩ := q
  refine ⟨ρ, L, s, ?_⟩
  unfold orT at k
  cases e : fa ρ with
  | stuck => rw [e] at k; exact k
  | exc c a ρ1 => rw [e] at k; exact k
  | ok d ρ1 =>
    rw [e] at k
    simp only [Res.bind] at k
    intro H1 s1
    cases d with
    | true => exact k H1 s1
    | false => exact ⟨ρ1, L, s1, k⟩
theorem pt_notT {a : Expr} {fa : Env → Res Bool} (ha : PT X a (TTof G Δ W fa)) : PT X (.UnaryOp .Not a pos) (TTof G Δ W (notT fa)) := by
  refine pt_imp (pt_not (pos := pos) ha) fun σ H Q ⟨ρ, L, s, k⟩ => ⟨ρ, L, s, ?_⟩
  unfold notT at k
  cases e : fa ρ with
  | stuck => rw [e] at k; exact k
  | exc c a ρ1 => rw [e] at k; exact k
  | ok d ρ1 => rw [e] at k; exact k
theorem pe_andE {a b : Expr} {rest : List Expr} {fa fb : Env → Res D} (ha : PE X a (TEof G Δ W fa)) (hb : PE X (.BoolOp .And (b :: rest) pos) (TEof G Δ W fb)) : PE X (.BoolOp .And (a :: b :: rest) pos) (TEof G Δ W (andE fa fb)) := by
  refine pe_imp (pe_and ha hb) fun σ H Q ⟨ρ, L, s, k⟩ => ⟨ρ, L, s, ?_⟩
  unfold andE at k
  cases e : fa ρ with
  | stuck => rw [e] at k; exact k
  | exc c a ρ1 => rw [e] at k; exact k
  | ok d ρ1 =>
    rw [e] at k
    simp only [Res.bind] at k
    intro v H1 s1
    cases d <;> first | exact k.elim | skip
    rename_i b
    refine ⟨b, vbl s1, ?_⟩
    cases b with
    | true => exact ⟨ρ1, L, s1.drop, k⟩
    | false => exact k _ H1 (by rw [vbl s1] at s1; exact s1)
theorem pe_orE {a b : Expr} {rest : List Expr} {fa fb : Env → Res D} (ha : PE X a (TEof G Δ W fa)) (hb : PE X (.BoolOp .Or (b :: rest) pos) (TEof G Δ W fb)) : PE X (.BoolOp .Or (a :: b :: rest) pos) (TEof G Δ W (orE fa fb)) := by
  refine pe_imp (pe_or ha hb) fun σ H Q ⟨ρ, L, s, k⟩ => ⟨ρ, L, s, ?_⟩
  unfold orE at k
  cases e : fa ρ with
  | stuck => rw [e] at k; exact k
  | exc c a ρ1 => rw [e] at k; exact k
  | ok d ρ1 =>
    rw [e] at k
    simp only [Res.bind] at k
    intro v H1 s1
    cases d <;> first | exact k.elim | skip
    rename_i b
    refine ⟨b, vbl s1, ?_⟩
    cases b with
    | true => exact k _ H1 (by rw [vbl s1] at s1; exact s1)
    | false => exact ⟨ρ1, L, s1.drop, k⟩
theorem pe_notE {a : Expr} {fa : Env → Res D} (ha : PE X a (TEof G Δ W fa)) : PE X (.UnaryOp .Not a pos) (TEof G Δ W (notE fa)) := by
  refine pe_imp (pe_not (pos := pos) ha) fun σ H Q ⟨ρ, L, s, k⟩ => ⟨ρ, L, s, ?_⟩
  unfold notE at k
  cases e : fa ρ with
  | stuck => rw [e] at k; exact k
  | exc c a ρ1 => rw [e] at k; exact k
  | ok d ρ1 =>
    rw [e] at k
    simp only [Res.bind] at k
    intro v H1 s1
    cases d <;> first | exact k.elim | skip
    rename_i b
    exact ⟨b, vbl s1, k _ H1 (s1.drop.add (rep_bl (!b) H1))⟩
theorem pe_ite {c a b : Expr} {t : Env → Res Bool} {fa fb : Env → Res D} (hc : PT X c (TTof G Δ W t)) (ha : PE X a (TEof G Δ W fa)) (hb : PE X b (TEof G Δ W fb)) : PE X (.IfExp c a b pos) (TEof G Δ W (iteE t fa fb)) := by
  refine pe_imp (pe_ifExp (pos := pos) hc ha hb) fun σ H Q ⟨ρ, L, s, k⟩ => ⟨ρ, L, s, ?_⟩
  unfold iteE at k
  cases e : t ρ with
  | stuck => rw [e] at k; exact k
  | exc c a ρ1 => rw [e] at k; exact k
  | ok d ρ1 =>
    rw [e] at k
    simp only [Res.bind] at k
    intro H1 s1
    cases d with
    | true => exact ⟨ρ1, L, s1, k⟩
    | false => exact ⟨ρ1, L, s1, k⟩

/-! ### statements -/
theorem pss_nilS : PSs X [] (TSof G Δ W nextS) := pss_imp pss_nil fun D σ H ⟨ρ, L, s, k⟩ => k σ H s
theorem pss_seq {st : Stmt} {rest : List Stmt} {f g : Env → RS} (h1 : PS X st (TSof G Δ W f)) (h2 : PSs X rest (TSof G Δ W g)) : PSs X (st :: rest) (TSof G Δ W (seqS f g)) := by
  refine pss_imp (pss_cons h1 h2) fun D σ H ⟨ρ, L, s, k⟩ => ⟨ρ, L, s, ?_⟩
  unfold seqS at k
  cases e : f ρ with
  | stuck => rw [e] at k; exact k
  | next ρ1 => rw [e] at k; exact fun σ' H' s' => ⟨ρ1, L, s', k⟩
  | ret d ρ1 => rw [e] at k; exact k
  | brk ρ1 => rw [e] at k; exact k
  | cont ρ1 => rw [e] at k; exact k
  | exc c a ρ1 => rw [e] at k; exact k
theorem pss_oneS {st : Stmt} {f : Env → RS} (h : PS X st (TSof G Δ W f)) : PSs X [st] (TSof G Δ W f) := pss_one h
theorem ps_passS : PS X (.Pass pos) (TSof G Δ W nextS) := ps_imp ps_pass fun D σ H ⟨ρ, L, s, k⟩ => k σ H s
theorem ps_breakS : PS X (.Break pos) (TSof G Δ W .brk) := ps_imp ps_break fun D σ H ⟨ρ, L, s, k⟩ => k σ H s
theorem ps_contS : PS X (.Continue pos) (TSof G Δ W .cont) := ps_imp ps_continue fun D σ H ⟨ρ, L, s, k⟩ => k σ H s
theorem ps_retS {e : Expr} {f : Env → Res D} (he : PE X e (TEof G Δ W f)) : PS X (.Return (some e) pos) (TSof G Δ W (retS f)) := by
  refine ps_imp (ps_ret he) fun D σ H ⟨ρ, L, s, k⟩ => ⟨ρ, L, s, ?_⟩
  unfold retS at k
  cases e : f ρ with
  | stuck => rw [e] at k; exact k
  | exc c a ρ1 => rw [e] at k; exact k σ
  | ok d ρ1 => rw [e] at k; exact k σ
theorem ps_exprS {e : Expr} {f : Env → Res D} (he : PE X e (TEof G Δ W f)) (hs : swapsWith e none pos.line X.env = pure false := by rfl) : PS X (.Expr e pos) (TSof G Δ W (exprS f)) := by
  refine ps_imp (ps_expr he hs) fun D σ H ⟨ρ, L, s, k⟩ => ⟨ρ, L, s, ?_⟩
  unfold exprS at k
  cases e : f ρ with
  | stuck => rw [e] at k; exact k
  | exc c a ρ1 => rw [e] at k; exact k σ
  | ok d ρ1 => rw [e] at k; exact fun v H' s' => k σ H' s'.drop
theorem ps_ifS {c : Expr} {a b : List Stmt} {t : Env → Res Bool} {f g : Env → RS} (hc : PT X c (TTof G Δ W t)) (ha : PSs X a (TSof G Δ W f)) (hb : PSs X b (TSof G Δ W g)) : PS X (.If c a b pos) (TSof G Δ W (ifS t f g)) := by
  refine ps_imp (ps_if hc ha hb) fun D σ H ⟨ρ, L, s, k⟩ => ⟨ρ, L, s, ?_⟩
  unfold ifS at k
  cases e : t ρ with
  | stuck => rw [e] at k; exact k
  | exc c a ρ1 => rw [e] at k; exact k σ
  | ok d ρ1 =>
    rw [e] at k
    simp only [Res.rs] at k
    intro H1 s1
    cases d with
    | true => exact ⟨ρ1, L, s1, k⟩
    | false => exact ⟨ρ1, L, s1, k⟩
theorem ps_whileN {c : Expr} {body : List Stmt} {t : Env → Res Bool} {f : Env → RS} (n : Nat) (hp : PassesOwn (model X.prog X.w) X.A X.env X.xe) (hc : PT X c (TTof G Δ W t)) (hb : PSs X body (TSof G Δ W f)) : PS X (.While c body [] pos) (TSof G Δ W (whileS t f n)) := by
  refine ps_imp (ps_while hp hc hb) fun D σ H h => ?_
  refine ⟨fun m σ H => TSof G Δ W (whileS t f m) D σ H, ⟨n, h⟩, fun m σ H ⟨ρ, L, s, k⟩ => ⟨ρ, L, s, ?_⟩⟩
  cases m with
  | zero => exact k.elim
  | succ m =>
    simp only [whileS] at k
    cases e : t ρ with
    | stuck => rw [e] at k; exact k
    | exc c a ρ1 => rw [e] at k; exact k σ
    | ok b ρ1 =>
      rw [e] at k
      simp only [Res.rs] at k
      intro H1 s1
      cases b with
      | false => exact k σ H1 s1
      | true =>
        simp only [if_true] at k ⊢
        refine ⟨fun σ' H' => TSof G Δ W (whileS t f m) D σ' H', fun σ' H' q => ⟨m, Nat.lt_succ_self m, q⟩, ρ1, L, s1, ?_⟩
        cases e2 : f ρ1 with
        | stuck => rw [e2] at k; exact k
        | next ρ2 => rw [e2] at k; exact fun σ' H' s' => ⟨ρ2, L, s', k⟩
        | cont ρ2 => rw [e2] at k; exact fun σ' H' s' => ⟨ρ2, L, s', k⟩
        | brk ρ2 => rw [e2] at k; exact k
        | ret d ρ2 => rw [e2] at k; exact k
        | exc c a ρ2 => rw [e2] at k; exact k

/-! ### targets -/
theorem wipe_setA {σ : St} {i : Nat} {x : Option V} : ∀ vs : List Nat, (wipe (σ.set i x) vs).set i none = (wipe σ vs).set i none
  | [] => by simp [wipe]
  | v :: vs => by
    by_cases e : v = i
    · subst e
      simp only [wipe, List.set_set]
      exact wipe_setA vs
    · simp only [wipe]
      rw [List.set_comm _ _ e, List.set_comm _ _ e, wipe_setA vs]
theorem wipe_setI {σ : St} {i : Nat} {x : Option V} : ∀ {vs : List Nat}, i ∈ vs → wipe (σ.set i x) vs = wipe σ vs
  | [], h => by simp at h
  | v :: vs, h => by
    rcases List.mem_cons.mp h with rfl | h
    · simp only [wipe]
      exact wipe_setA vs
    · simp only [wipe]
      rw [wipe_setI h]
/-- what is stored is stored in the slots is -/
def TGof (G : Gl) (Δ : Dy) (is : List Nat) (tg : TgF) : TG := fun v σ H Q => ∃ ρ L d ρ', SRS G Δ H σ ρ (.dv d v :: L) ∧ tg d ρ = some ρ' ∧ ∀ σ' H', SRS G Δ H' σ' ρ' L → wipe σ' is = wipe σ is → Q σ' H'
def TGsof (G : Gl) (Δ : Dy) (is : List Nat) (tgs : List TgF) : TGs := fun vs σ H Q => ∃ ρ L ds ρ', SRS G Δ H σ ρ (dvs ds vs ++ L) ∧ ds.length = vs.length ∧ tgAll tgs ds ρ = some ρ' ∧ ∀ σ' H', SRS G Δ H' σ' ρ' L → wipe σ' is = wipe σ is → Q σ' H'
theorem pg_imp {e : Expr} {t t' : TG} (h : PG X e t) (i : ∀ v σ H Q, t' v σ H Q → t v σ H Q) : PG X e t' := ⟨fun pins s σ H v u Q I r q => h.run pins s σ H v u Q I r (i v σ H Q q)⟩
theorem pgs_imp {e : List Expr} {t t' : TGs} (h : PGs X e t) (i : ∀ v σ H Q, t' v σ H Q → t v σ H Q) : PGs X e t' := ⟨fun pins s σ H v u Q I r q => h.run pins s σ H v u Q I r (i v σ H Q q)⟩
theorem tgN_eq {i : Nat} {d : D} {ρ ρ' : Env} (h : tgN i d ρ = some ρ') : i < ρ.length ∧ ρ' = ρ.set i (some d) := by
  unfold tgN at h
  split at h
  · rename_i l; cases h; exact ⟨l, rfl⟩
  · cases h
theorem pg_nameS {i : Nat} {is : List Nat} {x : Str} (hm : i ∈ is) (hs : Wr Δ i) (hN : X.N.Nodup) (hi : X.N[i]? = some x) (hx : Loc X.env.scope x) (hf : X.fn x = true ∨ X.env.scope.names.lookup x = some .local := by first | exact .inl rfl | exact .inr rfl | assumption) : PG X (.Name x pos) (TGof G Δ is (tgN i)) :=
  pg_imp (pg_name hN hi hx hf) fun v σ H Q ⟨ρ, L, d, ρ', s, e, k⟩ => by
    obtain ⟨l, rfl⟩ := tgN_eq e
    exact k _ H (s.put l hs) (wipe_setI hm)
theorem pgs_nilS {is : List Nat} : PGs X [] (TGsof G Δ is []) := pgs_imp pgs_nil fun vs σ H Q ⟨ρ, L, ds, ρ', s, l, e, k⟩ => by
  cases ds with
  | nil =>
    cases vs with
    | nil => simp only [tgAll, Option.some.injEq] at e; subst e; exact ⟨rfl, k σ H s rfl⟩
    | cons _ _ => simp at l
  | cons d ds => simp [tgAll] at e
theorem pgs_consS {is : List Nat} {e : Expr} {es : List Expr} {t : TgF} {ts : List TgF} (h1 : PG X e (TGof G Δ is t)) (h2 : PGs X es (TGsof G Δ is ts)) (hs : (assignEach (e :: es) X.env).map (·.2) = assign e X.env :: (assignEach es X.env).map (·.2) := by rfl) : PGs X (e :: es) (TGsof G Δ is (t :: ts)) :=
  pgs_imp (pgs_cons h1 h2 hs) fun vs σ H Q ⟨ρ, L, ds, ρ', s, l, e, k⟩ => by
    cases ds with
    | nil => simp [tgAll] at e
    | cons d ds =>
      cases vs with
      | nil => simp at l
      | cons v vs =>
        simp only [tgAll, Option.bind_eq_some_iff] at e
        obtain ⟨ρ1, e1, e2⟩ := e
        exact ⟨v, vs, rfl, ρ, dvs ds vs ++ L, d, ρ1, s, e1, fun σ' H' s' w' => ⟨ρ1, L, ds, ρ', s', by simpa using l, e2, fun σ2 H2 s2 w2 => k σ2 H2 s2 (w2.trans w')⟩⟩
theorem tgAll_len : ∀ {ts : List TgF} {ds : List D} {ρ ρ' : Env}, tgAll ts ds ρ = some ρ' → ts.length = ds.length
  | [], [], _, _, _ => rfl
  | [], _ :: _, _, _, h => by simp [tgAll] at h
  | _ :: _, [], _, _, h => by simp [tgAll] at h
  | t :: ts, d :: ds, ρ, ρ', h => by
    simp only [tgAll, Option.bind_eq_some_iff] at h
    obtain ⟨ρ1, _, e2⟩ := h
    simp [tgAll_len e2]
theorem pg_tupS {is : List Nat} {es : List Expr} {k : Nat} {ts : List TgF} (hK : X.K = G.K) (hc : X.calm = true) (h : PGs X es (TGsof G Δ is ts)) (hn : (assignEach es X.env).length = ts.length := by rfl) (hst : (assignEach es X.env).findIdx? (·.1) = none := by rfl) : PG X (.Tuple es k pos) (TGof G Δ is (tgT ts)) :=
  pg_imp (pg_tup (pos := pos) (k := k) hc h hn hst) fun v σ H Q ⟨ρ, L, d, ρ', s, e, k⟩ => by
    cases d <;> simp only [tgT] at e <;> first | (cases e; done) | skip
    rename_i xs
    obtain ⟨a, vs, rfl, l, q, s1⟩ := s.tupE
    rw [hK]
    exact ⟨a, vs, rfl, q, by rw [← l, tgAll_len e], ρ, L, xs, ρ', s1.drop, l, e, k⟩
theorem ps_setS {i : Nat} {x : Str} {e : Expr} {f : Env → Res D} {pos' : Pos} (hs0 : Wr Δ i) (hN : X.N.Nodup) (hi : X.N[i]? = some x) (hx : Loc X.env.scope x) (he : PE X e (TEof G Δ W f)) (hs : swapsWith e (some (.Name x pos')) pos.line X.env = pure false := by rfl) (hf : X.fn x = true ∨ X.env.scope.names.lookup x = some .local := by first | exact .inl rfl | exact .inr rfl | assumption) :
    PS X (.Assign [.Name x pos'] e pos) (TSof G Δ W (setS i f)) := by
  refine ps_imp (ps_set hN hi hx he hs hf) fun D σ H ⟨ρ, L, s, k⟩ => ⟨ρ, L, s, ?_⟩
  unfold setS at k
  cases e : f ρ with
  | stuck => rw [e] at k; exact k
  | exc c a ρ1 => rw [e] at k; exact k σ
  | ok d ρ1 =>
    rw [e] at k
    simp only [Res.rs] at k
    intro v H1 s1
    by_cases l : i < ρ1.length
    · rw [if_pos l] at k; exact k _ H1 (s1.put l hs0)
    · rw [if_neg l] at k; exact k.elim
theorem ps_tgS {is : List Nat} {tg e : Expr} {f : Env → Res D} {g : TgF} (he : PE X e (TEof G Δ W f)) (hg : PG X tg (TGof G Δ is g)) (hs : swapsWithSole [tg] e pos.line X.env = pure false := by rfl) (hw : swappedStores [tg] e X.env = pure none := by rfl)
    (h1 : (assignEach [tg] X.env).map (·.2) = [assign tg X.env] := by rfl) : PS X (.Assign [tg] e pos) (TSof G Δ W (tgS g f)) := by
  refine ps_imp (ps_asg he hg hs hw h1) fun D σ H ⟨ρ, L, s, k⟩ => ⟨ρ, L, s, ?_⟩
  unfold tgS at k
  cases e : f ρ with
  | stuck => rw [e] at k; exact k
  | exc c a ρ1 => rw [e] at k; exact k σ
  | ok d ρ1 =>
    rw [e] at k
    simp only [Res.rs] at k
    intro v H1 s1
    cases e2 : g d ρ1 with
    | none => rw [e2] at k; exact k.elim
    | some ρ2 => rw [e2] at k; exact ⟨ρ1, L, d, ρ2, s1, e2, fun σ' H' s' _ => k σ' H' s'⟩

/-! ### what is walked -/
/-- J walks the data ds; M stands beside while it goes -/
def IterOk (G : Gl) (J : It) (ds : List D) (M : List Itm) : Prop :=
  ∀ (H : Hp) (K : List Itm) (i : Nat), SR G H (M ++ K) → (ds.length ≤ i → J.stop i H) ∧ ∀ d, ds[i]? = some d → J.go i H ∧ ∀ x H', J.yld i H x H' → SR G H' (.dv d x :: (M ++ K))
def TIof (G : Gl) (Δ : Dy) (W : WX) (f : Env → Res (List D)) : TI := fun σ H R => ∃ ρ L, SRS G Δ H σ ρ L ∧ match f ρ with
  | .ok ds ρ' => ∀ J M H', IterOk G J ds M → SRS G Δ H' σ ρ' (M ++ L) → R J H'
  | .exc c a ρ' => ∀ H' E dd, SRS G Δ H' σ ρ' (E ++ L) → ExR G c a dd E → W (.ref (G.ca c)) dd σ H'
  | .stuck => False
theorem pi_imp {tg e : Expr} {t t' : TI} (h : PI X tg e t) (i : ∀ σ H Q, t' σ H Q → t σ H Q) : PI X tg e t' := ⟨fun pins s σ H Q I q => h.run pins s σ H Q I (i σ H Q q)⟩
theorem ps_forS {is : List Nat} {tg iter : Expr} {body : List Stmt} {it : Env → Res (List D)} {g : TgF} {f : Env → RS} (hp : PassesOwn (model X.prog X.w) X.A X.env X.xe) (hc : X.calm = true) (hi : PI X tg iter (TIof G Δ W it)) (hg : PG X tg (TGof G Δ is g)) (hb : PSs X body (TSof G Δ W f))
    (hs : ∀ x, foldedSetIterable iter X.env x = pure x := by intro _; rfl) : PS X (.For tg iter body [] pos) (TSof G Δ W (forS it g f)) := by
  refine ps_imp (ps_for hp hc hi hg hb hs) fun D σ H ⟨ρ, L, s, k⟩ => ⟨ρ, L, s, ?_⟩
  unfold forS at k
  cases e : it ρ with
  | stuck => rw [e] at k; exact k
  | exc c a ρ1 => rw [e] at k; exact k σ
  | ok ds ρ1 =>
    rw [e] at k
    simp only [Res.rs] at k
    intro J M H1 ok s1
    refine ⟨fun i m σ H => i + m = ds.length ∧ ∃ ρ, SRS G Δ H σ ρ (M ++ L) ∧ match forL g f (ds.drop i) ρ with
      | .next ρ' => ∀ σ' H', SRS G Δ H' σ' ρ' L → D.nx σ' H'
      | .ret d ρ' => ∀ σ' v H', SRS G Δ H' σ' ρ' (.dv d v :: L) → D.rt v H'
      | .brk ρ' => ∀ σ' H', SRS G Δ H' σ' ρ' L → D.bk σ' H'
      | .cont ρ' => ∀ σ' H', SRS G Δ H' σ' ρ' L → D.ct σ' H'
      | .exc c a ρ' => ∀ σ' H' E dd, SRS G Δ H' σ' ρ' (E ++ L) → ExR G c a dd E → W (.ref (G.ca c)) dd σ' H'
      | .stuck => False, ⟨ds.length, by simp, ρ1, s1, by rw [List.drop_zero]; exact k⟩, ?_⟩
    rintro i m σ2 H2 ⟨im, ρ2, s2, k2⟩
    have sr : SR G H2 (M ++ (L ++ (slotI ρ2 σ2 ++ basI G Δ ρ2))) := by have := s2.1; rw [List.append_assoc] at this; exact this
    obtain ⟨hstop, hgo⟩ := ok H2 _ i sr
    by_cases hlt : i < ds.length
    · have e3 : ds[i]? = some ds[i] := List.getElem?_eq_getElem hlt
      obtain ⟨go, yl⟩ := hgo _ e3
      rw [List.drop_eq_getElem_cons hlt] at k2
      simp only [forL] at k2
      refine .inr ⟨go, fun σ' H' => ∃ ρ, SRS G Δ H' σ' ρ (M ++ L) ∧ match forL g f (ds.drop (i + 1)) ρ with
        | .next ρ' => ∀ σ' H', SRS G Δ H' σ' ρ' L → D.nx σ' H'
        | .ret d ρ' => ∀ σ' v H', SRS G Δ H' σ' ρ' (.dv d v :: L) → D.rt v H'
        | .brk ρ' => ∀ σ' H', SRS G Δ H' σ' ρ' L → D.bk σ' H'
        | .cont ρ' => ∀ σ' H', SRS G Δ H' σ' ρ' L → D.ct σ' H'
        | .exc c a ρ' => ∀ σ' H' E dd, SRS G Δ H' σ' ρ' (E ++ L) → ExR G c a dd E → W (.ref (G.ca c)) dd σ' H'
        | .stuck => False, fun σ' H' q => ⟨m - 1, by omega, by omega, q⟩, fun x H' y => ?_⟩
      have s3 : SRS G Δ H' σ2 ρ2 (.dv ds[i] x :: (M ++ L)) := ⟨by have := yl x H' y; rw [← List.append_assoc] at this; exact this, s2.2⟩
      cases e4 : g ds[i] ρ2 with
      | none => rw [e4] at k2; exact k2.elim
      | some ρ3 =>
        rw [e4] at k2
        simp only at k2
        refine ⟨ρ2, M ++ L, _, ρ3, s3, e4, fun σ4 H4 s4 _ => ⟨ρ3, M ++ L, s4, ?_⟩⟩
        cases e5 : f ρ3 with
        | stuck => rw [e5] at k2; exact k2
        | next ρ5 => rw [e5] at k2; exact fun σ' H' s' => ⟨ρ5, s', k2⟩
        | cont ρ5 => rw [e5] at k2; exact fun σ' H' s' => ⟨ρ5, s', k2⟩
        | brk ρ5 => rw [e5] at k2; exact fun σ' H' s' => k2 σ' H' s'.right
        | ret d ρ5 => rw [e5] at k2; exact fun σ' v H' s' => k2 σ' v H' (SRS.right (M := M) (s'.perm (List.perm_middle (l₁ := M)).symm))
        | exc c a ρ5 =>
          rw [e5] at k2
          exact fun σ' H' E dd s' x => k2 σ' H' E dd (SRS.right (M := M) (s'.perm (by
            rw [← List.append_assoc, ← List.append_assoc]
            exact List.Perm.append_right _ List.perm_append_comm))) x
    · have e3 : ds.drop i = [] := List.drop_eq_nil_of_le (by omega)
      rw [e3] at k2
      exact .inl ⟨hstop (by omega), k2 σ2 H2 s2.right⟩
end
end Ev

end T_V10
section T_V11
set_option Elab.async false
set_option linter.all false
set_option maxRecDepth 100000
set_option maxHeartbeats 4000000
/-! Ev, part 11: what is walked; comprehensions. -/
namespace Ev
open PySem PySem.Spec L2
open PyProof.Rows hiding St

def iSeq (K : PySem.W.Frag) (tl : TE) : TI := fun σ H R => tl σ H fun x H1 => (∃ a, x = .ref a ∧ (∃ xs, SqL K H1 a xs) ∧ R (Itl K a) H1) ∨ (∃ a, x = .ref a ∧ (∃ xs, SqT K H1 a xs) ∧ R (Itt K a) H1) ∨ ∃ z, x = .str z ∧ R (L2.Its z) H1
/-- a value's walk, whatever it is -/
theorem pi_seq {X : Cx} {tg l : Expr} {tl : TE} (hl : PE X l tl) : PI X tg l (iSeq X.K tl) := by
  refine ⟨fun pn s σ H R I0 hh => ?_⟩
  refine thn (hl.run pn s σ H _ I0 hh) fun u t1 ⟨y, Hy, Iy, ry, c⟩ => ?_
  rcases c with ⟨p, e, ⟨ys, hq⟩, q⟩ | ⟨p, e, ⟨ys, hq⟩, q⟩ | ⟨z, e, q⟩
  · subst e; cases ry
    obtain ⟨its, rv, pl, hz⟩ := Iy.list hq
    exact wpAny_pyIter_list pl.isList (pi_one (tk := t1.toks) Iy _ (turn_list p _) ⟨_, Heap.get?_push_size _ rfl, rfl, rfl⟩ q)
  · subst e; cases ry
    obtain ⟨its, rv, pl, hz⟩ := Iy.tuple hq
    exact wpAny_pyIter_tuple (show t1.heap.IsTuple p its.toArray from pl) (pi_one (tk := t1.toks) Iy _ (turn_tuple p _) ⟨_, Heap.get?_push_size _ rfl, rfl, rfl⟩ q)
  · subst e
    obtain ⟨t, rfl⟩ := ry
    cases hz : z.cps.all (· < 128)
    · exact wpAny_pyIter_wide hz (pi_one (tk := t1.toks) Iy _ (turn_str _ z t "str_iterator" (.inr rfl)) ⟨_, Heap.get?_push_size _ rfl, rfl, rfl⟩ q)
    · exact wpAny_pyIter_ascii hz (pi_one (tk := t1.toks) Iy _ (turn_str _ z t "str_ascii_iterator" (.inl rfl)) ⟨_, Heap.get?_push_size _ rfl, rfl, rfl⟩ q)

def walkOf : D → Option (List D)
  | .lst _ xs => if noOwns xs = true then some xs else none
  | .tup xs => if noOwns xs = true then some xs else none
  | .str z => some (z.cps.toList.map fun c => .str ⟨#[c]⟩)
  | _ => none
def seqE (f : Env → Res D) : Env → Res (List D) := fun ρ => (f ρ).bind fun d ρ' => match walkOf d with
  | some xs => .ok xs ρ'
  | none => .stuck
section
variable {G : Gl} {Δ : Dy} {W : WX} {X : Cx} {pos : Pos}
theorem noOwns_at : ∀ {xs : List D} {j : Nat} {x : D}, noOwns xs = true → xs[j]? = some x → noOwn x = true
  | [], _, _, _, e => by simp at e
  | y :: r, 0, x, n, e => by
    have e : y = x := by simpa using e
    subst e
    simp only [noOwns, Bool.and_eq_true] at n
    exact n.1
  | y :: r, j + 1, x, n, e => by
    simp only [noOwns, Bool.and_eq_true] at n
    exact noOwns_at n.2 (by simpa using e)
theorem SR.at1 {H : Hp} {d : D} {v : V} {K : List Itm} (h : SR G H (.dv d v :: K)) : ∃ Z F, SRz G H Z (.dv d v :: K) F ∧ ∃ F1, Rep G H Z d v F1 := by
  obtain ⟨Z, F, h1, h2⟩ := h
  obtain ⟨F1, F2, e, h3, h4⟩ := id h1
  exact ⟨Z, F, ⟨h1, h2⟩, F1, h3⟩
theorem Reps.get' : ∀ {xs : List D} {vs : List V} {F : List Addr} {H : Hp} {Z : Addr → Prop} {i : Nat} {d : D}, Reps G H Z xs vs F → xs[i]? = some d → ∃ v F', vs[i]? = some v ∧ Rep G H Z d v F' := fun {xs vs F H Z i d} r e => by
  have hi := (List.getElem?_eq_some_iff.mp e).1
  have hj : i < vs.length := by rw [← Reps_length r]; exact hi
  obtain ⟨F', q⟩ := Reps.at r e (List.getElem?_eq_getElem hj)
  exact ⟨_, F', List.getElem?_eq_getElem hj, q⟩
theorem iter_lst {o : Bool} {xs : List D} {a : Addr} (n : noOwns xs = true) : IterOk G (Itl G.K a) xs [.dv (.lst o xs) (.ref a)] := by
  intro H K i s
  obtain ⟨Z, F, sz, F1, r⟩ := SR.at1 s
  obtain ⟨p, vs, F', e, sa, ra⟩ := Rep.seqL r
  cases e
  have hq : SqL G.K H a vs := sa
  refine ⟨fun l => ⟨vs, hq, by rw [← Reps_length ra]; exact l⟩, fun d e => ?_⟩
  obtain ⟨v, F2, e2, r2⟩ := Reps.get' ra e
  refine ⟨⟨vs, v, hq, e2⟩, fun x H' ⟨e3, y⟩ => ?_⟩
  subst e3
  have e4 := y vs hq
  rw [e2] at e4
  cases e4
  rw [Rep.nil _ _ _ (noOwns_at n e) r2] at r2
  exact sz.addD r2
theorem iter_tup {xs : List D} {a : Addr} (n : noOwns xs = true) : IterOk G (Itt G.K a) xs [.dv (.tup xs) (.ref a)] := by
  intro H K i s
  obtain ⟨Z, F, sz, F1, r⟩ := SR.at1 s
  obtain ⟨p, vs, e, sa, ra⟩ := Rep.seqT r
  cases e
  refine ⟨fun l => ⟨vs, sa, by rw [← Reps_length ra]; exact l⟩, fun d e => ?_⟩
  obtain ⟨v, F2, e2, r2⟩ := Reps.get' ra e
  refine ⟨⟨vs, v, sa, e2⟩, fun x H' ⟨e3, y⟩ => ?_⟩
  subst e3
  have e4 := y vs sa
  rw [e2] at e4
  cases e4
  rw [Rep.nil _ _ _ (noOwns_at n e) r2] at r2
  exact sz.addD r2
theorem iter_str {z : Str} {v : V} : IterOk G (L2.Its z) (z.cps.toList.map fun c => .str ⟨#[c]⟩) [.dv (.str z) v] := by
  intro H K i s
  obtain ⟨Z, F, sz, F1, r⟩ := SR.at1 s
  refine ⟨fun l => ?_, fun d e => ?_⟩
  · show z.cps.size ≤ i
    simpa using l
  · rw [List.getElem?_map, Option.map_eq_some_iff] at e
    obtain ⟨c, e1, rfl⟩ := e
    have e2 : z.cps[i]? = some c := by rw [← Array.getElem?_toList]; exact e1
    refine ⟨(Array.getElem?_eq_some_iff.mp e2).1, fun x H' ⟨e3, c', e4, e5⟩ => ?_⟩
    subst e3 e5
    rw [e2] at e4
    cases e4
    exact sz.addD (rep_str _ _ Z)
theorem pi_seqE {tg e : Expr} {f : Env → Res D} (hK : X.K = G.K) (h : PE X e (TEof G Δ W f)) : PI X tg e (TIof G Δ W (seqE f)) := by
  refine pi_imp (pi_seq h) fun σ H R ⟨ρ, L, s, k⟩ => ⟨ρ, L, s, ?_⟩
  unfold seqE at k
  rw [hK]
  cases e : f ρ with
  | stuck => rw [e] at k; exact k
  | exc c a ρ1 => rw [e] at k; exact k
  | ok d ρ1 =>
    rw [e] at k
    simp only [Res.bind] at k
    intro v H1 s1
    cases e2 : walkOf d with
    | none => rw [e2] at k; exact k.elim
    | some xs =>
      rw [e2] at k
      simp only at k
      obtain ⟨Z, F, sz, F1, r⟩ := SR.at1 s1.1
      cases d <;> simp only [walkOf] at e2 <;> first | (cases e2; done) | skip
      · cases e2
        exact .inr (.inr ⟨_, rep_s r, k _ _ H1 (iter_str (v := v)) s1⟩)
      · split at e2
        · rename_i n
          cases e2
          obtain ⟨p, vs, rfl, sa, ra⟩ := Rep.seqT r
          exact .inr (.inl ⟨p, rfl, ⟨vs, sa⟩, k _ _ H1 (iter_tup n) s1⟩)
        · cases e2
      · split at e2
        · rename_i n
          cases e2
          obtain ⟨p, vs, F', rfl, sa, ra⟩ := Rep.seqL r
          exact .inl ⟨p, rfl, ⟨vs, sa⟩, k _ _ H1 (iter_lst n) s1⟩
        · cases e2
/-! ranges -/
def rngD (lo : Int) (n : Nat) : List D := (List.range n).map fun i => .int (lo + (i : Nat))
def rngOk (a b : Int) : Bool := decide (-(2 ^ 62) ≤ a) && decide (a < 2 ^ 62) && decide (-(2 ^ 62) ≤ b) && decide (b < 2 ^ 62)
theorem iter_rng {lo : Int} {n : Nat} : IterOk G (Itr lo n) (rngD lo n) [] := by
  intro H K i s
  refine ⟨fun l => ?_, fun d e => ?_⟩
  · show n ≤ i
    simpa [rngD] using l
  · unfold rngD at e
    rw [List.getElem?_map, Option.map_eq_some_iff] at e
    obtain ⟨j, e1, rfl⟩ := e
    obtain ⟨l, e2⟩ := List.getElem?_eq_some_iff.mp e1
    have l : i < n := by simpa using l
    have e2 : i = j := by simpa using e2
    subst e2
    refine ⟨l, fun x H' ⟨e3, e4⟩ => ?_⟩
    subst e3 e4
    obtain ⟨Z, F, sz⟩ := s
    exact SRz.addD sz (rep_int _ _ Z)
def rng1G : List D → Option (List D)
  | [.int j] => if rngOk 0 j = true then some (rngD 0 j.toNat) else none
  | _ => none
def rng2G : List D → Option (List D)
  | [.int i, .int j] => if rngOk i j = true then some (rngD i (j - i).toNat) else none
  | _ => none
def walkG (g : List D → Option (List D)) (fs : List (Env → Res D)) : Env → Res (List D) := fun ρ => (evAll fs ρ).bind fun ds ρ' => match g ds with
  | some xs => .ok xs ρ'
  | none => .stuck
def rng1E (f : Env → Res D) : Env → Res (List D) := walkG rng1G [f]
def rng2E (f g : Env → Res D) : Env → Res (List D) := walkG rng2G [f, g]
theorem rngOk_eq {a b : Int} (h : rngOk a b = true) : -(2 ^ 62) ≤ a ∧ a < 2 ^ 62 ∧ -(2 ^ 62) ≤ b ∧ b < 2 ^ 62 := by
  unfold rngOk at h
  simp only [Bool.and_eq_true, decide_eq_true_eq] at h
  exact ⟨h.1.1.1, h.1.1.2, h.1.2, h.2⟩
/-- all values loose, for a list of data -/
theorem ta_allL {fs : List (Env → Res D)} {σ : St} {H : Hp} {R : It → Hp → Prop} {t : List V → Hp → Prop} {f : Env → Res (List D)} (g : List D → Option (List D))
    (hf : ∀ ρ, f ρ = (evAll fs ρ).bind fun ds ρ' => match g ds with
      | some xs => .ok xs ρ'
      | none => .stuck)
    (hk : ∀ ρ L ds vs H1 xs, SRS G Δ H1 σ ρ (dvs ds vs ++ L) → ds.length = vs.length → g ds = some xs → (∀ J M H', IterOk G J xs M → SRS G Δ H' σ ρ (M ++ L) → R J H') → t vs H1)
    (h : TIof G Δ W f σ H R) : TAof G Δ W (tmpE fs) σ H t := by
  obtain ⟨ρ, L, s, k⟩ := h
  refine ⟨ρ, L, s, ?_⟩
  rw [hf] at k
  rw [evOps_tmp]
  cases e : evAll fs ρ with
  | stuck => rw [e] at k; exact k
  | exc c a ρ1 => rw [e] at k; exact k
  | ok ds ρ1 =>
    rw [e] at k
    intro vs H1 s1 ov
    obtain ⟨l, e1⟩ := opI_tmp ov
    rw [e1] at s1
    simp only [Res.bind] at k
    cases e2 : g ds with
    | none => rw [e2] at k; exact k.elim
    | some xs => rw [e2] at k; exact hk ρ1 L ds vs H1 xs s1 l e2 k
theorem pi_rng1 {tg a : Expr} {f : Env → Res D} {p : Pos} (hg : L2.Gl X "range") (hm : X.mg "range" = none) (ha : PA X [a] (TAof G Δ W (tmpE [f]))) (hs : starEach [a] X.env = [(false, eval a X.env)] := by rfl) : PI X tg (.Call (.Name "range" p) [a] [] pos) (TIof G Δ W (rng1E f)) := by
  refine pi_imp (pi_range1 (p := p) (pos := pos) hg hm ha hs) fun σ H R h => ?_
  refine ta_allL rng1G (fun ρ => rfl) (fun ρ L ds vs H1 xs s l e k => ?_) h
  · unfold rng1G at e
    split at e
    · rename_i j
      split at e
      · rename_i ok
        cases e
        cases vs with
        | nil => simp at l
        | cons v vr =>
          cases vr with
          | cons _ _ => simp at l
          | nil =>
            have s' : SRS G Δ H1 σ ρ (.dv (.int j) v :: L) := s
            have o := rngOk_eq ok
            have := vint s'
            subst this
            exact ⟨j, rfl, o.2.2.1, o.2.2.2, k _ _ H1 iter_rng s'.drop⟩
      · cases e
    · cases e
theorem pi_rng2 {tg a b : Expr} {f g : Env → Res D} {p : Pos} (hg : L2.Gl X "range") (hm : X.mg "range" = none) (ha : PA X [a, b] (TAof G Δ W (tmpE [f, g]))) (hs : starEach [a, b] X.env = [(false, eval a X.env), (false, eval b X.env)] := by rfl) (hs2 : starEach [b] X.env = [(false, eval b X.env)] := by rfl) : PI X tg (.Call (.Name "range" p) [a, b] [] pos) (TIof G Δ W (rng2E f g)) := by
  refine pi_imp (pi_range2 (p := p) (pos := pos) hg hm ha hs hs2) fun σ H R h => ?_
  refine ta_allL rng2G (fun ρ => rfl) (fun ρ L ds vs H1 xs s l e k => ?_) h
  · unfold rng2G at e
    split at e
    · rename_i i j
      split at e
      · rename_i ok
        cases e
        cases vs with
        | nil => simp at l
        | cons v vr =>
          cases vr with
          | nil => simp at l
          | cons w vr =>
            cases vr with
            | cons _ _ => simp at l
            | nil =>
              have s' : SRS G Δ H1 σ ρ (.dv (.int i) v :: .dv (.int j) w :: L) := s
              have o := rngOk_eq ok
              have e1 := vint s'
              have e2 := vint s'.drop
              subst e1 e2
              exact ⟨i, j, rfl, o, k _ _ H1 iter_rng s'.drop.drop⟩
      · cases e
    · cases e
end
end Ev

end T_V11
section T_V12
set_option Elab.async false
set_option linter.all false
set_option maxRecDepth 100000
set_option maxHeartbeats 4000000
/-! Ev, part 12: list comprehensions. -/
namespace Ev
open PySem PySem.Spec L2
open PyProof.Rows hiding St

def wipeE (ρ : Env) : List Nat → Env
  | [] => ρ
  | i :: vs => (wipeE ρ vs).set i none
def yesT : Env → Res Bool := .ok true
def lcL (tg : TgF) (tt : Env → Res Bool) (f : Env → Res D) (vs : List Nat) : List D → List D → Env → Res D
  | [], acc, ρ => .ok (.lst true acc) ρ
  | d :: r, acc, ρ => match tg d ρ with
    | some ρ1 => (match tt ρ1 with
      | .ok b ρ2 => if b = true then (match f ρ2 with
        | .ok x ρ3 => if acc.length < sizeLine then lcL tg tt f vs r (acc ++ [x]) (wipeE ρ3 vs) else .stuck
        | _ => .stuck) else lcL tg tt f vs r acc (wipeE ρ2 vs)
      | _ => .stuck)
    | none => .stuck
def lcE (it : Env → Res (List D)) (tg : TgF) (tt : Env → Res Bool) (f : Env → Res D) (vs : List Nat) : Env → Res D := fun ρ => (it ρ).bind fun ds ρ' => lcL tg tt f vs ds [] (wipeE ρ' vs)
theorem lcL_ok : ∀ {tg : TgF} {tt : Env → Res Bool} {f : Env → Res D} {vs : List Nat} {ds acc : List D} {ρ : Env}, (∃ d ρ', lcL tg tt f vs ds acc ρ = .ok d ρ') ∨ lcL tg tt f vs ds acc ρ = .stuck
  | tg, tt, f, vs, [], acc, ρ => .inl ⟨_, _, rfl⟩
  | tg, tt, f, vs, d :: r, acc, ρ => by
    simp only [lcL]
    cases tg d ρ with
    | none => exact .inr rfl
    | some ρ1 =>
      simp only
      cases tt ρ1 with
      | stuck => exact .inr rfl
      | exc c a ρ2 => exact .inr rfl
      | ok b ρ2 =>
        cases b with
        | false => simp only [Bool.false_eq_true, if_false]; exact lcL_ok
        | true =>
          simp only [if_true]
          cases f ρ2 with
          | stuck => exact .inr rfl
          | exc c a ρ2 => exact .inr rfl
          | ok x ρ3 =>
            simp only
            split
            · exact lcL_ok
            · exact .inr rfl
section
variable {G : Gl} {Δ : Dy} {W : WX} {X : Cx} {pos : Pos}
theorem SRS.wipe {H : Hp} {σ : St} {ρ : Env} {L : List Itm} (s : SRS G Δ H σ ρ L) : ∀ {vs : List Nat}, (∀ i ∈ vs, Wr Δ i) → SRS G Δ H (L2.wipe σ vs) (wipeE ρ vs) L
  | [], _ => s
  | i :: vs, h => SRS.forget (SRS.wipe s fun j hj => h j (List.mem_cons_of_mem _ hj)) (h i List.mem_cons_self)
/-- the slots' values may be anything where nothing is told of them -/
theorem SRS.free {H : Hp} {σ : St} {i : Nat} {x : Option V} {ρ : Env} {L : List Itm} (s : SRS G Δ H (σ.set i x) (ρ.set i none) L) (h : Wr Δ i) : SRS G Δ H σ (ρ.set i none) L := by
  obtain ⟨h1, h2⟩ := s
  rw [slotI_setN] at h1
  refine ⟨h1, fun w hw => ?_⟩
  have ni : i ≠ w.1 := fun z => h.2 w.2 (by rw [z]; exact hw)
  have := h2 w hw
  rwa [List.getElem?_set_ne ni] at this
theorem wipeE_setA {ρ : Env} {i : Nat} {x : Option D} : ∀ vs : List Nat, (wipeE (ρ.set i x) vs).set i none = (wipeE ρ vs).set i none
  | [] => by simp [wipeE]
  | v :: vs => by
    by_cases e : v = i
    · subst e
      simp only [wipeE, List.set_set]
      exact wipeE_setA vs
    · simp only [wipeE]
      rw [List.set_comm _ _ e, List.set_comm _ _ e, wipeE_setA vs]
theorem wipeE_set {ρ : Env} {i : Nat} : ∀ {vs : List Nat}, wipeE (ρ.set i none) vs = (wipeE ρ vs).set i none
  | [] => rfl
  | v :: vs => by
    simp only [wipeE]
    rw [wipeE_set]
    by_cases e : v = i
    · subst e; simp
    · rw [List.set_comm _ _ (Ne.symm e)]
theorem wipeE_idem {ρ : Env} : ∀ {vs : List Nat}, wipeE (wipeE ρ vs) vs = wipeE ρ vs
  | [] => rfl
  | v :: vs => by
    simp only [wipeE]
    rw [wipeE_set, wipeE_idem]
    simp
theorem SRS.unwipe {H : Hp} {L : List Itm} : ∀ {vs : List Nat} {σ : St} {ρ : Env}, (∀ i ∈ vs, Wr Δ i) → SRS G Δ H (L2.wipe σ vs) (wipeE ρ vs) L → SRS G Δ H σ (wipeE ρ vs) L
  | [], _, _, _, s => s
  | i :: vs, σ, ρ, h, s => by
    have h1 : SRS G Δ H (L2.wipe σ vs) ((wipeE ρ vs).set i none) L := SRS.free (i := i) (x := none) s (h i List.mem_cons_self)
    show SRS G Δ H σ ((wipeE ρ vs).set i none) L
    rw [← wipeE_set] at h1 ⊢
    exact SRS.unwipe (fun j hj => h j (List.mem_cons_of_mem _ hj)) h1
abbrev W0 : WX := fun _ _ _ _ => False
theorem dvs_snoc {ds : List D} {vs : List V} {d : D} {v : V} (l : ds.length = vs.length) : dvs (ds ++ [d]) (vs ++ [v]) = dvs ds vs ++ [.dv d v] := by
  unfold dvs
  rw [List.zipWith_append l]
  rfl
theorem te_lc {it : Env → Res (List D)} {tg : TgF} {tt : Env → Res Bool} {f : Env → Res D} {vs : List Nat} (hv : ∀ i ∈ vs, Wr Δ i) {σ : St} {H : Hp} {Q : VK} (h : TEof G Δ W (lcE it tg tt f vs) σ H Q) :
    tLc (TIof G Δ W it) (TGof G Δ vs tg) (TTof G Δ W0 tt) (TEof G Δ W0 f) vs σ H Q := by
  obtain ⟨ρ, L, s, k⟩ := h
  refine ⟨ρ, L, s, ?_⟩
  unfold lcE at k
  cases e : it ρ with
  | stuck => rw [e] at k; exact k
  | exc c a ρ1 => rw [e] at k; exact k
  | ok ds ρ1 =>
    rw [e] at k
    simp only [Res.bind] at k
    intro J M H1 ok s1 Dd hD
    refine ⟨fun i m H => i + m = ds.length ∧ ∃ ρ acc av, acc.length = av.length ∧ wipeE ρ vs = ρ ∧ SRS G Δ H (L2.wipe σ vs) ρ (.raw Dd (.lst av) :: (dvs acc av ++ (M ++ L))) ∧ match lcL tg tt f vs (ds.drop i) acc ρ with
      | .ok d ρ' => ∀ v H', SRS G Δ H' σ ρ' (.dv d v :: L) → Q v H'
      | .exc c a ρ' => ∀ H' E dd, SRS G Δ H' σ ρ' (E ++ L) → ExR G c a dd E → W (.ref (G.ca c)) dd σ H'
      | .stuck => False, ⟨ds.length, by simp, wipeE ρ1 vs, [], [], rfl, wipeE_idem, ?_, by rw [List.drop_zero]; exact k⟩, ?_⟩
    · exact SRS.wipe ⟨SR.alloc s1.1 hD (nt_lst []), s1.2⟩ hv
    · rintro i m H2 ⟨im, ρ2, acc, av, la, wi, s2, k2⟩
      have p1 : (.raw Dd (.lst av) :: (dvs acc av ++ (M ++ L))).Perm (M ++ (.raw Dd (.lst av) :: (dvs acc av ++ L))) := by
        refine (List.Perm.cons _ ?_).trans List.perm_middle.symm
        rw [← List.append_assoc, ← List.append_assoc]
        exact List.Perm.append_right _ List.perm_append_comm
      have s2' := s2.perm p1
      have sr : SR G H2 (M ++ ((.raw Dd (.lst av) :: (dvs acc av ++ L)) ++ (slotI ρ2 (L2.wipe σ vs) ++ basI G Δ ρ2))) := by have := s2'.1; rw [List.append_assoc] at this; exact this
      obtain ⟨hstop, hgo⟩ := ok H2 _ i sr
      by_cases hlt : i < ds.length
      · have e3 : ds[i]? = some ds[i] := List.getElem?_eq_getElem hlt
        obtain ⟨go, yl⟩ := hgo _ e3
        rw [List.drop_eq_getElem_cons hlt] at k2
        simp only [lcL] at k2
        refine .inr ⟨go, fun H => ∃ ρ acc av, acc.length = av.length ∧ wipeE ρ vs = ρ ∧ SRS G Δ H (L2.wipe σ vs) ρ (.raw Dd (.lst av) :: (dvs acc av ++ (M ++ L))) ∧ match lcL tg tt f vs (ds.drop (i + 1)) acc ρ with
          | .ok d ρ' => ∀ v H', SRS G Δ H' σ ρ' (.dv d v :: L) → Q v H'
          | .exc c a ρ' => ∀ H' E dd, SRS G Δ H' σ ρ' (E ++ L) → ExR G c a dd E → W (.ref (G.ca c)) dd σ H'
          | .stuck => False, fun H' q => ⟨m - 1, by omega, by omega, q⟩, fun x H' y => ?_⟩
        have s3 : SRS G Δ H' (L2.wipe σ vs) ρ2 (.dv ds[i] x :: (M ++ (.raw Dd (.lst av) :: (dvs acc av ++ L)))) := ⟨by have := yl x H' y; rw [← List.append_assoc] at this; exact this, s2.2⟩
        cases e4 : tg ds[i] ρ2 with
        | none => rw [e4] at k2; exact k2.elim
        | some ρ3 =>
          rw [e4] at k2
          simp only at k2
          refine ⟨ρ2, _, _, ρ3, s3, e4, fun σ4 H4 s4 w4 => ?_⟩
          have w4' : L2.wipe σ4 vs = L2.wipe σ vs := by
            rw [w4]
            have : ∀ us : List Nat, (∀ j ∈ us, j ∈ vs) → L2.wipe (L2.wipe σ us) vs = L2.wipe σ vs := by
              intro us
              induction us with
              | nil => intro _; rfl
              | cons u us ih =>
                intro hu
                simp only [L2.wipe]
                rw [wipe_setI (hu u List.mem_cons_self), ih fun j hj => hu j (List.mem_cons_of_mem _ hj)]
            exact this vs fun _ h => h
          refine ⟨w4', ρ3, _, s4, ?_⟩
          have wip : ∀ {ρ' : Env} {H' : Hp} {L' : List Itm}, SRS G Δ H' σ4 ρ' L' → SRS G Δ H' (L2.wipe σ vs) (wipeE ρ' vs) L' := fun {ρ' H' L'} s' => by
            have := s'.wipe hv
            rw [w4'] at this
            exact this
          cases e5 : tt ρ3 with
          | stuck => rw [e5] at k2; exact k2
          | exc c a ρ5 => rw [e5] at k2; exact k2.elim
          | ok b ρ5 =>
            rw [e5] at k2
            simp only at k2
            intro H5 s5
            cases b with
            | false =>
              simp only [Bool.false_eq_true, if_false] at k2 ⊢
              exact ⟨_, acc, av, la, wipeE_idem, (wip s5).perm p1.symm, k2⟩
            | true =>
              simp only [if_true] at k2 ⊢
              refine ⟨ρ5, _, s5, ?_⟩
              cases e6 : f ρ5 with
              | stuck => rw [e6] at k2; exact k2
              | exc c a ρ6 => rw [e6] at k2; exact k2.elim
              | ok d ρ6 =>
                rw [e6] at k2
                simp only at k2
                intro v H6 s6
                by_cases hz : acc.length < sizeLine
                · rw [if_pos hz] at k2
                  have p2 : (.dv d v :: (M ++ (.raw Dd (.lst av) :: (dvs acc av ++ L)))).Perm (.raw Dd (.lst av) :: (dvs (acc ++ [d]) (av ++ [v]) ++ (M ++ L))) := by
                    rw [dvs_snoc la, List.append_assoc]
                    refine (List.Perm.cons _ p1.symm).trans ((List.Perm.swap ..).trans (List.Perm.cons _ ?_))
                    exact List.perm_middle.symm
                  have s7 := (wip s6).perm p2
                  refine ⟨av, SR.rawAt s7.1, by rw [← la]; exact hz, _, acc ++ [d], av ++ [v], by simp [la], wipeE_idem, ⟨SR.write s7.1 (nt_lst _), s7.2⟩, k2⟩
                · rw [if_neg hz] at k2; exact k2.elim
      · have e3 : ds.drop i = [] := List.drop_eq_nil_of_le (by omega)
        rw [e3] at k2
        refine .inl ⟨hstop (by omega), k2 _ H2 ?_⟩
        rw [← wi] at s2 ⊢
        have s3 := SRS.unwipe hv s2
        have p3 : (.raw Dd (.lst av) :: (dvs acc av ++ (M ++ L))).Perm (M ++ (.raw Dd (.lst av) :: (dvs acc av ++ L))) := p1
        have s4 := (s3.perm p3).right
        exact s4.lift fun K q => by
          have q' : SR G H2 (.raw Dd (.lst av) :: (dvs acc av ++ (L ++ K))) := by
            have : SR G H2 ((.raw Dd (.lst av) :: (dvs acc av ++ L)) ++ K) := q
            rw [List.cons_append, List.append_assoc] at this
            exact this
          exact SR.closeL la q'
theorem pe_lcS {it : Env → Res (List D)} {tgf : TgF} {ttf : Env → Res Bool} {f : Env → Res D} {elt tg iter : Expr} {ifs : List Expr} {scope : Scope} {own : List (Str × Nat)}
    (hv : ∀ i ∈ own.map (·.2), Wr Δ i) (hc : X.calm = true) (hN : X.N.Nodup) (hi : PI X tg iter (TIof G Δ W it)) (ok : BlkOk X.N X.env.scope scope own)
    (hg : ∀ (s : Shared) (H : Hp) (C : Addr) (cl : List (Str × Addr)) (fp : List Addr), PG (X.blk s H scope (compEnvC scope cl C X.env) fp) tg (TGof G Δ (own.map (·.2)) tgf))
    (ht : ∀ (s : Shared) (H : Hp) (C : Addr) (cl : List (Str × Addr)) (fp : List Addr), PTs (X.blk s H scope (compEnvC scope cl C X.env) fp) ifs (TTof G Δ W0 ttf))
    (he : ∀ (s : Shared) (H : Hp) (C : Addr) (cl : List (Str × Addr)) (fp : List Addr), PE (X.blk s H scope (compEnvC scope cl C X.env) fp) elt (TEof G Δ W0 f)) (hs : ∀ x, foldedSetIterable iter X.env x = pure x := by intro _; rfl) :
    PE X (.ListComp elt [⟨tg, iter, ifs, 0⟩] scope pos) (TEof G Δ W (lcE it tgf ttf f (own.map (·.2)))) :=
  pe_imp (pe_lc hc hN hi ok hg ht he hs) fun _ _ _ h => te_lc hv h
theorem ps_setLcS {i : Nat} {y : Str} {py : Pos} {it : Env → Res (List D)} {tgf : TgF} {ttf : Env → Res Bool} {f : Env → Res D} {elt tg iter : Expr} {ifs : List Expr} {scope : Scope} {own : List (Str × Nat)} {spos : Pos}
    (hs0 : Wr Δ i) (hv : ∀ i ∈ own.map (·.2), Wr Δ i) (hc : X.calm = true) (hN : X.N.Nodup) (hy : X.N[i]? = some y) (hyl : X.env.scope.names.lookup y = some .local)
    (hsw : swapsWith (.ListComp elt [⟨tg, iter, ifs, 0⟩] scope pos) (some (.Name y py)) spos.line X.env = pure true) (hi : PI X tg iter (TIof G Δ W it)) (ok : BlkOk X.N X.env.scope scope own)
    (hg : ∀ (s : Shared) (H : Hp) (C : Addr) (cl : List (Str × Addr)) (fp : List Addr), PG (X.blk s H scope (compEnvC scope cl C X.env) fp) tg (TGof G Δ (own.map (·.2)) tgf))
    (ht : ∀ (s : Shared) (H : Hp) (C : Addr) (cl : List (Str × Addr)) (fp : List Addr), PTs (X.blk s H scope (compEnvC scope cl C X.env) fp) ifs (TTof G Δ W0 ttf))
    (he : ∀ (s : Shared) (H : Hp) (C : Addr) (cl : List (Str × Addr)) (fp : List Addr), PE (X.blk s H scope (compEnvC scope cl C X.env) fp) elt (TEof G Δ W0 f)) (hs : ∀ x, foldedSetIterable iter X.env x = pure x := by intro _; rfl) :
    PS X (.Assign [.Name y py] (.ListComp elt [⟨tg, iter, ifs, 0⟩] scope pos) spos) (TSof G Δ W (setS i (lcE it tgf ttf f (own.map (·.2))))) := by
  refine ps_imp (ps_setLc hc hN hy hyl hsw hi ok hg ht he hs) fun D σ H ⟨ρ, L, s, k⟩ => ?_
  refine te_lc hv ⟨ρ, L, s, ?_⟩
  unfold setS at k
  cases e : lcE it tgf ttf f (own.map (·.2)) ρ with
  | stuck => rw [e] at k; exact k
  | exc c a ρ1 => rw [e] at k; exact k σ
  | ok d ρ1 =>
    rw [e] at k
    simp only [Res.rs] at k
    intro v H1 s1
    by_cases l : i < ρ1.length
    · rw [if_pos l] at k; exact k _ H1 (s1.put l hs0)
    · rw [if_neg l] at k; exact k.elim
theorem pts_nilS : PTs X [] (TTof G Δ W yesT) := ⟨fun pins s σ H Q I ⟨ρ, L, sr, k⟩ => pts_nil.run pins s σ H Q I (k H sr)⟩
theorem pts_oneS {c : Expr} {t : Env → Res Bool} (h : PT X c (TTof G Δ W t)) : PTs X [c] (TTof G Δ W t) := pts_one h
end
end Ev

end T_V12
section T_V13
set_option Elab.async false
set_option linter.all false
set_option maxRecDepth 100000
set_option maxHeartbeats 4000000
/-! Ev, part 13: defs and their calls. -/
namespace Ev
open PySem PySem.Spec L2
open PyProof.Rows hiding St

/-- what a call comes to: its value, the first argument behind (of a def that changes it) -/
inductive FR where
  | ok (d : D) (out : List D)
  | exc (c : Nat) (a : List D) (out : List D)
  | stuck
abbrev Fn := List D → FR
def outI : List D → List V → List Itm
  | [x], v :: _ => [.dv x v]
  | [], _ => []
  | _, _ => [.bad]
/-- a def's promise: n parameters -/
def spF (G : Gl) (n : Nat) (sem : Fn) : Sp := fun vs H Q E => vs.length = n ∧ ∃ ds L, ds.length = vs.length ∧ SR G H (dvs ds vs ++ (tabI G ++ L)) ∧ match sem ds with
  | .ok d out => ∀ v H', SR G H' (.dv d v :: (outI out vs ++ (tabI G ++ L))) → Q v H'
  | .exc c a out => ∀ H' Ei dd, SR G H' (Ei ++ (outI out vs ++ (tabI G ++ L))) → ExR G c a dd Ei → E (.ref (G.ca c)) dd H'
  | .stuck => False
abbrev WEx (E : XK) : WX := fun c d _ H => E c d H
def startE (n : Nat) (ds : List D) : Env := ds.map some ++ List.replicate (n - ds.length) none
/-- the first slot behind -/
def outE (io : Bool) (ρ : Env) : Option (List D) := if io = true then (match ρ[0]? with
  | some (some x) => some [x]
  | _ => none) else some []
def runF (n : Nat) (io : Bool) (f : Env → RS) : Fn := fun ds => match f (startE n ds) with
  | .next ρ => (match outE io ρ with
    | some out => .ok .non out
    | none => .stuck)
  | .ret d ρ => (match outE io ρ with
    | some out => .ok d out
    | none => .stuck)
  | .exc c a ρ => (match outE io ρ with
    | some out => .exc c a out
    | none => .stuck)
  | _ => .stuck
section
variable {G : Gl} {Δ : Dy} {W : WX} {X : Cx} {pos : Pos}
theorem slotI_start : ∀ {ds : List D} {vs : List V} (m : Nat), ds.length = vs.length → slotI (ds.map some ++ List.replicate m none) (vs.map some ++ List.replicate m none) = dvs ds vs
  | [], [], 0, _ => rfl
  | [], [], m + 1, h => by
    show slotI (List.replicate m none) (List.replicate m none) = []
    exact slotI_start (ds := []) (vs := []) m h
  | d :: ds, v :: vs, m, h => by
    show Itm.dv d v :: slotI (ds.map some ++ List.replicate m none) (vs.map some ++ List.replicate m none) = .dv d v :: dvs ds vs
    rw [slotI_start m (by simpa using h)]
  | [], _ :: _, _, h => by simp at h
  | _ :: _, [], _, h => by simp at h
def ioD (io : Bool) (vs : List V) : Dy := { pin := if io = true then (match vs with | v :: _ => [(0, v)] | [] => []) else [] }
theorem wr_io {io : Bool} {vs : List V} {i : Nat} (h : io = true → i ≠ 0) : Wr (ioD io vs) i := by
  refine ⟨fun _ => rfl, fun v hv => ?_⟩
  unfold ioD at hv
  cases io with
  | false => simp at hv
  | true =>
    cases vs with
    | nil => simp at hv
    | cons w r =>
      simp only [if_true, List.mem_singleton, Prod.mk.injEq] at hv
      exact h rfl hv.1
theorem sp_start {n N : Nat} {io : Bool} {f : Env → RS} {Nm : List Str} {vs : List V} {H : Hp} {Q : VK} {E : XK} (hio : io = true → 0 < n) (hN : Nm.length = N) (h : spF G n (runF N io f) vs H Q E) :
    TSof G (ioD io vs) (WEx E) f { nx := fun _ H' => Q .non H', rt := Q } (L2.start Nm vs) H := by
  obtain ⟨hn, ds, L, l, s, k⟩ := h
  have s0 : SRS G (ioD io vs) H (L2.start Nm vs) (startE N ds) L := by
    refine ⟨?_, fun v hv => ?_⟩
    · unfold L2.start startE
      rw [hN, l, slotI_start _ l]
      show SR G H (L ++ (dvs ds vs ++ ([] ++ ([] ++ tabI G))))
      have p : (dvs ds vs ++ (tabI G ++ L)).Perm (L ++ (dvs ds vs ++ tabI G)) := by
        rw [← List.append_assoc]; exact List.perm_append_comm
      exact s.perm p
    · unfold ioD at hv
      cases io with
      | false => cases hv
      | true =>
        simp only [if_true] at hv
        cases vs with
        | nil => cases hv
        | cons w vr =>
          simp only [if_true, List.mem_singleton] at hv
          subst hv; rfl
  refine ⟨startE N ds, L, s0, ?_⟩
  have fin : ∀ {σ' : St} {H' : Hp} {ρ' : Env} {M : List Itm} {out : List D}, SRS G (ioD io vs) H' σ' ρ' (M ++ L) → outE io ρ' = some out → SR G H' (M ++ (outI out vs ++ (tabI G ++ L))) := fun {σ' H' ρ' M out} s' e => by
    have s2 := s'.1
    have drop : ∀ {ρ2 : Env} {A : List Itm}, SR G H' ((A ++ L) ++ (slotI ρ2 σ' ++ basI G (ioD io vs) ρ2)) → SR G H' (A ++ (tabI G ++ L)) := fun {ρ2 A} q => by
      have p : ((A ++ L) ++ (slotI ρ2 σ' ++ basI G (ioD io vs) ρ2)).Perm (slotI ρ2 σ' ++ (A ++ (tabI G ++ L))) := by
        show ((A ++ L) ++ (slotI ρ2 σ' ++ ([] ++ ([] ++ tabI G)))).Perm _
        rw [List.nil_append, List.nil_append]
        have p1 : ((A ++ L) ++ (slotI ρ2 σ' ++ tabI G)).Perm ((slotI ρ2 σ' ++ tabI G) ++ (A ++ L)) := List.perm_append_comm
        refine p1.trans ?_
        rw [List.append_assoc]
        refine List.Perm.append_left _ ?_
        rw [← List.append_assoc, ← List.append_assoc]
        exact List.Perm.append_right _ List.perm_append_comm
      exact SR.right (q.perm p)
    unfold outE at e
    cases io with
    | false =>
      simp only [Bool.false_eq_true, if_false, Option.some.injEq] at e
      subst e
      exact drop s2
    | true =>
      simp only [if_true] at e
      split at e
      · rename_i x e0
        cases e
        obtain ⟨v, e1, s3⟩ := s'.take e0 (fun _ => rfl)
        cases vs with
        | nil =>
          exact absurd hn (by have := hio rfl; simp; omega)
        | cons w vr =>
          have e2 : σ'[0]? = some (some w) := s'.2 (0, w) (by simp [ioD])
          rw [e1] at e2
          cases e2
          have s4 := drop (A := .dv x v :: M) s3.1
          exact s4.perm List.perm_middle.symm
      · cases e
  unfold runF at k
  cases e : f (startE N ds) with
  | stuck => rw [e] at k; exact k
  | brk ρ' => rw [e] at k; exact k.elim
  | cont ρ' => rw [e] at k; exact k.elim
  | next ρ' =>
    rw [e] at k
    simp only at k
    intro σ' H' s'
    cases e2 : outE io ρ' with
    | none => rw [e2] at k; exact k.elim
    | some out =>
      rw [e2] at k
      have := fin (M := []) s' e2
      obtain ⟨Z, F, sz⟩ := this
      exact k .non H' (sz.addD (rep_non _ Z))
  | ret d ρ' =>
    rw [e] at k
    simp only at k
    intro σ' v H' s'
    cases e2 : outE io ρ' with
    | none => rw [e2] at k; exact k.elim
    | some out => rw [e2] at k; exact k v H' (fin (M := [.dv d v]) s' e2)
  | exc c a ρ' =>
    rw [e] at k
    simp only at k
    intro σ' H' Ei dd s' x
    cases e2 : outE io ρ' with
    | none => rw [e2] at k; exact k.elim
    | some out => rw [e2] at k; exact k H' Ei dd (fin (M := Ei) s' e2) x
/-- a def of the text keeps its promise -/
theorem ok_def {x : Str} {params : Arguments} {body : List Stmt} {scope : Scope} {f : Addr} {fd : FuncData} {Nm ps : List Str} {k : Nat} {io : Bool} {bf : Env → RS} (hio : io = true → 0 < ps.length)
    (F : FunD G.K x x params body scope [] [] f fd) (S : FnScope Nm ps scope)
    (h : ∀ (cdv : Value) (A : Around) (outer : List PySem.Env) (s : Shared) (H : Hp) (vs : List V) (E : XK), Room k (A.deeper (envOfC x scope s.heap.objs.size f cdv)) →
      PSs (cxOf (L2.CX G.P G.w) G.P G.w G.K G.mg G.base Nm x scope f cdv A outer s H E) body (TSof G (ioD io vs) (WEx E) bf)) :
    FnOk G.P G.w G.K G.mg G.base (L2.CX G.P G.w) (k + 1) f fd ps (spF G ps.length (runF Nm.length io bf)) :=
  F.ok S (fun vs H Q E q => q.1) fun cdv A outer s H vs Q E hr q => ⟨_, h cdv A outer s H vs E hr, sp_start hio rfl q⟩

/-! ### calls -/
def callE (sem : Fn) (fs : List (Env → Res D)) : Env → Res D := fun ρ => (evAll fs ρ).bind fun ds ρ' => match sem ds with
  | .ok d [] => .ok d ρ'
  | .exc c a [] => .exc c a ρ'
  | _ => .stuck
/-- the first argument is the name in slot i, its datum behind the call is told -/
def callIO (sem : Fn) (i : Nat) (fs : List (Env → Res D)) : Env → Res D := fun ρ => match ρ[i]? with
  | some (some _) => (evAll fs ρ).bind fun ds ρ' => match ρ'[i]? with
    | some (some d0) => (match sem (d0 :: ds) with
      | .ok d [x] => .ok d (ρ'.set i (some x))
      | .exc c a [x] => .exc c a (ρ'.set i (some x))
      | _ => .stuck)
    | _ => .stuck
  | _ => .stuck
theorem SRS.tabs {H : Hp} {σ : St} {ρ : Env} {M L : List Itm} : SRS G Δ H σ ρ (M ++ L) ↔ SR G H (M ++ (tabI G ++ (L ++ (slotI ρ σ ++ (thI Δ ρ ++ Δ.ext))))) ∧ ∀ p ∈ Δ.pin, σ[p.1]? = some (some p.2) := by
  have p : ((M ++ L) ++ (slotI ρ σ ++ basI G Δ ρ)).Perm (M ++ (tabI G ++ (L ++ (slotI ρ σ ++ (thI Δ ρ ++ Δ.ext))))) := by
    unfold basI
    rw [List.append_assoc]
    refine List.Perm.append_left _ ?_
    rw [← List.append_assoc (thI Δ ρ), ← List.append_assoc (slotI ρ σ), ← List.append_assoc L]
    exact List.perm_append_comm
  exact ⟨fun h => ⟨h.1.perm p, h.2⟩, fun h => ⟨h.1.perm p.symm, h.2⟩⟩
theorem te_call {n : Nat} {sem : Fn} {fs : List (Env → Res D)} (hn : fs.length = n) {σ : St} {H : Hp} {Q : VK} (h : TEof G Δ W (callE sem fs) σ H Q) : tCallS (spF G n sem) (WE W) (TAof G Δ W (tmpE fs)) σ H Q := by
  obtain ⟨ρ, L, s, k⟩ := h
  refine ⟨ρ, L, s, ?_⟩
  unfold callE at k
  rw [evOps_tmp]
  cases e : evAll fs ρ with
  | stuck => rw [e] at k; exact k
  | exc c a ρ1 => rw [e] at k; exact k
  | ok ds ρ1 =>
    rw [e] at k
    simp only [Res.bind] at k ⊢
    intro vs H1 s1 ov
    obtain ⟨l, e1⟩ := opI_tmp ov
    rw [e1] at s1
    have s2 := SRS.tabs.mp s1
    refine ⟨by rw [← l, evAll_len e, hn], ds, _, l, s2.1, ?_⟩
    cases e2 : sem ds with
    | stuck => rw [e2] at k; exact k
    | ok d out =>
      rw [e2] at k
      cases out with
      | cons _ _ => exact k.elim
      | nil => exact fun v H' s' => k v H' ((SRS.tabs (M := [.dv d v])).mpr ⟨s', s2.2⟩)
    | exc c a out =>
      rw [e2] at k
      cases out with
      | cons _ _ => exact k.elim
      | nil => exact fun H' Ei dd s' x => k H' Ei dd ((SRS.tabs (M := Ei)).mpr ⟨s', s2.2⟩) x
theorem pe_callF {kk : Nat} {f : Addr} {fd : FuncData} {ps : List Str} {sem : Fn} {x : Str} {p : Pos} {e : Expr} {es : List Expr} {fs : List (Env → Res D)} (hn : fs.length = ps.length) (tk : Takes X W)
    (F : FnOk X.prog X.w X.K X.mg X.base (L2.CX X.prog X.w) kk f fd ps (spF G ps.length sem)) (hr : Room kk X.A) (hg : L2.Gl X x) (hm : X.mg x = some (.ref f)) (hk : PySem.W.keepIn X.K (.ref f) = true) (hb : Binds X.K fd ps [])
    (ha : PA X (e :: es) (TAof G Δ W (tmpE fs))) (hdb : (x == ("__debug__" : Str)) = false := by decide) (he : starEach (e :: es) X.env = (false, eval e X.env) :: starEach es X.env := by rfl) (hpl : (backTo pos (starEach es X.env)).any (·.1) = false := by rfl) :
    PE X (.Call (.Name x p) (e :: es) [] pos) (TEof G Δ W (callE sem fs)) :=
  pe_imp (pe_callS F hr hg hm hk hb (fun σ => passAt tk σ) ha hdb he hpl) fun _ _ _ h => te_call hn h
theorem te_io {n i : Nat} {sem : Fn} {fs : List (Env → Res D)} (hs : i = 0 → Δ.to = none) (hn : fs.length + 1 = n) {σ : St} {H : Hp} {Q : VK} (h : TEof G Δ W (callIO sem i fs) σ H Q) : tCallS (spF G n sem) (WE W) (tCons (tVar i) (TAof G Δ W (tmpE fs))) σ H Q := by
  obtain ⟨ρ, L, s, k⟩ := h
  unfold callIO at k
  cases e0 : ρ[i]? with
  | none => rw [e0] at k; exact k.elim
  | some y =>
    cases y with
    | none => rw [e0] at k; exact k.elim
    | some dq =>
      rw [e0] at k
      simp only at k
      obtain ⟨v0, ev⟩ := s.look e0
      refine ⟨v0, ev, ρ, L, s, ?_⟩
      rw [evOps_tmp]
      cases e : evAll fs ρ with
      | stuck => rw [e] at k; exact k
      | exc c a ρ1 => rw [e] at k; exact k
      | ok ds ρ1 =>
        rw [e] at k
        simp only [Res.bind] at k ⊢
        intro vs H1 s1 ov
        obtain ⟨l, e1⟩ := opI_tmp ov
        rw [e1] at s1
        cases e3 : ρ1[i]? with
        | none => rw [e3] at k; exact k.elim
        | some y =>
          cases y with
          | none => rw [e3] at k; exact k.elim
          | some d0 =>
            rw [e3] at k
            simp only at k
            obtain ⟨v1, ev1, s2⟩ := s1.take e3 hs
            rw [ev] at ev1
            cases ev1
            have s3 := (SRS.tabs (M := .dv d0 v0 :: dvs ds vs)).mp s2
            have hi : i < (ρ1.set i none).length := by rw [List.length_set]; exact ilt e3
            refine ⟨by simp only [List.length_cons]; rw [← l, evAll_len e]; exact hn, d0 :: ds, _, by simp [l], s3.1, ?_⟩
            cases e2 : sem (d0 :: ds) with
            | stuck => rw [e2] at k; exact k
            | ok d out =>
              rw [e2] at k
              match out, k with
              | [x], k =>
                intro v H' s'
                refine k v H' ?_
                have s4 : SRS G Δ H' σ (ρ1.set i none) ((.dv d v :: [.dv x v0]) ++ L) := (SRS.tabs (M := .dv d v :: [.dv x v0])).mpr ⟨s', s3.2⟩
                have s5 := (s4.swap).back hi ev hs
                rw [set_set'] at s5
                exact s5
              | [], k => exact k.elim
              | _ :: _ :: _, k => exact k.elim
            | exc c a out =>
              rw [e2] at k
              match out, k with
              | [x], k =>
                intro H' Ei dd s' xr
                refine k H' Ei dd ?_ xr
                have s4 : SRS G Δ H' σ (ρ1.set i none) ((Ei ++ [.dv x v0]) ++ L) := (SRS.tabs (M := Ei ++ [.dv x v0])).mpr ⟨by rw [List.append_assoc]; exact s', s3.2⟩
                have p : ((Ei ++ [Itm.dv x v0]) ++ L).Perm (.dv x v0 :: (Ei ++ L)) := by
                  rw [List.append_assoc]; exact List.perm_middle
                have s5 := (s4.perm p).back hi ev hs
                rw [set_set'] at s5
                exact s5
              | [], k => exact k.elim
              | _ :: _ :: _, k => exact k.elim
theorem pe_callIO {kk i : Nat} {f : Addr} {fd : FuncData} {ps : List Str} {sem : Fn} {x y : Str} {p py : Pos} {es : List Expr} {fs : List (Env → Res D)} (hs : i = 0 → Δ.to = none) (hn : fs.length + 1 = ps.length) (tk : Takes X W)
    (F : FnOk X.prog X.w X.K X.mg X.base (L2.CX X.prog X.w) kk f fd ps (spF G ps.length sem)) (hr : Room kk X.A) (hg : L2.Gl X x) (hm : X.mg x = some (.ref f)) (hk : PySem.W.keepIn X.K (.ref f) = true) (hb : Binds X.K fd ps [])
    (hy : PE X (.Name y py) (tVar i)) (ha : PA X es (TAof G Δ W (tmpE fs))) (hdb : (x == ("__debug__" : Str)) = false := by decide) (he : starEach (.Name y py :: es) X.env = (false, eval (.Name y py) X.env) :: starEach es X.env := by rfl) (hpl : (backTo pos (starEach es X.env)).any (·.1) = false := by rfl) :
    PE X (.Call (.Name x p) (.Name y py :: es) [] pos) (TEof G Δ W (callIO sem i fs)) :=
  pe_imp (pe_callS F hr hg hm hk hb (fun σ => passAt tk σ) (pa_cons hy ha he) hdb he hpl) fun _ _ _ h => te_io hs hn h
end
end Ev

end T_V13
section T_V14
set_option Elab.async false
set_option linter.all false
set_option maxRecDepth 100000
set_option maxHeartbeats 4000000
/-! Ev, part 14: what changes a list in its place. -/
namespace Ev
open PySem PySem.Spec L2
open PyProof.Rows hiding St

/-- a method that changes its receiver: m c ds = (what it gives, the receiver behind) -/
abbrev MutF := D → List D → Option (D × D)
def MutC (G : Gl) (K : PySem.W.Frag) (T : String) (r : V → List V → Hp → VK → Prop) (m : MutF) : Prop :=
  (∀ (H : Hp) (L : List Itm) (c : D) (o : V) (ds : List D) (p : D × D), SR G H (.dv c o :: L) → m c ds = some p → tyV K T o H) ∧
  ∀ (H : Hp) (L : List Itm) (c c' d : D) (o : V) (ds : List D) (us : List V) (Q : VK), ds.length = us.length → SR G H (.dv c o :: (dvs ds us ++ L)) → m c ds = some (d, c') → (∀ v H', SR G H' (.dv d v :: .dv c' o :: L) → Q v H') → r o us H Q
/-- o[i] = v -/
abbrev SetF := D → D → D → Option D
def SetC (G : Gl) (r : TSet) (m : SetF) : Prop :=
  ∀ (H : Hp) (L : List Itm) (c c' k x : D) (o i v : V) (Q : Hp → Prop), SR G H (.dv c o :: .dv k i :: .dv x v :: L) → m c k x = some c' → (∀ H', SR G H' (.dv c' o :: L) → Q H') → r o i v H Q

/-! ### semantics -/
/-- the receiver: the name in slot i; T: whether it is of the method's type -/
def mutE (ty : D → Bool) (m : MutF) (i : Nat) (fs : List (Env → Res D)) : Env → Res D := fun ρ => match ρ[i]? with
  | some (some c0) => if ty c0 = true then (evAll fs ρ).bind fun ds ρ' => (match ρ'[i]? with
    | some (some c) => (match m c ds with
      | some (d, c') => .ok d (ρ'.set i (some c'))
      | none => .stuck)
    | _ => .stuck) else .stuck
  | _ => .stuck
/-- the j-th of a list held alone: the list, the place, the item -/
def placeOf : Option (Option D) → D → Option (List D × Nat × D)
  | some (some (.lst true xs)), .int j => (match ixN xs.length j with
    | some n => (xs[n]?).map fun c => (xs, n, c)
    | none => none)
  | _, _ => none
theorem placeOf_eq {o : Option (Option D)} {j c : D} {xs : List D} {n : Nat} (h : placeOf o j = some (xs, n, c)) : ∃ i, o = some (some (.lst true xs)) ∧ j = .int i ∧ ixN xs.length i = some n ∧ xs[n]? = some c := by
  unfold placeOf at h
  split at h
  · split at h
    · rename_i m e
      simp only [Option.map_eq_some_iff, Prod.mk.injEq] at h
      obtain ⟨x, e1, rfl, rfl, rfl⟩ := h
      exact ⟨_, rfl, rfl, e, e1⟩
    · cases h
  · cases h
/-- the receiver: o[j] of the list o in slot i -/
def mut2E (ty : D → Bool) (m : MutF) (i : Nat) (fj : Env → Res D) (fs : List (Env → Res D)) : Env → Res D := fun ρ => match ρ[i]? with
  | some (some _) => (fj ρ).bind fun j ρ1 => (match placeOf ρ1[i]? j with
    | some (xs, k, c) => if ty c = true then (evAll fs (ρ1.set i none)).bind fun ds ρ2 => (match m c ds with
      | some (d, c') => if i < ρ2.length then .ok d (ρ2.set i (some (.lst true (xs.set k c')))) else .stuck
      | none => .stuck) else .stuck
    | none => .stuck)
  | _ => .stuck
/-- name[j] = value -/
def setIxS (m : SetF) (i : Nat) (fj f : Env → Res D) : Env → RS := fun ρ => (f ρ).rs fun x ρ1 => match ρ1[i]? with
  | some (some _) => (fj ρ1).rs fun j ρ2 => (match ρ2[i]? with
    | some (some c) => (match m c j x with
      | some c' => .next (ρ2.set i (some c'))
      | none => .stuck)
    | _ => .stuck)
  | _ => .stuck
/-- name[a][b] = value, a written -/
def setIx2S (m : SetF) (i : Nat) (a : Int) (fj f : Env → Res D) : Env → RS := fun ρ => (f ρ).rs fun x ρ1 => match placeOf ρ1[i]? (.int a) with
  | some (xs, k, c) => (fj (ρ1.set i none)).rs fun j ρ2 => (match m c j x with
    | some c' => if i < ρ2.length then .next (ρ2.set i (some (.lst true (xs.set k c')))) else .stuck
    | none => .stuck)
  | none => .stuck
section
variable {G : Gl} {Δ : Dy} {W : WX} {X : Cx} {pos : Pos}
/-! ### the parts of a list, one apart -/
theorem dvs_split : ∀ {xs : List D} {vs : List V} {k : Nat} {c : D} {v : V}, xs.length = vs.length → xs[k]? = some c → vs[k]? = some v → ∃ M, (dvs xs vs).Perm (.dv c v :: M) ∧ ∀ c', (dvs (xs.set k c') vs).Perm (.dv c' v :: M)
  | [], _, k, c, v, _, h, _ => by simp at h
  | x :: xs, [], k, c, v, l, _, _ => by simp at l
  | x :: xs, w :: vs, 0, c, v, l, h, h2 => by
    have h : x = c := by simpa using h
    have h2 : w = v := by simpa using h2
    subst h; subst h2
    exact ⟨dvs xs vs, .refl _, fun c' => .refl _⟩
  | x :: xs, w :: vs, k + 1, c, v, l, h, h2 => by
    obtain ⟨M, p1, p2⟩ := dvs_split (xs := xs) (vs := vs) (k := k) (by simpa using l) (by simpa using h) (by simpa using h2)
    refine ⟨.dv x w :: M, (List.Perm.cons _ p1).trans (.swap ..), fun c' => ?_⟩
    show (Itm.dv x w :: dvs (xs.set k c') vs).Perm _
    exact (List.Perm.cons _ (p2 c')).trans (.swap ..)
/-- the k-th of a list held alone -/
theorem SR.part {H : Hp} {xs : List D} {o : V} {L : List Itm} {k : Nat} {c : D} (h : SR G H (.dv (.lst true xs) o :: L)) (e : xs[k]? = some c) :
    ∃ a vs v M, o = .ref a ∧ xs.length = vs.length ∧ H a = some (.lst vs) ∧ vs[k]? = some v ∧ SR G H (.dv c v :: (M ++ L)) ∧ ∀ H' c' L', SR G H' (.dv c' v :: (M ++ L')) → SR G H' (.dv (.lst true (xs.set k c')) o :: L') := by
  obtain ⟨a, vs, rfl, l, s⟩ := SR.openL h
  have hk : k < vs.length := by rw [← l]; exact (List.getElem?_eq_some_iff.mp e).1
  have ev : vs[k]? = some vs[k] := List.getElem?_eq_getElem hk
  obtain ⟨M, p1, p2⟩ := dvs_split l e ev
  refine ⟨a, vs, vs[k], .raw a (.lst vs) :: M, rfl, l, s.rawAt, ev, ?_, fun H' c' L' q => ?_⟩
  · refine s.perm ((List.Perm.cons _ (List.Perm.append_right L p1)).trans ?_)
    exact .swap ..
  · refine SR.closeL (by simpa using l) ?_
    refine q.perm ((List.Perm.swap ..).trans (List.Perm.cons _ ?_))
    exact (List.Perm.append_right L' (p2 c').symm)
/-! ### lists' own -/
theorem tyV_list {H : Hp} {L : List Itm} {b : Bool} {xs : List D} {o : V} (hK : X.K = G.K) (h : SR G H (.dv (.lst b xs) o :: L)) : tyV X.K "list" o H := by
  obtain ⟨Z, F, sz, F1, r⟩ := SR.at1 h
  obtain ⟨a, vs, F', rfl, sa, ra⟩ := Rep.seqL r
  exact .inl ⟨rfl, vs, by rw [hK]; exact sa⟩
def isLst : D → Bool
  | .lst _ _ => true
  | _ => false
def appM : MutF
  | .lst true xs, [x] => if xs.length < sizeLine then some (.non, .lst true (xs ++ [x])) else none
  | _, _ => none
theorem dvs_one {d : D} {us : List V} (l : [d].length = us.length) : ∃ u, us = [u] := by
  match us, l with
  | [u], _ => exact ⟨u, rfl⟩
theorem appM_eq {c d c' : D} {ds : List D} (h : appM c ds = some (d, c')) : ∃ xs x, c = .lst true xs ∧ ds = [x] ∧ xs.length < sizeLine ∧ d = .non ∧ c' = .lst true (xs ++ [x]) := by
  unfold appM at h
  split at h
  · split at h
    · rename_i l; cases h; exact ⟨_, _, rfl, rfl, l, rfl, rfl⟩
    · cases h
  · cases h
theorem mc_append (hK : X.K = G.K) : MutC G X.K "list" rAppend appM := by
  refine ⟨fun H L c o ds ⟨d, c'⟩ s e => ?_, fun H L c c' d o ds us Q l s e k => ?_⟩
  · obtain ⟨xs, x, rfl, rfl, hl, rfl, rfl⟩ := appM_eq e
    exact tyV_list hK s
  · obtain ⟨xs, x, rfl, rfl, hl, rfl, rfl⟩ := appM_eq e
    obtain ⟨u, rfl⟩ := dvs_one l
    obtain ⟨a, vs, rfl, lv, s2⟩ := SR.openL s
    refine ⟨a, vs, u, rfl, rfl, s2.rawAt, by rw [← lv]; exact hl, k _ _ ?_⟩
    have s3 : SR G (upd H a (.lst (vs ++ [u]))) (.raw a (.lst (vs ++ [u])) :: (dvs (xs ++ [x]) (vs ++ [u]) ++ L)) := by
      rw [dvs_snoc lv, List.append_assoc]
      exact SR.write s2 (nt_lst _)
    have s4 := SR.closeL (by simp [lv]) s3
    obtain ⟨Z, F, sz⟩ := s4
    exact sz.addD (rep_non _ Z)
/-- pop(), pop(j) -/
def popM : MutF
  | .lst true xs, [] => (match xs[xs.length - 1]? with
    | some x => some (x, .lst true xs.dropLast)
    | none => none)
  | .lst true xs, [.int j] => if (decide (-(2 ^ 63) ≤ j) && decide (j < 2 ^ 63)) = true then (match ixN xs.length j with
    | some k => (match xs[k]? with
      | some x => some (x, .lst true (xs.eraseIdx k))
      | none => none)
    | none => none) else none
  | _, _ => none
theorem dvs_erase : ∀ {xs : List D} {vs : List V} {k : Nat} {c : D} {v : V}, xs.length = vs.length → xs[k]? = some c → vs[k]? = some v → (dvs xs vs).Perm (.dv c v :: dvs (xs.eraseIdx k) (vs.eraseIdx k))
  | [], _, k, c, v, _, h, _ => by simp at h
  | x :: xs, [], k, c, v, l, _, _ => by simp at l
  | x :: xs, w :: vs, 0, c, v, l, h, h2 => by
    have h : x = c := by simpa using h
    have h2 : w = v := by simpa using h2
    subst h; subst h2
    exact .refl _
  | x :: xs, w :: vs, k + 1, c, v, l, h, h2 =>
    (List.Perm.cons _ (dvs_erase (xs := xs) (vs := vs) (k := k) (by simpa using l) (by simpa using h) (by simpa using h2))).trans (.swap ..)
theorem SR.popped {H : Hp} {xs : List D} {o : V} {L : List Itm} {k : Nat} {c : D} (h : SR G H (.dv (.lst true xs) o :: L)) (e : xs[k]? = some c) :
    ∃ a vs v, o = .ref a ∧ xs.length = vs.length ∧ H a = some (.lst vs) ∧ vs[k]? = some v ∧ SR G (upd H a (.lst (vs.eraseIdx k))) (.dv c v :: .dv (.lst true (xs.eraseIdx k)) o :: L) := by
  obtain ⟨a, vs, rfl, l, s⟩ := SR.openL h
  have hk : k < vs.length := by rw [← l]; exact (List.getElem?_eq_some_iff.mp e).1
  have ev : vs[k]? = some vs[k] := List.getElem?_eq_getElem hk
  have p1 := dvs_erase l e ev
  refine ⟨a, vs, vs[k], rfl, l, s.rawAt, ev, ?_⟩
  have s2 : SR G (upd H a (.lst (vs.eraseIdx k))) (.raw a (.lst (vs.eraseIdx k)) :: (dvs (xs.eraseIdx k) (vs.eraseIdx k) ++ (.dv c vs[k] :: L))) := by
    refine (SR.write s (nt_lst _)).perm (List.Perm.cons _ ?_)
    exact (List.Perm.append_right L p1).trans List.perm_middle.symm
  have lk : (xs.eraseIdx k).length = (vs.eraseIdx k).length := by rw [List.length_eraseIdx, List.length_eraseIdx, l]
  exact SR.swap (SR.closeL lk s2)
def rPop2 : V → List V → Hp → VK → Prop := fun x vs H Q => rPop x vs H Q ∨ rPopAt x vs H Q
theorem dropLast_erase {α : Type} (l : List α) : l.dropLast = l.eraseIdx (l.length - 1) := by
  induction l with
  | nil => rfl
  | cons x r ih =>
    cases r with
    | nil => rfl
    | cons y r' =>
      show x :: (y :: r').dropLast = (x :: y :: r').eraseIdx ((y :: r').length)
      rw [ih]
      rfl
theorem ixN_seq' {n k : Nat} {i : Int} (h : ixN n i = some k) : seqIndex? i n = some k := (ixN_seq h).1
theorem mc_pop (hK : X.K = G.K) : MutC G X.K "list" rPop2 popM := by
  refine ⟨fun H L c o ds ⟨d, c'⟩ s e => ?_, fun H L c c' d o ds us Q l s e k => ?_⟩
  · unfold popM at e
    split at e
    · exact tyV_list hK s
    · exact tyV_list hK s
    · cases e
  · unfold popM at e
    split at e
    · rename_i xs
      split at e
      · rename_i x ex
        cases e
        have : us = [] := by cases us with | nil => rfl | cons _ _ => simp at l
        subst this
        obtain ⟨a, vs, v, rfl, lv, ha, ev, s2⟩ := SR.popped s ex
        refine .inl ⟨a, vs, v, rfl, rfl, ha, by rw [← lv]; exact ev, k _ _ ?_⟩
        rw [dropLast_erase, dropLast_erase, ← lv]
        exact s2
      · cases e
    · rename_i xs j
      split at e
      · rename_i bd
        simp only [Bool.and_eq_true, decide_eq_true_eq] at bd
        split at e
        · rename_i n en
          split at e
          · rename_i xx ex
            obtain ⟨e1, e2⟩ := Prod.mk.inj (Option.some.inj e)
            subst e1; subst e2
            obtain ⟨u, rfl⟩ := dvs_one l
            obtain ⟨a, vs, v, rfl, lv, ha, ev, s2⟩ := SR.popped s ex
            have hu : u = .int j := by
              have s' : SR G H (.dv (.int j) u :: (.dv (.lst true xs) (.ref a) :: L)) := SR.swap s
              obtain ⟨Z, F, sz, F1, r⟩ := SR.at1 s'
              exact rep_i r
            subst hu
            refine .inr ⟨a, vs, j, n, v, rfl, rfl, ha, bd.1, bd.2, by rw [← lv]; exact ixN_seq' en, ev, k _ _ ?_⟩
            have p : (Itm.dv xx v :: .dv (.lst true (xs.eraseIdx n)) (.ref a) :: (dvs [.int j] [.int j] ++ L)).Perm (.dv (.int j) (.int j) :: (.dv xx v :: .dv (.lst true (xs.eraseIdx n)) (.ref a) :: L)) :=
              (List.perm_middle (l₁ := [Itm.dv xx v, .dv (.lst true (xs.eraseIdx n)) (.ref a)]))
            exact SR.drop (s2.perm p)
          · cases e
        · cases e
      · cases e
    · cases e
theorem mt_pop2 : MtM X "list.pop" rPop2 := by
  intro pins s σ H x xs v us Q I rx rs q
  rcases q with q | q
  · exact mt_pop pins s σ H x xs v us Q I rx rs q
  · exact mt_popAt pins s σ H x xs v us Q I rx rs q
/-- name[j] = value, of a list -/
def setM : SetF
  | .lst true xs, .int j, x => (match ixN xs.length j with
    | some k => some (.lst true (xs.set k x))
    | none => none)
  | _, _, _ => none
theorem setM_eq {c k x c' : D} (h : setM c k x = some c') : ∃ xs j n, c = .lst true xs ∧ k = .int j ∧ ixN xs.length j = some n ∧ c' = .lst true (xs.set n x) := by
  unfold setM at h
  split at h
  · split at h
    · rename_i n en; cases h; exact ⟨_, _, n, rfl, rfl, en, rfl⟩
    · cases h
  · cases h
theorem dvs_set : ∀ {xs : List D} {vs : List V} {k : Nat} {c : D} {v : V}, xs.length = vs.length → xs[k]? = some c → vs[k]? = some v → ∃ M, (dvs xs vs).Perm (.dv c v :: M) ∧ ∀ c' v', (dvs (xs.set k c') (vs.set k v')).Perm (.dv c' v' :: M)
  | [], _, k, c, v, _, h, _ => by simp at h
  | x :: xs, [], k, c, v, l, _, _ => by simp at l
  | x :: xs, w :: vs, 0, c, v, l, h, h2 => by
    have h : x = c := by simpa using h
    have h2 : w = v := by simpa using h2
    subst h; subst h2
    exact ⟨dvs xs vs, .refl _, fun c' v' => .refl _⟩
  | x :: xs, w :: vs, k + 1, c, v, l, h, h2 => by
    obtain ⟨M, p1, p2⟩ := dvs_set (xs := xs) (vs := vs) (k := k) (by simpa using l) (by simpa using h) (by simpa using h2)
    refine ⟨.dv x w :: M, (List.Perm.cons _ p1).trans (.swap ..), fun c' v' => ?_⟩
    show (Itm.dv x w :: dvs (xs.set k c') (vs.set k v')).Perm _
    exact (List.Perm.cons _ (p2 c' v')).trans (.swap ..)
theorem sc_list : SetC G rSetL setM := by
  intro H L c c' k x o i v Q s e q
  obtain ⟨xs, j, n, rfl, rfl, en, rfl⟩ := setM_eq e
  obtain ⟨a, vs, rfl, lv, s2⟩ := SR.openL s
  have hi : i = .int j := by
    have s' : SR G H (.dv (.int j) i :: (.dv (.lst true xs) (.ref a) :: .dv x v :: L)) := SR.swap s
    obtain ⟨Z, F, sz, F1, r⟩ := SR.at1 s'
    exact rep_i r
  subst hi
  have hk : n < xs.length := (ixN_seq en).2.1
  have ex : xs[n]? = some xs[n] := List.getElem?_eq_getElem hk
  have ev : vs[n]? = some (vs[n]'(by rw [← lv]; exact hk)) := List.getElem?_eq_getElem _
  obtain ⟨M, p1, p2⟩ := dvs_set lv ex ev
  refine ⟨a, vs, j, n, rfl, rfl, s2.rawAt, by rw [← lv]; exact en, q _ ?_⟩
  have s3 : SR G (upd H a (.lst (vs.set n v))) (.raw a (.lst (vs.set n v)) :: ((.dv xs[n] vs[n] :: M) ++ (.dv (.int j) (.int j) :: .dv x v :: L))) := (SR.write s2 (nt_lst _)).perm (List.Perm.cons _ (List.Perm.append_right _ p1))
  have p3 : (.raw a (.lst (vs.set n v)) :: ((.dv xs[n] vs[n] :: M) ++ (.dv (.int j) (.int j) :: .dv x v :: L))).Perm ([.dv xs[n] vs[n], .dv (.int j) (.int j)] ++ (.raw a (.lst (vs.set n v)) :: ((.dv x v :: M) ++ L))) := by
    refine (List.Perm.swap ..).trans (List.Perm.cons _ ?_)
    refine (List.Perm.cons _ List.perm_middle).trans ?_
    refine (List.Perm.swap ..).trans (List.Perm.cons _ (List.Perm.cons _ ?_))
    exact List.perm_middle
  have s4 := SR.right (s3.perm p3)
  exact SR.closeL (by simp [lv]) (s4.perm (List.Perm.cons _ (List.Perm.append_right L (p2 x v).symm)))

/-! ### as rules -/
theorem te_mut {T : String} {r : V → List V → Hp → VK → Prop} {ty : D → Bool} {m : MutF} {i : Nat} {fs : List (Env → Res D)} (hs : i = 0 → Δ.to = none) (c : MutC G X.K T r m)
    (hty : ∀ (H : Hp) (L : List Itm) (c : D) (o : V), SR G H (.dv c o :: L) → ty c = true → tyV X.K T o H) {σ : St} {H : Hp} {Q : VK} (h : TEof G Δ W (mutE ty m i fs) σ H Q) : tBM X.K T r (tVar i) (TAof G Δ W (tmpE fs)) σ H Q := by
  obtain ⟨ρ, L, s, k⟩ := h
  unfold mutE at k
  cases e0 : ρ[i]? with
  | none => rw [e0] at k; exact k.elim
  | some y =>
    cases y with
    | none => rw [e0] at k; exact k.elim
    | some c0 =>
      rw [e0] at k
      simp only at k
      by_cases ht : ty c0 = true
      · rw [if_pos ht] at k
        obtain ⟨v0, ev, s0⟩ := s.take e0 hs
        refine ⟨v0, ev, hty _ _ _ _ s0.1 ht, ρ, L, s, ?_⟩
        rw [evOps_tmp]
        cases e : evAll fs ρ with
        | stuck => rw [e] at k; exact k
        | exc c a ρ1 => rw [e] at k; exact k
        | ok ds ρ1 =>
          rw [e] at k
          simp only [Res.bind] at k ⊢
          intro vs H1 s1 ov
          obtain ⟨l, e1⟩ := opI_tmp ov
          rw [e1] at s1
          cases e3 : ρ1[i]? with
          | none => rw [e3] at k; exact k.elim
          | some y =>
            cases y with
            | none => rw [e3] at k; exact k.elim
            | some c1 =>
              rw [e3] at k
              simp only at k
              obtain ⟨v1, ev1, s2⟩ := s1.take e3 hs
              rw [ev] at ev1
              cases ev1
              cases e4 : m c1 ds with
              | none => rw [e4] at k; exact k.elim
              | some p =>
                obtain ⟨d, c2⟩ := p
                rw [e4] at k
                simp only at k
                have hi : i < (ρ1.set i none).length := by rw [List.length_set]; exact ilt e3
                have s3 : SR G H1 (.dv c1 v0 :: (dvs ds vs ++ (L ++ (slotI (ρ1.set i none) σ ++ basI G Δ (ρ1.set i none))))) := by
                  have q := s2.1
                  rw [List.cons_append, List.append_assoc] at q
                  exact q
                refine c.2 H1 _ c1 c2 d v0 ds vs Q l s3 e4 fun v H' q => k v H' ?_
                have s4 : SRS G Δ H' σ (ρ1.set i none) (.dv c2 v0 :: .dv d v :: L) := ⟨SR.swap q, s2.2⟩
                have s5 := s4.back hi ev hs
                rw [set_set'] at s5
                exact s5
      · rw [if_neg ht] at k; exact k.elim
theorem lst_ty (hK : X.K = G.K) : ∀ (H : Hp) (L : List Itm) (c : D) (o : V), SR G H (.dv c o :: L) → isLst c = true → tyV X.K "list" o H := fun H L c o s h => by
  cases c <;> first | (cases h; done) | skip
  exact tyV_list hK s
/-- o[j] of the list o in slot i, put apart -/
theorem te_mut2 {T : String} {r : V → List V → Hp → VK → Prop} {ty : D → Bool} {m : MutF} {i : Nat} {fj : Env → Res D} {fs : List (Env → Res D)} (hs : i = 0 → Δ.to = none) (c : MutC G X.K T r m)
    (hty : ∀ (H : Hp) (L : List Itm) (c : D) (o : V), SR G H (.dv c o :: L) → ty c = true → tyV X.K T o H) {σ : St} {H : Hp} {Q : VK} (h : TEof G Δ W (mut2E ty m i fj fs) σ H Q) :
    tBM X.K T r (tOp (rIx G.K) (tVar i) (TEof G Δ W fj)) (TAof G Δ W (tmpE fs)) σ H Q := by
  obtain ⟨ρ, L, s, k⟩ := h
  unfold mut2E at k
  cases e0 : ρ[i]? with
  | none => rw [e0] at k; exact k.elim
  | some y =>
    cases y with
    | none => rw [e0] at k; exact k.elim
    | some c0 =>
      rw [e0] at k
      simp only at k
      obtain ⟨v0, ev⟩ := s.look e0
      refine ⟨v0, ev, ρ, L, s, ?_⟩
      cases ej : fj ρ with
      | stuck => rw [ej] at k; exact k
      | exc c a ρ1 => rw [ej] at k; exact k
      | ok dj ρ1 =>
        rw [ej] at k
        simp only [Res.bind] at k
        intro vj H1 s1
        cases epl : placeOf ρ1[i]? dj with
        | none => rw [epl] at k; exact k.elim
        | some pl =>
              obtain ⟨xs, n, c1⟩ := pl
              rw [epl] at k
              simp only at k
              obtain ⟨j, e1, rfl, en, ec⟩ := placeOf_eq epl
              have hj := vint s1
              subst hj
              by_cases ht : ty c1 = true
              · rw [if_pos ht] at k
                obtain ⟨v1, ev1, s2⟩ := (s1.drop).take e1 hs
                rw [ev] at ev1
                cases ev1
                obtain ⟨a, vs, v, M, rfl, lv, ha, evn, s3, back⟩ := SR.part s2.1 ec
                refine .inl ⟨a, vs, j, v, rfl, rfl, .inl (.inl ha), ?_, ?_⟩
                · unfold atI; rw [← lv, en]; exact evn
                have s4 : SRS G Δ H1 σ (ρ1.set i none) (.dv c1 v :: (M ++ L)) := ⟨by
                  have q : SR G H1 (.dv c1 v :: (M ++ (L ++ (slotI (ρ1.set i none) σ ++ basI G Δ (ρ1.set i none))))) := s3
                  rw [← List.append_assoc] at q
                  exact q, s2.2⟩
                refine ⟨hty _ _ _ _ s4.1 ht, ρ1.set i none, _, s4, ?_⟩
                rw [evOps_tmp]
                cases e : evAll fs (ρ1.set i none) with
                | stuck => rw [e] at k; exact k
                | exc c a ρ2 =>
                  rw [e] at k
                  intro H' E dd s' x
                  refine k H' E dd (s'.lift fun K q => ?_) x
                  have q1 : SR G H' ((E ++ (.dv c1 v :: (M ++ L))) ++ K) := q
                  have p : ((E ++ (Itm.dv c1 v :: (M ++ L))) ++ K).Perm ((.dv c1 v :: M) ++ ((E ++ L) ++ K)) := by
                    rw [← List.append_assoc]
                    refine List.Perm.append_right K ?_
                    have : (E ++ ((Itm.dv c1 v :: M) ++ L)).Perm ((.dv c1 v :: M) ++ (E ++ L)) := by
                      rw [← List.append_assoc, ← List.append_assoc]
                      exact List.Perm.append_right L List.perm_append_comm
                    exact this
                  exact SR.right (q1.perm p)
                | ok ds ρ2 =>
                  rw [e] at k
                  simp only [Res.bind] at k ⊢
                  intro us H2 s5 ov
                  obtain ⟨l, e6⟩ := opI_tmp ov
                  rw [e6] at s5
                  cases e4 : m c1 ds with
                  | none => rw [e4] at k; exact k.elim
                  | some p =>
                    obtain ⟨d, c2⟩ := p
                    rw [e4] at k
                    simp only at k
                    by_cases hi : i < ρ2.length
                    · rw [if_pos hi] at k
                      have p5 : (dvs ds us ++ (Itm.dv c1 v :: (M ++ L))).Perm (.dv c1 v :: (dvs ds us ++ (M ++ L))) := List.perm_middle
                      have s6 := s5.perm p5
                      have s7 : SR G H2 (.dv c1 v :: (dvs ds us ++ ((M ++ L) ++ (slotI ρ2 σ ++ basI G Δ ρ2)))) := by
                        have q := s6.1
                        rw [List.cons_append, List.append_assoc] at q
                        exact q
                      refine c.2 H2 _ c1 c2 d v ds us Q l s7 e4 fun w H' q => k w H' ?_
                      have p6 : (Itm.dv d w :: .dv c2 v :: ((M ++ L) ++ (slotI ρ2 σ ++ basI G Δ ρ2))).Perm (.dv c2 v :: (M ++ (.dv d w :: (L ++ (slotI ρ2 σ ++ basI G Δ ρ2))))) := by
                        refine (List.Perm.swap ..).trans (List.Perm.cons _ ?_)
                        rw [List.append_assoc]
                        exact List.perm_middle.symm
                      have s8 := back H' c2 _ (q.perm p6)
                      have s9 : SRS G Δ H' σ ρ2 (.dv (.lst true (xs.set n c2)) (.ref a) :: .dv d w :: L) := ⟨s8, s5.2⟩
                      exact s9.back hi ev hs
                    · rw [if_neg hi] at k; exact k.elim
              · rw [if_neg ht] at k; exact k.elim
theorem pe_mut {T id : String} {r : V → List V → Hp → VK → Prop} {ty : D → Bool} {m : MutF} {i : Nat} {fs : List (Env → Res D)} {o e : Expr} {es : List Expr} {name : Str} {apos : Pos} (hs0 : i = 0 → Δ.to = none) (c : MutC G X.K T r m)
    (hty : ∀ (H : Hp) (L : List Itm) (c : D) (o : V), SR G H (.dv c o :: L) → ty c = true → tyV X.K T o H)
    (pa : PlainAttrs T) (slot : Slot T name id) (htm : typeOf (.builtin id) = pure (.type "method_descriptor")) (hm : MtR X id r) (ho : PE X o (tVar i)) (ha : PA X (e :: es) (TAof G Δ W (tmpE fs)))
    (hbase : attributeBase o name X.env (eval o X.env) = eval o X.env := by rfl)
    (hfew : ((backTo pos (starEach (e :: es) X.env)).all (fun x => !x.1) && (backToKw pos (keywordEach [] X.env)).all (fun x => x.1.isSome)
      && decide ((e :: es).length + ([] : List Keyword).length + (if ([] : List Keyword).isEmpty then 0 else 1) < 30)) = true := by rfl)
    (hline : (apos.endLine == pos.line) = true := by rfl) (hs : starEach (e :: es) X.env = (false, eval e X.env) :: starEach es X.env := by rfl) (hplain : (backTo pos (starEach es X.env)).any (·.1) = false := by rfl) :
    PE X (.Call (.Attribute o name apos) (e :: es) [] pos) (TEof G Δ W (mutE ty m i fs)) :=
  pe_imp (pe_bm pa slot htm hm ho ha hbase hfew hline hs hplain) fun _ _ _ h => te_mut hs0 c hty h
theorem tbm0 {T : String} {r : V → List V → Hp → VK → Prop} {to : TE} {σ : St} {H : Hp} {Q : VK} (h : tBM X.K T r to (TAof G Δ W (tmpE [])) σ H Q) (mono : ∀ (Q1 Q2 : VK), (∀ x H, Q1 x H → Q2 x H) → to σ H Q1 → to σ H Q2) : tBM0 X.K T r to σ H Q :=
  mono _ _ (fun x H1 q => ⟨q.1, ta_nil q.2⟩) h
theorem pe_mut0 {T id : String} {r : V → List V → Hp → VK → Prop} {ty : D → Bool} {m : MutF} {i : Nat} {o : Expr} {name : Str} {apos : Pos} (hs0 : i = 0 → Δ.to = none) (c : MutC G X.K T r m)
    (hty : ∀ (H : Hp) (L : List Itm) (c : D) (o : V), SR G H (.dv c o :: L) → ty c = true → tyV X.K T o H)
    (pa : PlainAttrs T) (slot : Slot T name id) (htm : typeOf (.builtin id) = pure (.type "method_descriptor")) (hm : MtR X id r) (ho : PE X o (tVar i))
    (hbase : attributeBase o name X.env (eval o X.env) = eval o X.env := by rfl) (hline : (apos.endLine == pos.line) = true := by rfl) :
    PE X (.Call (.Attribute o name apos) [] [] pos) (TEof G Δ W (mutE ty m i [])) :=
  pe_imp (pe_bm0 pa slot htm hm ho hbase hline) fun _ _ _ h => tbm0 (te_mut hs0 c hty h) fun _ _ j ⟨v, e, q⟩ => ⟨v, e, j _ _ q⟩
theorem pe_mut2 {T id : String} {r : V → List V → Hp → VK → Prop} {ty : D → Bool} {m : MutF} {i : Nat} {fj : Env → Res D} {fs : List (Env → Res D)} {o j e : Expr} {es : List Expr} {name : Str} {apos opos : Pos} (hK : X.K = G.K) (hs0 : i = 0 → Δ.to = none) (c : MutC G X.K T r m)
    (hty : ∀ (H : Hp) (L : List Itm) (c : D) (o : V), SR G H (.dv c o :: L) → ty c = true → tyV X.K T o H)
    (pa : PlainAttrs T) (slot : Slot T name id) (htm : typeOf (.builtin id) = pure (.type "method_descriptor")) (hm : MtR X id r) (ho : PE X o (tVar i)) (hj : PE X j (TEof G Δ W fj)) (hp : PlainIx j) (ha : PA X (e :: es) (TAof G Δ W (tmpE fs)))
    (hbase : attributeBase (.Subscript o j opos) name X.env (eval (.Subscript o j opos) X.env) = eval (.Subscript o j opos) X.env := by rfl)
    (hfew : ((backTo pos (starEach (e :: es) X.env)).all (fun x => !x.1) && (backToKw pos (keywordEach [] X.env)).all (fun x => x.1.isSome)
      && decide ((e :: es).length + ([] : List Keyword).length + (if ([] : List Keyword).isEmpty then 0 else 1) < 30)) = true := by rfl)
    (hline : (apos.endLine == pos.line) = true := by rfl) (hs : starEach (e :: es) X.env = (false, eval e X.env) :: starEach es X.env := by rfl) (hplain : (backTo pos (starEach es X.env)).any (·.1) = false := by rfl) :
    PE X (.Call (.Attribute (.Subscript o j opos) name apos) (e :: es) [] pos) (TEof G Δ W (mut2E ty m i fj fs)) :=
  pe_imp (pe_bm pa slot htm hm (by rw [← hK]; exact pe_ix ix_seq ho hj hp) ha hbase hfew hline hs hplain) fun _ _ _ h => te_mut2 hs0 c hty h

theorem ps_setIx {r : TSet} {m : SetF} {i : Nat} {fj f : Env → Res D} {o j e : Expr} {tpos : Pos} (hs0 : i = 0 → Δ.to = none) (c : SetC G r m) (hr : PSet X r) (ho : PE X o (tVar i)) (hj : PE X j (TEof G Δ W fj)) (he : PE X e (TEof G Δ W f))
    (ha : ∀ v, assign (.Subscript o j tpos) X.env v = (do
      let ov ← holding [v] (eval o X.env)
      let iv ← holding [v, ov] (eval j X.env)
      standAt tpos
      holding [v, ov, iv] (setItem ov iv v)
      release [v, ov, iv] []) := by intro _; rfl)
    (hs : swapsWithSole [.Subscript o j tpos] e pos.line X.env = pure false := by rfl) (hw : swappedStores [.Subscript o j tpos] e X.env = pure none := by rfl) (h1 : (assignEach [.Subscript o j tpos] X.env).map (·.2) = [assign (.Subscript o j tpos) X.env] := by rfl) :
    PS X (.Assign [.Subscript o j tpos] e pos) (TSof G Δ W (setIxS m i fj f)) := by
  refine ps_imp (ps_asg he (pg_sub ho hj hr ha) hs hw h1) fun D σ H ⟨ρ, L, s, k⟩ => ⟨ρ, L, s, ?_⟩
  unfold setIxS at k
  cases e : f ρ with
  | stuck => rw [e] at k; exact k
  | exc c a ρ1 => rw [e] at k; exact k σ
  | ok d ρ1 =>
    rw [e] at k
    simp only [Res.rs] at k
    intro v H1 s1
    cases e0 : ρ1[i]? with
    | none => rw [e0] at k; exact k.elim
    | some y =>
      cases y with
      | none => rw [e0] at k; exact k.elim
      | some c0 =>
        rw [e0] at k
        simp only at k
        obtain ⟨v0, ev⟩ := s1.look e0
        refine ⟨v0, ev, ρ1, _, s1, ?_⟩
        cases ej : fj ρ1 with
        | stuck => rw [ej] at k; exact k
        | exc c a ρ2 =>
          rw [ej] at k
          intro H' E dd s' x
          refine k σ H' E dd (s'.lift fun K q => ?_) x
          have q' : SR G H' (E ++ .dv d v :: (L ++ K)) := by rw [List.append_assoc, List.cons_append] at q; exact q
          rw [List.append_assoc]
          exact SR.drop (SR.unrot q')
        | ok dj ρ2 =>
          rw [ej] at k
          simp only [Res.rs] at k
          intro vj H2 s2
          cases e3 : ρ2[i]? with
          | none => rw [e3] at k; exact k.elim
          | some y =>
            cases y with
            | none => rw [e3] at k; exact k.elim
            | some c1 =>
              rw [e3] at k
              simp only at k
              obtain ⟨v1, ev1, s3⟩ := s2.take e3 hs0
              rw [ev] at ev1
              cases ev1
              cases e4 : m c1 dj d with
              | none => rw [e4] at k; exact k.elim
              | some c2 =>
                rw [e4] at k
                simp only at k
                have hi : i < (ρ2.set i none).length := by rw [List.length_set]; exact ilt e3
                refine c H2 _ c1 c2 dj d v0 vj v _ s3.1 e4 fun H' q => k σ H' ?_
                have s4 : SRS G Δ H' σ (ρ2.set i none) (.dv c2 v0 :: L) := ⟨q, s3.2⟩
                have s5 := s4.back hi ev hs0
                rw [set_set'] at s5
                exact s5
theorem ps_setIx2 {r : TSet} {m : SetF} {i : Nat} {a : Int} {fj f : Env → Res D} {o j j1 e : Expr} {tpos opos : Pos} (hK : X.K = G.K) (hs0 : i = 0 → Δ.to = none) (c : SetC G r m) (hr : PSet X r) (ho : PE X o (tVar i)) (hj1 : PE X j1 (tC (.int a))) (hp : PlainIx j1) (hj : PE X j (TEof G Δ W fj)) (he : PE X e (TEof G Δ W f))
    (ha : ∀ v, assign (.Subscript (.Subscript o j1 opos) j tpos) X.env v = (do
      let ov ← holding [v] (eval (.Subscript o j1 opos) X.env)
      let iv ← holding [v, ov] (eval j X.env)
      standAt tpos
      holding [v, ov, iv] (setItem ov iv v)
      release [v, ov, iv] []) := by intro _; rfl)
    (hs : swapsWithSole [.Subscript (.Subscript o j1 opos) j tpos] e pos.line X.env = pure false := by rfl) (hw : swappedStores [.Subscript (.Subscript o j1 opos) j tpos] e X.env = pure none := by rfl) (h1 : (assignEach [.Subscript (.Subscript o j1 opos) j tpos] X.env).map (·.2) = [assign (.Subscript (.Subscript o j1 opos) j tpos) X.env] := by rfl) :
    PS X (.Assign [.Subscript (.Subscript o j1 opos) j tpos] e pos) (TSof G Δ W (setIx2S m i a fj f)) := by
  refine ps_imp (ps_asg he (pg_sub (pe_ix ix_seq ho hj1 hp) hj hr ha) hs hw h1) fun D σ H ⟨ρ, L, s, k⟩ => ⟨ρ, L, s, ?_⟩
  unfold setIx2S at k
  cases e : f ρ with
  | stuck => rw [e] at k; exact k
  | exc c a ρ1 => rw [e] at k; exact k σ
  | ok d ρ1 =>
    rw [e] at k
    simp only [Res.rs] at k
    intro v H1 s1
    cases epl : placeOf ρ1[i]? (.int a) with
    | none => rw [epl] at k; exact k.elim
    | some pl =>
          obtain ⟨xs, n, c0⟩ := pl
          rw [epl] at k
          simp only at k
          obtain ⟨j, e0, ej0, en, ec⟩ := placeOf_eq epl
          cases ej0
          obtain ⟨v0, ev, s2⟩ := s1.take e0 hs0
          obtain ⟨p, vs, w, M, rfl, lv, hp, evn, s3, back⟩ := SR.part s2.1 ec
          refine ⟨_, ev, .inl ⟨p, vs, a, w, rfl, rfl, .inl (.inl hp), ?_, ?_⟩⟩
          · unfold atI; rw [← lv, en]; exact evn
          have s4 : SRS G Δ H1 σ (ρ1.set i none) (.dv c0 w :: (M ++ (.dv d v :: L))) := ⟨by
            have q := s3
            have q2 : SR G H1 (.dv c0 w :: (M ++ ((.dv d v :: L) ++ (slotI (ρ1.set i none) σ ++ basI G Δ (ρ1.set i none))))) := q
            rw [← List.append_assoc] at q2
            exact q2, s2.2⟩
          refine ⟨_, _, s4, ?_⟩
          cases ej : fj (ρ1.set i none) with
          | stuck => rw [ej] at k; exact k
          | exc c a ρ2 =>
            rw [ej] at k
            intro H' E dd s' x
            refine k σ H' E dd (s'.lift fun K q => ?_) x
            have q1 : SR G H' ((E ++ (.dv c0 w :: (M ++ (.dv d v :: L)))) ++ K) := q
            have p : ((E ++ (Itm.dv c0 w :: (M ++ (.dv d v :: L)))) ++ K).Perm ((.dv c0 w :: (M ++ [.dv d v])) ++ ((E ++ L) ++ K)) := by
              rw [← List.append_assoc]
              refine List.Perm.append_right K ?_
              have : (E ++ ((Itm.dv c0 w :: (M ++ [.dv d v])) ++ L)).Perm ((.dv c0 w :: (M ++ [.dv d v])) ++ (E ++ L)) := by
                rw [← List.append_assoc, ← List.append_assoc]
                exact List.Perm.append_right L List.perm_append_comm
              refine List.Perm.trans ?_ this
              simp only [List.cons_append, List.append_assoc, List.nil_append]
              exact .refl _
            exact SR.right (q1.perm p)
          | ok dj ρ2 =>
            rw [ej] at k
            simp only [Res.rs] at k
            intro vj H2 s5
            cases e4 : m c0 dj d with
            | none => rw [e4] at k; exact k.elim
            | some c2 =>
              rw [e4] at k
              simp only at k
              by_cases hi : i < ρ2.length
              · rw [if_pos hi] at k
                have s6 : SR G H2 (.dv c0 w :: .dv dj vj :: .dv d v :: (M ++ (L ++ (slotI ρ2 σ ++ basI G Δ ρ2)))) := by
                  have q : SR G H2 (.dv dj vj :: .dv c0 w :: ((M ++ (.dv d v :: L)) ++ (slotI ρ2 σ ++ basI G Δ ρ2))) := s5.1
                  refine (SR.swap q).perm (List.Perm.cons _ (List.Perm.cons _ ?_))
                  rw [List.append_assoc]
                  exact List.perm_middle
                refine c H2 _ c0 c2 dj d w vj v _ s6 e4 fun H' q => k σ H' ?_
                have s8 := back H' c2 _ q
                have s9 : SRS G Δ H' σ ρ2 (.dv (.lst true (xs.set n c2)) (.ref p) :: L) := ⟨s8, s5.2⟩
                exact s9.back hi ev hs0
              · rw [if_neg hi] at k; exact k.elim
end
end Ev

end T_V14
section T_V15
set_option Elab.async false
set_option linter.all false
set_option maxRecDepth 100000
set_option maxHeartbeats 4000000
/-! Ev, part 15: the built-ins. -/
namespace Ev
open PySem PySem.Spec L2
open PyProof.Rows hiding St

section
variable {G : Gl} {Δ : Dy} {W : WX} {X : Cx} {pos : Pos}
/-! ### a call of a built-in that only reads -/
theorem pe_bi {id : String} {x : Str} {p : Pos} {e : Expr} {es : List Expr} {fs : List OE} {r : List V → Hp → VK → Prop} {sem : List D → Option D} (hc : CallR X (.builtin id) r) (c : Con G r sem) (hg : L2.Gl X x) (hm : X.mg x = none) (hv : bootBuiltins x = some (.builtin id))
    (ha : PA X (e :: es) (TAof G Δ W fs)) (hn : x ≠ "__name__" := by decide) (hdb : (x == ("__debug__" : Str)) = false := by decide) (he : starEach (e :: es) X.env = (false, eval e X.env) :: starEach es X.env := by rfl) (hpl : (backTo pos (starEach es X.env)).any (·.1) = false := by rfl) :
    PE X (.Call (.Name x p) (e :: es) [] pos) (TEof G Δ W (conE fs sem)) :=
  pe_imp (pe_callB hc hg hm hv ha hn hdb he hpl) fun _ _ _ h => con_te c h
theorem pe_biT {id : String} {x : Str} {p : Pos} {e : Expr} {es : List Expr} {fs : List OE} {r : List V → Hp → VK → Prop} {sem : List D → Option D} (hc : CallR X (.type id) r) (c : Con G r sem) (hg : L2.Gl X x) (hm : X.mg x = none) (hv : bootBuiltins x = some (.type id))
    (ha : PA X (e :: es) (TAof G Δ W fs)) (hn : x ≠ "__name__" := by decide) (hdb : (x == ("__debug__" : Str)) = false := by decide) (he : starEach (e :: es) X.env = (false, eval e X.env) :: starEach es X.env := by rfl) (hpl : (backTo pos (starEach es X.env)).any (·.1) = false := by rfl) :
    PE X (.Call (.Name x p) (e :: es) [] pos) (TEof G Δ W (conE fs sem)) :=
  pe_imp (pe_callTy hc hg hm hv ha hn hdb he hpl) fun _ _ _ h => con_te c h
/-- one argument -/
theorem con_one {r : List V → Hp → VK → Prop} {sem : List D → Option D}
    (h : ∀ (H : Hp) (Z : Addr → Prop) (L : List Itm) (F0 : List Addr) (a d : D) (x : V) (F : List Addr) (Q : VK), SRz G H Z L F0 → sem [a] = some d → Rep G H Z a x F → (∀ v H', SR G H' (.dv d v :: L) → Q v H') → r [x] H Q)
    (l : ∀ ds, (∀ a, ds ≠ [a]) → sem ds = none) : Con G r sem := by
  intro H Z L F ds vs Q d s ra e k
  match ds, e, ra with
  | [a], e, ra =>
    obtain ⟨x, F1, rfl, h1⟩ := ra.one
    exact h H Z L F a d x F1 Q s e h1 k
  | [], e, _ => rw [l [] (by intro a z; cases z)] at e; cases e
  | a :: b :: r, e, _ => rw [l (a :: b :: r) (by intro a z; cases z)] at e; cases e
end

/-! ### what they say of data -/
def lenS : List D → Option D
  | [.lst _ xs] => some (.int xs.length)
  | [.tup xs] => some (.int xs.length)
  | [.str x] => if x.length ≤ sizeLine then some (.int x.length) else none
  | _ => none
def absS : List D → Option D
  | [.int i] => some (.int (if i < 0 then -i else i))
  | _ => none
def intS : List D → Option D
  | [.int i] => some (.int i)
  | [.bl b] => some (.int (if b = true then 1 else 0))
  | _ => none
def boolS : List D → Option D
  | [.int i] => some (.bl (i != 0))
  | [.bl b] => some (.bl b)
  | _ => none
def listS : List D → Option D
  | [.lst _ xs] => if noOwns xs = true then some (.lst true xs) else none
  | [.tup xs] => if noOwns xs = true then some (.lst true xs) else none
  | _ => none
def tupleS : List D → Option D
  | [.lst _ xs] => if noOwns xs = true then some (.tup xs) else none
  | [.tup xs] => if noOwns xs = true then some (.tup xs) else none
  | _ => none
def intsOf : List D → Option (List Int)
  | [] => some []
  | .int i :: r => (intsOf r).map (i :: ·)
  | _ => none
def blsOf : List D → Option (List Bool)
  | [] => some []
  | .bl i :: r => (blsOf r).map (i :: ·)
  | _ => none
def sumS : List D → Option D
  | [.lst _ xs] => (intsOf xs).map fun ns => .int ns.sum
  | _ => none
def allS : List D → Option D
  | [.lst _ xs] => (blsOf xs).map fun ns => .bl (ns.all id)
  | _ => none
def anyS : List D → Option D
  | [.lst _ xs] => (blsOf xs).map fun ns => .bl (ns.any id)
  | _ => none
def max2S : List D → Option D
  | [.int i, .int j] => some (.int (if j > i then j else i))
  | _ => none
def min2S : List D → Option D
  | [.int i, .int j] => some (.int (if j < i then j else i))
  | _ => none
/-- types asked for -/
inductive Ty where
  | int | bool | str | tuple | list
  deriving DecidableEq
def Ty.nm : Ty → String
  | .int => "int"
  | .bool => "bool"
  | .str => "str"
  | .tuple => "tuple"
  | .list => "list"
def tyNm : D → Option String
  | .non => some "NoneType"
  | .bl _ => some "bool"
  | .int _ => some "int"
  | .str _ => some "str"
  | .tup _ => some "tuple"
  | .lst _ _ => some "list"
  | _ => none
def isB (t : Ty) : D → Option Bool
  | .non => some false
  | .bl _ => some (decide (t = .bool) || decide (t = .int))
  | .int _ => some (decide (t = .int))
  | .str _ => some (decide (t = .str))
  | .tup _ => some (decide (t = .tuple))
  | .lst _ _ => some (decide (t = .list))
  | _ => none
def isiS (t : Ty) : List D → Option D
  | [a] => (isB t a).map .bl
  | _ => none
section
variable {G : Gl} {X : Cx}
theorem lenV_of {H : Hp} {Z : Addr → Prop} {a : D} {x : V} {F : List Addr} {n : Nat} (h : Rep G H Z a x F) (e : lenS [a] = some (.int n)) : LenV G.K x H n := by
  cases a <;> simp only [lenS] at e <;> first | (cases e; done) | skip
  · split at e
    · rename_i l
      simp only [Option.some.injEq, D.int.injEq] at e
      rw [rep_s h]
      exact ⟨l, by omega⟩
    · cases e
  · obtain ⟨p, vs, rfl, sa, ra⟩ := Rep.seqT h
    simp only [Option.some.injEq, D.int.injEq] at e
    exact .inr ⟨vs, sa, by rw [← Reps_length ra]; omega⟩
  · obtain ⟨p, vs, F', rfl, sa, ra⟩ := Rep.seqL h
    simp only [Option.some.injEq, D.int.injEq] at e
    exact .inl ⟨vs, sa, by rw [← Reps_length ra]; omega⟩
theorem lenS_nat {a d : D} (e : lenS [a] = some d) : ∃ n : Nat, d = .int n := by
  cases a <;> simp only [lenS] at e <;> first | (cases e; done) | skip
  · split at e
    · cases e; exact ⟨_, rfl⟩
    · cases e
  · cases e; exact ⟨_, rfl⟩
  · cases e; exact ⟨_, rfl⟩
theorem con_len (hK : X.K = G.K) : Con G (fun xs H Q => ∃ x n, xs = [x] ∧ LenV X.K x H n ∧ Q (.int n) H) lenS := by
  refine con_one (fun H Z L F0 a d x F Q s e h k => ?_) (fun ds n => ?_)
  · obtain ⟨n, rfl⟩ := lenS_nat e
    exact ⟨x, n, rfl, by rw [hK]; exact lenV_of h e, k _ _ (s.addD (rep_int _ H Z))⟩
  · match ds, n with
    | [], _ => rfl
    | [a], n => exact (n a rfl).elim
    | a :: b :: r, _ => cases a <;> rfl
theorem con_abs : Con G (fun xs H Q => ∃ i, xs = [.int i] ∧ Q (.int (if i < 0 then -i else i)) H) absS := by
  refine con_one (fun H Z L F0 a d x F Q s e h k => ?_) (fun ds n => ?_)
  · cases a <;> simp only [absS] at e <;> first | (cases e; done) | skip
    cases e
    rw [rep_i h]
    exact ⟨_, rfl, k _ _ (s.addD (rep_int _ H Z))⟩
  · match ds, n with
    | [], _ => rfl
    | [a], n => exact (n a rfl).elim
    | a :: b :: r, _ => cases a <;> rfl
theorem con_int : Con G (fun xs H Q => (∃ i, xs = [.int i] ∧ Q (.int i) H) ∨ ∃ k, xs = [.bl k] ∧ Q (.int (if k then 1 else 0)) H) intS := by
  refine con_one (fun H Z L F0 a d x F Q s e h k => ?_) (fun ds n => ?_)
  · cases a <;> simp only [intS] at e <;> first | (cases e; done) | skip
    · cases e
      rw [rep_b h]
      exact .inr ⟨_, rfl, k _ _ (s.addD (rep_int _ H Z))⟩
    · cases e
      rw [rep_i h]
      exact .inl ⟨_, rfl, k _ _ (s.addD (rep_int _ H Z))⟩
  · match ds, n with
    | [], _ => rfl
    | [a], n => exact (n a rfl).elim
    | a :: b :: r, _ => cases a <;> rfl
theorem con_bool : Con G (fun xs H Q => (∃ i, xs = [.int i] ∧ Q (.bl (i != 0)) H) ∨ ∃ k, xs = [.bl k] ∧ Q (.bl k) H) boolS := by
  refine con_one (fun H Z L F0 a d x F Q s e h k => ?_) (fun ds n => ?_)
  · cases a <;> simp only [boolS] at e <;> first | (cases e; done) | skip
    · cases e
      rw [rep_b h]
      exact .inr ⟨_, rfl, k _ _ (s.addD (rep_bl _ H Z))⟩
    · cases e
      rw [rep_i h]
      exact .inl ⟨_, rfl, k _ _ (s.addD (rep_bl _ H Z))⟩
  · match ds, n with
    | [], _ => rfl
    | [a], n => exact (n a rfl).elim
    | a :: b :: r, _ => cases a <;> rfl
theorem con_list (hK : X.K = G.K) : Con G (fun xs H Q => ∃ p ys, xs = [.ref p] ∧ (SqL X.K H p ys ∨ SqT X.K H p ys) ∧ ∀ l, H l = none → Q (.ref l) (upd H l (.lst ys))) listS := by
  refine con_one (fun H Z L F0 a d x F Q s e h k => ?_) (fun ds n => ?_)
  · rw [hK]
    cases a <;> simp only [listS] at e <;> first | (cases e; done) | skip
    · split at e
      · rename_i n
        cases e
        obtain ⟨p, vs, rfl, sa, ra⟩ := Rep.seqT h
        exact ⟨p, vs, rfl, .inr sa, fun l hl => k _ _ (s.newL (Reps.noOwn n ra) hl)⟩
      · cases e
    · split at e
      · rename_i n
        cases e
        obtain ⟨p, vs, F', rfl, sa, ra⟩ := Rep.seqL h
        exact ⟨p, vs, rfl, .inl sa, fun l hl => k _ _ (s.newL (Reps.noOwn n ra) hl)⟩
      · cases e
  · match ds, n with
    | [], _ => rfl
    | [a], n => exact (n a rfl).elim
    | a :: b :: r, _ => cases a <;> rfl
theorem con_tuple (hK : X.K = G.K) : Con G (fun xs H Q => ∃ p ys, xs = [.ref p] ∧ ((SqL X.K H p ys ∧ ∀ l, H l = none → Q (.ref l) (upd H l (.tup ys))) ∨ (SqT X.K H p ys ∧ Q (.ref p) H))) tupleS := by
  refine con_one (fun H Z L F0 a d x F Q s e h k => ?_) (fun ds n => ?_)
  · rw [hK]
    cases a <;> simp only [tupleS] at e <;> first | (cases e; done) | skip
    · split at e
      · rename_i n
        cases e
        obtain ⟨p, vs, rfl, sa, ra⟩ := Rep.seqT h
        refine ⟨p, vs, rfl, .inr ⟨sa, k _ _ (s.addD ?_)⟩⟩
        simp only [Rep]
        exact ⟨p, vs, rfl, sa, Reps.noOwn n ra⟩
      · cases e
    · split at e
      · rename_i n
        cases e
        obtain ⟨p, vs, F', rfl, sa, ra⟩ := Rep.seqL h
        exact ⟨p, vs, rfl, .inl ⟨sa, fun l hl => k _ _ (s.newT (Reps.noOwn n ra) hl)⟩⟩
      · cases e
  · match ds, n with
    | [], _ => rfl
    | [a], n => exact (n a rfl).elim
    | a :: b :: r, _ => cases a <;> rfl
theorem reps_ints {H : Hp} {Z : Addr → Prop} : ∀ {xs : List D} {vs : List V} {F : List Addr} {ns : List Int}, Reps G H Z xs vs F → intsOf xs = some ns → vs = ns.map V.int
  | [], _, _, _, h, e => by
    simp only [Reps] at h; simp only [intsOf, Option.some.injEq] at e
    rw [h.1, ← e]; rfl
  | x :: xs, _, _, _, h, e => by
    simp only [Reps] at h
    obtain ⟨v, r, F1, F2, rfl, rfl, h1, h2⟩ := h
    cases x <;> simp only [intsOf] at e <;> first | (cases e; done) | skip
    simp only [Option.map_eq_some_iff] at e
    obtain ⟨ns, e1, rfl⟩ := e
    rw [rep_i h1, reps_ints h2 e1]; rfl
theorem reps_bls {H : Hp} {Z : Addr → Prop} : ∀ {xs : List D} {vs : List V} {F : List Addr} {ns : List Bool}, Reps G H Z xs vs F → blsOf xs = some ns → vs = ns.map V.bl
  | [], _, _, _, h, e => by
    simp only [Reps] at h; simp only [blsOf, Option.some.injEq] at e
    rw [h.1, ← e]; rfl
  | x :: xs, _, _, _, h, e => by
    simp only [Reps] at h
    obtain ⟨v, r, F1, F2, rfl, rfl, h1, h2⟩ := h
    cases x <;> simp only [blsOf] at e <;> first | (cases e; done) | skip
    simp only [Option.map_eq_some_iff] at e
    obtain ⟨ns, e1, rfl⟩ := e
    rw [rep_b h1, reps_bls h2 e1]; rfl
theorem con_sum (hK : X.K = G.K) : Con G (rSum X.K) sumS := by
  refine con_one (fun H Z L F0 a d x F Q s e h k => ?_) (fun ds n => ?_)
  · rw [hK]
    cases a <;> simp only [sumS] at e <;> first | (cases e; done) | skip
    simp only [Option.map_eq_some_iff] at e
    obtain ⟨ns, e1, rfl⟩ := e
    obtain ⟨p, vs, F', rfl, sa, ra⟩ := Rep.seqL h
    rw [reps_ints ra e1] at sa
    exact ⟨p, ns, rfl, sa, k _ _ (s.addD (rep_int _ H Z))⟩
  · match ds, n with
    | [], _ => rfl
    | [a], n => exact (n a rfl).elim
    | a :: b :: r, _ => cases a <;> rfl
theorem con_all (hK : X.K = G.K) : Con G (rAll X.K) allS := by
  refine con_one (fun H Z L F0 a d x F Q s e h k => ?_) (fun ds n => ?_)
  · rw [hK]
    cases a <;> simp only [allS] at e <;> first | (cases e; done) | skip
    simp only [Option.map_eq_some_iff] at e
    obtain ⟨ns, e1, rfl⟩ := e
    obtain ⟨p, vs, F', rfl, sa, ra⟩ := Rep.seqL h
    rw [reps_bls ra e1] at sa
    exact ⟨p, ns, rfl, sa, k _ _ (s.addD (rep_bl _ H Z))⟩
  · match ds, n with
    | [], _ => rfl
    | [a], n => exact (n a rfl).elim
    | a :: b :: r, _ => cases a <;> rfl
theorem con_any (hK : X.K = G.K) : Con G (rAny X.K) anyS := by
  refine con_one (fun H Z L F0 a d x F Q s e h k => ?_) (fun ds n => ?_)
  · rw [hK]
    cases a <;> simp only [anyS] at e <;> first | (cases e; done) | skip
    simp only [Option.map_eq_some_iff] at e
    obtain ⟨ns, e1, rfl⟩ := e
    obtain ⟨p, vs, F', rfl, sa, ra⟩ := Rep.seqL h
    rw [reps_bls ra e1] at sa
    exact ⟨p, ns, rfl, sa, k _ _ (s.addD (rep_bl _ H Z))⟩
  · match ds, n with
    | [], _ => rfl
    | [a], n => exact (n a rfl).elim
    | a :: b :: r, _ => cases a <;> rfl
/-- two arguments -/
theorem con_2i {r : List V → Hp → VK → Prop} {sem : List D → Option D} {g : Int → Int → Int} (h : ∀ i j, sem [.int i, .int j] = some (.int (g i j))) (hr : ∀ i j H (Q : VK), Q (.int (g i j)) H → r [.int i, .int j] H Q)
    (hn : ∀ ds, (∀ i j, ds ≠ [.int i, .int j]) → sem ds = none) : Con G r sem := by
  intro H Z L F ds vs Q d s ra e k
  by_cases q : ∃ i j, ds = [.int i, .int j]
  · obtain ⟨i, j, rfl⟩ := q
    obtain ⟨x, y, F1, F2, rfl, h1, h2⟩ := ra.two
    rw [rep_i h1, rep_i h2]
    rw [h] at e
    cases e
    exact hr i j H Q (k _ _ (s.addD (rep_int _ H Z)))
  · rw [hn ds fun i j z => q ⟨i, j, z⟩] at e
    cases e
theorem con_max2 : Con G (fun xs H Q => ∃ i j, xs = [V.int i, .int j] ∧ Q (.int (if j > i then j else i)) H) max2S :=
  con_2i (g := fun i j => if j > i then j else i) (fun i j => rfl) (fun i j H Q q => ⟨i, j, rfl, q⟩) fun ds n => by
    unfold max2S
    split
    · rename_i i j; exact (n i j rfl).elim
    · rfl
theorem con_min2 : Con G (fun xs H Q => ∃ i j, xs = [V.int i, .int j] ∧ Q (.int (if j < i then j else i)) H) min2S :=
  con_2i (g := fun i j => if j < i then j else i) (fun i j => rfl) (fun i j H Q q => ⟨i, j, rfl, q⟩) fun ds n => by
    unfold min2S
    split
    · rename_i i j; exact (n i j rfl).elim
    · rfl
/-! ### isinstance of a value -/
theorem isB_kit {d : D} {t : Ty} {b : Bool} (h : isB t d = some b) : ∃ n, tyNm d = some n ∧ kitB n t.nm = some b := by
  cases d <;> simp only [isB] at h <;> first | (cases h; done) | skip
  all_goals
    simp only [Option.some.injEq] at h
    subst h
    exact ⟨_, rfl, by cases t <;> decide +kernel⟩
theorem tyX_of {H : Hp} {Z : Addr → Prop} {d : D} {x : V} {F : List Addr} {n : String} (h : Rep G H Z d x F) (e : tyNm d = some n) : TyX G.K H x (.type n) := by
  cases d <;> simp only [tyNm] at e <;> first | (cases e; done) | skip
  · cases e; rw [rep_n h]; exact .base .non
  · cases e; rw [rep_b h]; exact .base (.bl _)
  · cases e; rw [rep_i h]; exact .base (.int _)
  · cases e; rw [rep_s h]; exact .base (.str _)
  · cases e
    obtain ⟨p, vs, rfl, sa, ra⟩ := Rep.seqT h
    rcases sa with (sa | ⟨o, sa⟩) | ⟨o, its, n, h1, h2, _⟩
    · exact .base (.tup sa)
    · exact .fTuple sa
    · exact .kTuple h1 h2
  · cases e
    obtain ⟨p, vs, F', rfl, sa, ra⟩ := Rep.seqL h
    rcases sa with (sa | ⟨o, sa⟩) | ⟨o, its, n, h1, h2, _⟩
    · exact .base (.lst sa)
    · exact .base (.frz sa)
    · exact .kList h1 h2
theorem con_isi (hK : X.K = G.K) (t : Ty) : Con G (fun vs H Q => rIsi X.K (vs ++ [V.ty t.nm]) H Q) (isiS t) := by
  refine con_one (fun H Z L F0 a d x F Q s e h k => ?_) (fun ds n => ?_)
  · simp only [isiS, Option.map_eq_some_iff] at e
    obtain ⟨b, e1, rfl⟩ := e
    obtain ⟨n, e2, e3⟩ := isB_kit e1
    rw [hK]
    exact ⟨x, .ty t.nm, .type n, .type t.nm, b, rfl, .ty _, tyX_of h e2, kit_ty e3, k _ _ (s.addD (rep_bl _ H Z))⟩
  · match ds, n with
    | [], _ => rfl
    | [a], n => exact (n a rfl).elim
    | a :: b :: r, _ => rfl
end
section
variable {G : Gl} {Δ : Dy} {W : WX} {X : Cx} {pos : Pos}
theorem pe_isi {a T : Expr} {fa : OE} {t : Ty} {p : Pos} (hK : X.K = G.K) (hg : L2.Gl X "isinstance") (hm : X.mg "isinstance" = none) (ha : PE X a (opTE G Δ W fa)) (hT : PE X T (tC (.ty t.nm)))
    (h1 : starEach (a :: [T]) X.env = (false, eval a X.env) :: starEach [T] X.env := by rfl) (h2 : starEach (T :: []) X.env = (false, eval T X.env) :: starEach [] X.env := by rfl) (hpl : (backTo pos (starEach [T] X.env)).any (·.1) = false := by rfl) :
    PE X (.Call (.Name "isinstance" p) [a, T] [] pos) (TEof G Δ W (conE [fa] (isiS t))) := by
  refine pe_imp (pe_callB (p := p) (pos := pos) call_isi hg hm (by rfl) (pa_cons ha (pa_cons hT pa_nil h2) h1) (by decide) (by decide) h1 hpl) fun σ H Q h => ?_
  have h2 := ta_cons (con_te (con_isi hK t) h)
  refine opTE_mono (fun x H1 q => ?_) h2
  exact ta_nil q
end
end Ev

end T_V15
section T_V16
set_option Elab.async false
set_option linter.all false
set_option maxRecDepth 100000
set_option maxHeartbeats 4000000
/-! Ev, part 16: exceptions; a lambda handed to a def. -/
namespace Ev
open PySem PySem.Spec L2
open PyProof.Rows hiding St

/-! ### raise -/
section
variable {X : Cx} {C : Addr} {bmB : List Value} {B newId initId : String}
theorem pmk_own0 {x : Str} {p pos : Pos} (F : ExcBaseFacts B newId initId bmB) (q : PySem.W.excIn X.K C bmB newId = true) (gC : X.mg x = some (.ref C)) (kC : PySem.W.keepIn X.K (.ref C) = true) (r : Raises X (.ref C)) (hg : L2.Gl X x)
    (hdb : (x == ("__debug__" : Str)) = false := by decide) : PMk X (.Call (.Name x p) [] [] pos) (fun _ H Q => Q (.ref C) none H) := by
  intro pn s σ H Q I0 hh
  refine wpAny_Call_Name_kw (ld_glob I0 hg gC ?_ hdb)
  refine PySem.W.callWith_K0 I0.kIn kC ?_
  show wpAny _ _ (call (.ref C) []) _ _ _
  obtain ⟨bm, N, nm, qn, bs, hdct, sn, sub, ab, col, dd, k0, k1, k2, k3, k5, mN, hC, hN, hni, T⟩ := exc_obj I0.kIn q
  exact wpAny_call_exc_subT F T hC hN hni (fun h' e hm => mk_of I0 hm r hh (I0.hok.gone hm.new)) (by show 0 ≤ sizeLine; exact Nat.zero_le _)
end
section
variable {G : Gl} {Δ : Dy} {W : WX} {X : Cx} {pos : Pos}
def raiseS (c : Nat) : Env → RS := fun ρ => .exc c [] ρ
theorem ps_raise0 {x : Str} {c : Nat} {p cpos : Pos} {bmB : List Value} {B newId initId : String} (hc : X.calm = true) (tk : Takes X W) (F : ExcBaseFacts B newId initId bmB) (q : PySem.W.excIn X.K (G.ca c) bmB newId = true) (gC : X.mg x = some (.ref (G.ca c)))
    (kC : PySem.W.keepIn X.K (.ref (G.ca c)) = true) (r : Raises X (.ref (G.ca c))) (hg : L2.Gl X x) (hdb : (x == ("__debug__" : Str)) = false := by decide) :
    PS X (.Raise (some (.Call (.Name x p) [] [] cpos)) none pos) (TSof G Δ W (raiseS c)) :=
  ps_imp (ps_raise hc tk (pmk_own0 F q gC kC r hg hdb)) fun D σ H ⟨ρ, L, s, k⟩ => k σ H [] none s (.inl ⟨rfl, rfl, rfl⟩)

/-! ### try .. except X as n -/
def tryAsS (body : Env → RS) (i : Nat) (ctc : Nat → Option Bool) (suite : Nat → List D → Env → RS) : Env → RS := fun ρ => match body ρ with
  | .exc c a ρ1 => (match ctc c with
    | some true => if i < ρ1.length then (match suite c a (ρ1.set i none) with
      | .next ρ2 => .next (ρ2.set i none)
      | .ret d ρ2 => .ret d ρ2
      | .brk ρ2 => .brk (ρ2.set i none)
      | .cont ρ2 => .cont (ρ2.set i none)
      | _ => .stuck) else .stuck
    | some false => .exc c a ρ1
    | none => .stuck)
  | r => r
theorem ps_ex {ι : Sort _} {st : List Stmt} {t : ι → TS} (h : ∀ i, PSs X st (t i)) : PSs X st (fun D σ H => ∃ i, t i D σ H) := ⟨fun pins s σ H D I ⟨i, q⟩ => (h i).run pins s σ H D I q⟩
theorem pss_pure {st : List Stmt} {t : TS} {p : Prop} (h : p → PSs X st t) : PSs X st (fun D σ H => p ∧ t D σ H) := ⟨fun pins s σ H D I ⟨i, q⟩ => (h i).run pins s σ H D I q⟩
/-- what is fixed in a suite: the exception in slot i, what it holds -/
def suD (Δ : Dy) (i : Nat) (a : Addr) (E : List Itm) : Dy := { pin := (i, .ref a) :: Δ.pin, ext := E ++ Δ.ext, to := Δ.to }
structure SuI where
  c : Nat
  a : List D
  E : List Itm
theorem thI_su {i : Nat} {a : Addr} {E : List Itm} {ρ : Env} : thI (suD Δ i a E) ρ = thI Δ ρ := rfl
theorem sw_perm {A B C : List Itm} : (A ++ (B ++ C)).Perm (B ++ (A ++ C)) := by
  rw [← List.append_assoc, ← List.append_assoc]
  exact List.Perm.append_right _ List.perm_append_comm
/-- what an exception holds goes beside, and back -/
theorem su_perm {L E S T X' Y : List Itm} : ((E ++ L) ++ (S ++ (T ++ (X' ++ Y)))).Perm (L ++ (S ++ (T ++ ((E ++ X') ++ Y)))) := by
  rw [List.append_assoc, List.append_assoc E X' Y]
  exact sw_perm.trans (List.Perm.append_left L (sw_perm.trans (List.Perm.append_left S sw_perm)))
theorem pin_new {Δ : Dy} {i : Nat} {v : V} {σ : St} (hi : i < σ.length) (hw : Wr Δ i) (h : ∀ p ∈ Δ.pin, σ[p.1]? = some (some p.2)) : ∀ p ∈ ((i, v) :: Δ.pin), (σ.set i (some v))[p.1]? = some (some p.2) := by
  intro p hp
  rcases List.mem_cons.mp hp with rfl | hp
  · rw [List.getElem?_set_self hi]
  · have ni : i ≠ p.1 := fun z => hw.2 p.2 (by rw [z]; exact hp)
    rw [List.getElem?_set_ne ni]
    exact h p hp
theorem ps_tryAsS {x n : Str} {cv : Value} {i : Nat} {body suite : List Stmt} {b₀ : Stmt} {np pos' : Pos} {bf : Env → RS} {ctc : Nat → Option Bool} {sf : Nat → List D → Env → RS} (hw : Wr Δ i)
    (hs : X.stack = X.env :: X.outer) (hf : X.env.frame = some X.env.locals) (hN : X.N.Nodup) (hi : X.N[i]? = some n) (hln : X.env.kindOf n = some .local) (hc : Names X x cv) (tk : Takes X W)
    (hx : ∀ c b, ctc c = some b → PySem.W.exmOne X.K (.ref (G.ca c)) cv = some b)
    (hb : ∀ (W : WX) (pn : List (Addr × Obj)) (xe : Value → Shared → Prop), Takes (X.tr pn xe) W → PassesOwn (model X.prog X.w) X.A X.env xe → PSs (X.tr pn xe) body (TSof G Δ W bf))
    (hsu : ∀ (a : Addr) (oe : Obj) (d : Option Addr) (pn : List (Addr × Obj)) (j : SuI), ctc j.c = some true → ExR G j.c j.a d j.E → Zc (.ref (G.ca j.c)) d oe → (∃ vs, oe.data = .fields vs) → PSs (X.suite a ((a, oe) :: pn)) (b₀ :: suite) (TSof G (suD Δ i a j.E) W0 (sf j.c j.a))) :
    PS X (.Try body [.ExceptHandler (some (.Name x np)) (some n) (b₀ :: suite) pos'] [] [] pos) (TSof G Δ W (tryAsS bf i ctc sf)) := by
  have h := ps_try_as (pos := pos) (pos' := pos') (np := np) (x := x) (c := cv) (i := i) (tb := fun W => TSof G Δ W bf)
    (ts := fun a cls d D σ H => ∃ j : SuI, (ctc j.c = some true ∧ ExR G j.c j.a d j.E ∧ cls = .ref (G.ca j.c)) ∧ TSof G (suD Δ i a j.E) W0 (sf j.c j.a) D σ H) hs hf hN hi hln hc tk hb
    (fun a oe cls d pn hz hv => ps_ex fun j => pss_pure fun ⟨q1, q2, q3⟩ => hsu a oe d pn j q1 q2 (by rw [← q3]; exact hz) hv)
  refine ps_imp h fun D σ H ⟨ρ, L, s, k⟩ => ⟨ρ, L, s, ?_⟩
  unfold tryAsS at k
  cases e : bf ρ with
  | stuck => rw [e] at k; exact k
  | next ρ1 => rw [e] at k; exact k
  | ret d ρ1 => rw [e] at k; exact k
  | brk ρ1 => rw [e] at k; exact k
  | cont ρ1 => rw [e] at k; exact k
  | exc c a ρ1 =>
    rw [e] at k
    simp only at k
    intro σ1 H1 E dd s1 xr
    cases e2 : ctc c with
    | none => rw [e2] at k; exact k.elim
    | some b =>
      rw [e2] at k
      refine ⟨b, hx c b e2, fun hb => ?_, fun hb => ?_⟩
      · subst hb
        simp only at k
        intro p hp
        by_cases hl : i < ρ1.length
        · rw [if_pos hl] at k
          have hl' : i < σ1.length := by rw [← s1.len]; exact hl
          refine ⟨⟨c, a, E⟩, ⟨e2, xr, rfl⟩, ?_⟩
          have s2 : SRS G (suD Δ i p E) H1 (σ1.set i (some (.ref p))) (ρ1.set i none) L := by
            have s3 : SRS G Δ H1 (σ1.set i (some (.ref p))) (ρ1.set i none) (E ++ L) := s1.forget hw
            refine ⟨s3.1.perm ?_, pin_new hl' hw s1.2⟩
            exact su_perm
          have back : ∀ {σ2 : St} {H2 : Hp} {ρ2 : Env} {M : List Itm}, SRS G (suD Δ i p E) H2 σ2 ρ2 (M ++ L) → SRS G Δ H2 σ2 ρ2 (M ++ L) := fun {σ2 H2 ρ2 M} q => by
            refine ⟨?_, fun r hr => q.2 r (List.mem_cons_of_mem _ hr)⟩
            have q1 := q.1.perm (su_perm (L := M ++ L) (E := E) (S := slotI ρ2 σ2) (T := thI Δ ρ2) (X' := Δ.ext) (Y := tabI G)).symm
            rw [List.append_assoc] at q1
            exact SR.right q1
          refine ⟨ρ1.set i none, L, s2, ?_⟩
          cases e3 : sf c a (ρ1.set i none) with
          | stuck => rw [e3] at k; exact k
          | exc c a ρ2 => rw [e3] at k; exact k.elim
          | next ρ2 =>
            rw [e3] at k
            exact fun σ2 H2 q => k _ H2 (SRS.forget (back (M := []) q) hw)
          | ret d ρ2 =>
            rw [e3] at k
            exact fun σ2 v H2 q => k σ2 v H2 (back (M := [.dv d v]) q)
          | brk ρ2 =>
            rw [e3] at k
            exact fun σ2 H2 q => k _ H2 (SRS.forget (back (M := []) q) hw)
          | cont ρ2 =>
            rw [e3] at k
            exact fun σ2 H2 q => k _ H2 (SRS.forget (back (M := []) q) hw)
        · rw [if_neg hl] at k; exact k.elim
      · subst hb
        exact k σ1 H1 E dd s1 xr
/-- isinstance(n, C) of the exception that the suite holds -/
theorem pe_isE {a : Addr} {oe : Obj} {pn : List (Addr × Obj)} {c i : Nat} {x n : Str} {cv : Value} {b : Bool} {p np cp : Pos} (EC : ExcC X.K (G.ca c)) (hz : Zc (.ref (G.ca c)) none oe) (hf : ∃ vs, oe.data = .fields vs)
    (hg : L2.Gl X "isinstance") (hm : X.mg "isinstance" = none) (hp : (i, .ref a) ∈ Δ.pin) (hN : X.N[i]? = some n) (hv : Vis X.env.scope n) (hd : (n == ("__debug__" : Str)) = false) (hcd : (n == ("__classdict__" : Str)) = false)
    (hC : ∃ w, PE (X.suite a ((a, oe) :: pn)) (.Name x cp) (tC w) ∧ ∀ u, RelV w u → u = cv) (hk : PySem.W.kitOne X.K (.ref (G.ca c)) cv = some b)
    (h1 : starEach (.Name n np :: [.Name x cp]) (X.suite a ((a, oe) :: pn)).env = (false, eval (.Name n np) (X.suite a ((a, oe) :: pn)).env) :: starEach [.Name x cp] (X.suite a ((a, oe) :: pn)).env := by rfl)
    (h2 : starEach (.Name x cp :: []) (X.suite a ((a, oe) :: pn)).env = (false, eval (.Name x cp) (X.suite a ((a, oe) :: pn)).env) :: starEach [] (X.suite a ((a, oe) :: pn)).env := by rfl) (hpl : (backTo pos (starEach [.Name x cp] (X.suite a ((a, oe) :: pn)).env)).any (·.1) = false := by rfl) :
    PE (X.suite a ((a, oe) :: pn)) (.Call (.Name "isinstance" p) [.Name n np, .Name x cp] [] pos) (TEof G Δ W (cE (.bl b))) := by
  obtain ⟨w, hC, hw⟩ := hC
  refine pe_imp (pe_callB (p := p) (pos := pos) (call_isE EC hz hf) hg hm (by rfl) (pa_cons (pe_var (i := i) hN hv hd hcd) (pa_cons hC pa_nil h2) h1) (by decide) (by decide) h1 hpl) fun σ H Q ⟨ρ, L, s, k⟩ => ?_
  exact ⟨.ref a, s.2 _ hp, w, cv, b, rfl, hw, hk, k _ H (s.add (rep_bl b H))⟩
end
end Ev

end T_V16
section T_V17
set_option Elab.async false
set_option linter.all false
set_option maxRecDepth 100000
set_option maxHeartbeats 4000000
/-! Ev, part 17: a lambda handed to a def. -/
namespace Ev
open PySem PySem.Spec L2
open PyProof.Rows hiding St
open LamX (TabB LamS lamEnv lamCx CodeO Tabs ExtN lam_make2 lam_start2 run_ofS)

/-- what a lambda's body came to -/
inductive Out where
  | ok (d : D)
  | exc (c : Nat) (a : List D)
/-- x(), x what the def got -/
def thkE (o : Out) : Env → Res D := fun ρ => match ρ[0]? with
  | some (some D.thk) => (match o with
    | .ok d => .ok d (ρ.set 0 none)
    | .exc c a => .exc c a (ρ.set 0 none))
  | _ => .stuck
def Out.res (o : Out) (ρ : Env) : Res D := match o with
  | .ok d => .ok d ρ
  | .exc c a => .exc c a ρ
def thD (Δo : Dy) (f c : Addr) (q : Str) (ρ0 ρ1 : Env) (σo : St) : Dy := { pin := [(0, .ref f)], ext := .code c q :: Δo.ext, to := some (ρ0, ρ1, σo) }
def wordF (n : Nat) (wf : Out → Env → RS) (o : Out) : Option D := match wf o (startE n [.thk]) with
  | .ret d ρ => (match ρ[0]? with
    | some none => some d
    | _ => none)
  | _ => none
def lamE (ws : Out → Option D) (b : Env → Res D) : Env → Res D := fun ρ => match b ρ with
  | .ok d ρ1 => (match ws (.ok d) with
    | some r => .ok r ρ1
    | none => .stuck)
  | .exc c a ρ1 => (match ws (.exc c a) with
    | some r => .ok r ρ1
    | none => .stuck)
  | .stuck => .stuck
section
variable {G : Gl} {Δo : Dy} {f c : Addr} {q : Str} {ρ0 ρ1 : Env} {σo σZ : St} {HZ : Hp} {W : WX} {o : Out} {b : Env → Res D}
theorem thI_on {ρ : Env} (h : ρ[0]? = some (some .thk)) : thI (thD Δo f c q ρ0 ρ1 σo) ρ = slotI ρ0 σo := by
  show (if ρ[0]? = some (some .thk) then slotI ρ0 σo else slotI ρ1 σo) = _
  rw [if_pos h]
theorem thI_off {ρ : Env} (h : ρ[0]? = some none) : thI (thD Δo f c q ρ0 ρ1 σo) ρ = slotI ρ1 σo := by
  show (if ρ[0]? = some (some .thk) then slotI ρ0 σo else slotI ρ1 σo) = _
  rw [if_neg (by rw [h]; simp)]
theorem th_perm {L S A E T : List Itm} {i : Itm} : (L ++ (S ++ (A ++ ((i :: E) ++ T)))).Perm ((L ++ (S ++ [i])) ++ (A ++ ([] ++ (E ++ T)))) := by
  rw [List.nil_append, List.append_assoc, List.append_assoc]
  refine List.Perm.append_left L (List.Perm.append_left S ?_)
  exact List.perm_middle
theorem te_thk (hto : Δo.to = none) (hpo : ∀ p ∈ Δo.pin, σo[p.1]? = some (some p.2)) (hb : b ρ0 = o.res ρ1) {Q : VK} (h : TEof G (thD Δo f c q ρ0 ρ1 σo) W (thkE o) σZ HZ Q) :
    σZ[0]? = some (some (.ref f)) ∧ HZ c = some (CodeO c q) ∧ TEof G Δo (WEx (WE W σZ)) b σo HZ Q := by
  obtain ⟨ρ, L, s, k⟩ := h
  unfold thkE at k
  have h0 : ρ[0]? = some (some .thk) := by
    cases e0 : ρ[0]? with
    | none => rw [e0] at k; exact k.elim
    | some y =>
      cases y with
      | none => rw [e0] at k; exact k.elim
      | some d =>
        rw [e0] at k
        cases d <;> first | rfl | exact k.elim
  rw [h0] at k
  simp only at k
  have sb := s.1
  have eb : ∀ {ρ' : Env}, basI G (thD Δo f c q ρ0 ρ1 σo) ρ' = thI (thD Δo f c q ρ0 ρ1 σo) ρ' ++ ((Itm.code c q :: Δo.ext) ++ tabI G) := rfl
  have eo : ∀ {ρ' : Env}, basI G Δo ρ' = [] ++ (Δo.ext ++ tabI G) := fun {ρ'} => by
    unfold basI thI
    rw [hto]
  rw [eb, thI_on h0] at sb
  refine ⟨s.2 (0, .ref f) (by simp [thD]), ?_, ρ0, L ++ (slotI ρ σZ ++ [.code c q]), ⟨?_, hpo⟩, ?_⟩
  · have sb' := sb.perm th_perm
    have p : ((L ++ (slotI ρ σZ ++ [Itm.code c q])) ++ (slotI ρ0 σo ++ ([] ++ (Δo.ext ++ tabI G)))).Perm (.code c q :: ((L ++ slotI ρ σZ) ++ (slotI ρ0 σo ++ ([] ++ (Δo.ext ++ tabI G))))) := by
      rw [← List.append_assoc L, List.append_assoc _ [Itm.code c q]]
      exact List.perm_middle
    exact (sb'.perm p).codeAt
  · rw [eo]
    exact sb.perm th_perm
  · have h1 : (ρ.set 0 none)[0]? = some none := by
      rw [List.getElem?_set_self (ilt h0)]
    have back : ∀ {H' : Hp} {M : List Itm}, SRS G Δo H' σo ρ1 (M ++ (L ++ (slotI ρ σZ ++ [.code c q]))) → SRS G (thD Δo f c q ρ0 ρ1 σo) H' σZ (ρ.set 0 none) (M ++ L) := fun {H' M} s2 => by
      refine ⟨?_, s.2⟩
      rw [eb, thI_off h1]
      have s3 := s2.1
      rw [eo] at s3
      have s4 : SR G H' (((M ++ L) ++ (slotI ρ σZ ++ [.code c q])) ++ (slotI ρ1 σo ++ ([] ++ (Δo.ext ++ tabI G)))) := by
        rw [List.append_assoc M L]
        exact s3
      have s5 := s4.perm th_perm.symm
      exact slotI_noneR (i := 0) s5
    rw [hb]
    cases o with
    | ok d => exact fun v H' s2 => k v H' (back (M := [.dv d v]) s2)
    | exc cc a => exact fun H' E dd s2 x => k H' E dd (back (M := E) s2) x
end
/-- the context of the def that got the lambda -/
abbrev ZC (G : Gl) (Ng : List Str) (x : Str) (sg : Scope) (g : Addr) (cdg : Value) (A : Around) (outer : List PySem.Env) (s : Shared) (H : Hp) : Cx := cxOf C8.CX0 G.P G.w G.K G.mg G.base Ng x sg g cdg A outer s H C8.E0
/-- that def's body, whatever it got -/
def WordOk (G : Gl) (Ng : List Str) (x : Str) (sg : Scope) (g : Addr) (bg : List Stmt) (a : Str) (wf : Out → Env → RS) : Prop :=
  ∀ (cdg : Value) (A : Around) (outer : List PySem.Env) (s : Shared) (H : Hp) (Δ : Dy) (v : V) (o : Out), Δ.pin = [(0, v)] →
    (∀ (W : WX) (pn : List (Addr × Obj)) (xe : Value → Shared → Prop) (p1 p2 : Pos), Takes ((ZC G Ng x sg g cdg A outer s H).tr pn xe) W → PE ((ZC G Ng x sg g cdg A outer s H).tr pn xe) (.Call (.Name a p1) [] [] p2) (TEof G Δ W (thkE o))) →
    Room 0 (A.deeper (envOfC x sg s.heap.objs.size g cdg)) → PSs (ZC G Ng x sg g cdg A outer s H).nox bg (TSof G Δ W0 (wf o))
section
variable {G : Gl} {Δ : Dy} {W : WX} {X : Cx} {pos : Pos}
/-- x() within the def that got it -/
theorem pe_act' {pins : List (Addr × Obj)} {σ : L2.St} {H : Hp} {s : Shared} {Ng : List Str} {qg : Str} {sg : Scope} {g f c' : Addr} {cdg pm ctv : Value} {ls : Arguments} {lb : Expr} {lsc : Scope} {k : Nat} {a : Str} {pn : List (Addr × Obj)} {xe : Value → Shared → Prop} {W : WX} {tb : XK → TE} {p1 p2 : Pos}
    (I : Inv X pins σ H s) (LS : LamS X.env.scope lsc) (hf : s.heap.get? f = some (PySem.W.kla_obj "<lambda>" (X.env.qual ++ "<lambda>") ls lb lsc (cloFrom X.env.cells lsc.names []) pm c' ctv)) (hfn : H f = none) (hfr : f ∉ frs X.stack)
    (hbi : bindArgs (PySem.W.kla_fn "<lambda>" (X.env.qual ++ "<lambda>") ls lb lsc (cloFrom X.env.cells lsc.names []) pm (.ref c') ctv) ⟨[], []⟩ = pure [])
    (tk : Takes ((cxOf C8.CX0 X.prog X.w X.K X.mg X.base Ng qg sg g cdg X.A X.stack s H C8.E0).tr pn xe) W) (hr : Room (k + 1) (X.A.deeper (envOfC qg sg s.heap.objs.size g cdg)))
    (hbd : ∀ (A : Around) (outer : List PySem.Env) (s : Shared) (H : Hp) (E : XK), Room k (A.deeper (lamEnv X lsc s.heap.objs.size f c')) → PE (lamCx X A outer s H E lsc f c') lb (tb E))
    (hN : Ng[0]? = some a) (hv : Vis sg a) (hd : (a == ("__debug__" : Str)) = false := by decide) (hcd : (a == ("__classdict__" : Str)) = false := by decide) :
    PE ((cxOf C8.CX0 X.prog X.w X.K X.mg X.base Ng qg sg g cdg X.A X.stack s H C8.E0).tr pn xe) (.Call (.Name a p1) [] [] p2)
      (fun σZ HZ Q => σZ[0]? = some (some (.ref f)) ∧ HZ c' = some (CodeO c' (X.env.qual ++ "<lambda>")) ∧ tb (WE W σZ) σ HZ Q) := by
  refine ⟨fun pz sZ σZ HZ Q IZ hyp => ?_⟩
  obtain ⟨hs0, hc0, ht0⟩ := hyp
  refine wpAny_Call_Name_kw (thn ((pe_var (pos := p1) (i := 0) hN hv hd hcd).run pz sZ σZ HZ (fun v H1 => v = .ref f ∧ H1 = HZ) IZ ⟨.ref f, hs0, rfl, rfl⟩) fun u t1 ⟨v, H1, J1, r1, ev, eH⟩ => ?_)
  subst ev
  rw [eH] at J1
  obtain rfl : u = Value.ref f := r1
  have of1 : t1.heap.get? f = some (PySem.W.kla_obj "<lambda>" (X.env.qual ++ "<lambda>") ls lb lsc (cloFrom X.env.cells lsc.names []) pm c' ctv) := J1.base.keep f _ hf hfn hfr (fun z => nomatch (show f ∈ ([] : List Addr) from z))
  refine PySem.W.callWith_F0 ⟨_, _, _, _, of1⟩ ?_
  have un : Un (frs X.stack) [] H HZ s.heap t1.heap := J1.base
  obtain ⟨⟨oc, vs, t, hoc, hdc, hvc⟩, _, _⟩ := J1.hok c' _ hc0
  have rc : codeAny (model X.prog X.w) (X.A.deeper (envOfC qg sg s.heap.objs.size g cdg)) (.call (.ref f) ⟨[], []⟩) (CR (L2.CX X.prog X.w) (envOfC qg sg s.heap.objs.size g cdg :: X.stack) X.prog X.w HZ t1 Q (WE W σZ)) t1 := by
    refine PySem.W.kla_callFunE hr.depth of1 rfl LS.co LS.gen rfl ⟨c', oc, vs, t, rfl, hoc, hdc, hvc⟩ ?_
    rw [hbi]
    refine wpAny_pure (wpAny_newFunctionEnv (fun y hy => (LS.own y hy).2) (fun y hy => absurd hy (by simp)) (fun h1 hns hsb => ⟨J1.nolimit.fresh _ hsb, ?_⟩) LS.kind)
    show codeAny _ _ (.expr lb (lamEnv X lsc t1.heap.objs.size f c')) _ _
    have kp1 : ∀ b o, t1.heap.get? b = some o → h1.get? b = some o := fun b o e => hsb.extBut b o (Nat.ne_of_lt (Heap.lt_size e)) (Heap.get?_push_of_some _ e)
    have JJ : Inv (lamCx X (X.A.deeper (envOfC qg sg s.heap.objs.size g cdg)) (envOfC qg sg s.heap.objs.size g cdg :: X.stack) t1 HZ (WE W σZ) lsc f c') [] σ HZ { t1 with heap := h1, toks := t1.toks + ([] : List (Str × Value)).length } :=
      lam_start2 I LS J1.env0 hr.hd un hns kp1
    refine PySem.W.kla_codeExpr (wpAny_mono ((hbd _ _ t1 HZ (WE W σZ) (hr.deeper _)).run [] _ _ HZ Q JJ ht0) (fun v s' hq => ?_) fun e s' hq => hq)
    obtain ⟨w2, H2, J2, rv2, q2⟩ := hq
    exact ⟨w2, H2, J2.os, J2.bare, J2.base, J2.hok, rv2, q2⟩
  refine wpAny_call (codeAny_mono rc fun r s' hq => ?_)
  cases r with
  | error e => exact passAt tk σZ pz HZ t1 e s' J1 hq
  | ok fl =>
    cases fl with
    | ret u => exact J1.after hq
    | next => exact hq.elim
    | brk => exact hq.elim
    | cont => exact hq.elim
theorem srs_tabs {H : Hp} {σ : St} {ρ : Env} {L : List Itm} (s : SRS G Δ H σ ρ L) : Tabs G.T H := by
  intro p hp
  have hm : Itm.tab p.1 p.2 ∈ tabI G := List.mem_map.mpr ⟨p, hp, rfl⟩
  obtain ⟨A, B, e⟩ := List.append_of_mem hm
  have s1 := s.1
  unfold basI at s1
  have s2 : SR G H (tabI G) := SR.right (SR.right (SR.right (SR.right s1)))
  rw [e] at s2
  exact (SR.unrot s2).tabAt
/-- x(lambda: body) -/
theorem pe_lamS {x a : Str} {g c P : Addr} {k : Nat} {pg : Arguments} {bg : List Stmt} {sg : Scope} {fdg : FuncData} {Ng : List Str} {ls : Arguments} {lb : Expr} {lsc : Scope} {b : Env → Res D} {wf : Out → Env → RS} {p lpos : Pos}
    (hXG : X.prog = G.P ∧ X.w = G.w ∧ X.K = G.K ∧ X.mg = G.mg ∧ X.base = G.base) (hto : Δ.to = none) (hg : L2.Gl X x) (hm : X.mg x = some (.ref g)) (F : FunD X.K x x pg bg sg [] [] g fdg) (hb : L2.Binds X.K fdg [a] []) (Sg : FnScope Ng [a] sg) (hNg : Ng[0]? = some a) (hva : Vis sg a)
    (hG : WordOk G Ng x sg g bg a wf)
    (TB : TabB X.base X.mg c P) (hcode : X.env.code = .ref c) (hmT : (P, X.env.qual ++ "<lambda>") ∈ G.T) (hu : ∀ p ∈ G.T, p.1 = P → p.2 = X.env.qual ++ "<lambda>") (hr : Room (k + 2) X.A) (LS : LamS X.env.scope lsc) (hdef : defaultsOf ls X.env = ([], []))
    (hbind : ∀ (q : Str) (cl : List (Str × Addr)) (pm cv ctv : Value), bindArgs (PySem.W.kla_fn "<lambda>" q ls lb lsc cl pm cv ctv) ⟨[], []⟩ = pure [])
    (hbody : ∀ (A : Around) (outer : List PySem.Env) (s : Shared) (H : Hp) (E : XK) (f c' : Addr), Room k (A.deeper (lamEnv X lsc s.heap.objs.size f c')) → PE (lamCx X A outer s H E lsc f c') lb (TEof G Δ (WEx E) b))
    (hdb : (x == ("__debug__" : Str)) = false := by decide) (hd : (a == ("__debug__" : Str)) = false := by decide) (hcd : (a == ("__classdict__" : Str)) = false := by decide) :
    PE X (.Call (.Name x p) [.Lambda ls lb lsc lpos] [] pos) (TEof G Δ W (lamE (wordF Ng.length wf) b)) := by
  refine ⟨fun pins s σ H Q I ⟨ρ, L, sr, kk⟩ => ?_⟩
  obtain ⟨oc, od, dV, kV, doc, pm, an, cdv, ct, osl, rfl, lk, hcd', hD, hK⟩ := F.ex
  have tabs0 := srs_tabs sr
  -- what comes of it
  unfold lamE at kk
  have key : ∃ o ρ1 r, b ρ = o.res ρ1 ∧ wordF Ng.length wf o = some r ∧ ∀ v H', SRS G Δ H' σ ρ1 (.dv r v :: L) → Q v H' := by
    cases e : b ρ with
    | stuck => rw [e] at kk; exact kk.elim
    | ok d ρ1 =>
      rw [e] at kk
      simp only at kk
      cases e2 : wordF Ng.length wf (.ok d) with
      | none => rw [e2] at kk; exact kk.elim
      | some r => rw [e2] at kk; exact ⟨.ok d, ρ1, r, rfl, e2, kk⟩
    | exc cc aa ρ1 =>
      rw [e] at kk
      simp only at kk
      cases e2 : wordF Ng.length wf (.exc cc aa) with
      | none => rw [e2] at kk; exact kk.elim
      | some r => rw [e2] at kk; exact ⟨.exc cc aa, ρ1, r, rfl, e2, kk⟩
  obtain ⟨o, ρ1, r, hbo, hw, kQ⟩ := key
  refine wpAny_Call_Name_kw (ld_glob I hg hm ?_ hdb)
  refine PySem.W.callWith_K (h₀ := X.base) I.ok.mod.kin F.kp ?_ (by rfl) (by rfl)
  show wpAny _ _ (spliced ((false, eval (.Lambda ls lb lsc lpos) X.env) :: backTo pos (starEach [] X.env))) _ _ s
  refine Calls.spliced_cons (lam_make2 I TB hcode hmT hu tabs0 hdef (LS.has I.ok) fun f c' pm' ctv H1 s' I1 eN T1 hf hfn hfr hco => ?_)
  refine Calls.spliced_nil ⟨I1.kIn, ?_⟩
  have sr1 : SRS G Δ H1 σ ρ L := ⟨sr.1.extN eN T1, sr.2⟩
  have rc : codeAny (model X.prog X.w) X.A (.call (.ref g) ⟨[.ref f], []⟩) (CR C8.CX0 X.stack X.prog X.w H1 s' Q C8.E0) s' := by
    refine run_ofS (N := Ng) (ps := [a]) (us := [.ref f]) (vs := [.ref f]) lk hcd' Sg hr I1.env0 (hb s' [.ref f] I1.kIn rfl) (.cons rfl .nil) rfl fun hr' => ?_
    obtain ⟨x1, x2, x3, x4, x5⟩ := hXG
    have hact : ∀ (W : WX) (pn : List (Addr × Obj)) (xe : Value → Shared → Prop) (p1 p2 : Pos), Takes ((ZC G Ng x sg g cdv X.A X.stack s' H1).tr pn xe) W →
        PE ((ZC G Ng x sg g cdv X.A X.stack s' H1).tr pn xe) (.Call (.Name a p1) [] [] p2) (TEof G (thD Δ f c' (X.env.qual ++ "<lambda>") ρ ρ1 σ) W (thkE o)) := fun W pn xe p1 p2 tk => by
      have h1 := pe_act' (tb := fun E => TEof G Δ (WEx E) b) (W := W) (pn := pn) (xe := xe) (p1 := p1) (p2 := p2) I1 LS hf hfn hfr (hbind _ _ _ _ _) (by rw [x1, x2, x3, x4, x5]; exact tk) hr' (fun A outer s H E hr2 => hbody A outer s H E f c' hr2) hNg hva hd hcd
      rw [x1, x2, x3, x4, x5] at h1
      exact pe_imp h1 fun σZ HZ Q hq => te_thk hto sr1.2 hbo hq
    refine ⟨_, by rw [x1, x2, x3, x4, x5]; exact (hG cdv X.A X.stack s' H1 (thD Δ f c' (X.env.qual ++ "<lambda>") ρ ρ1 σ) (.ref f) o rfl hact (hr'.mono (Nat.zero_le _))).nox, ?_⟩
    -- the state at its start
    unfold wordF at hw
    have st0 : SR G H1 ((.dv .thk (.ref f) :: L) ++ (slotI ρ σ ++ (([.code c' (X.env.qual ++ "<lambda>")] ++ Δ.ext) ++ tabI G))) := by
      have q0 := sr1.1
      unfold basI thI at q0
      rw [hto] at q0
      have q1 : SR G H1 (L ++ (slotI ρ σ ++ (Δ.ext ++ tabI G))) := q0
      obtain ⟨Z, F, sz⟩ := q1
      have q2 : SRz G H1 Z (.dv .thk (.ref f) :: .code c' (X.env.qual ++ "<lambda>") :: (L ++ (slotI ρ σ ++ (Δ.ext ++ tabI G)))) F :=
        SRz.addF (SRz.addF sz ⟨hco, rfl⟩) (by simp only [IRep, Rep]; exact ⟨⟨f, rfl⟩, trivial⟩)
      refine q2.sr.perm (List.Perm.cons _ ?_)
      show (Itm.code c' (X.env.qual ++ "<lambda>") :: (L ++ (slotI ρ σ ++ (Δ.ext ++ tabI G)))).Perm (L ++ (slotI ρ σ ++ (Itm.code c' (X.env.qual ++ "<lambda>") :: (Δ.ext ++ tabI G))))
      rw [← List.append_assoc L, ← List.append_assoc L]
      exact List.perm_middle.symm
    have s0 : SRS G (thD Δ f c' (X.env.qual ++ "<lambda>") ρ ρ1 σ) H1 (L2.start Ng [.ref f]) (startE Ng.length [.thk]) L := by
      refine ⟨?_, fun p hp => ?_⟩
      · have hth : (startE Ng.length [.thk])[0]? = some (some .thk) := rfl
        unfold basI
        rw [thI_on hth]
        have e1 : slotI (startE Ng.length [.thk]) (L2.start Ng [.ref f]) = [.dv .thk (.ref f)] := slotI_start (ds := [.thk]) (vs := [.ref f]) _ rfl
        rw [e1]
        exact st0.perm List.perm_middle.symm
      · have hp' : p ∈ [((0 : Nat), V.ref f)] := hp
        rw [List.mem_singleton] at hp'
        subst hp'
        rfl
    refine ⟨startE Ng.length [.thk], L, s0, ?_⟩
    cases e : wf o (startE Ng.length [.thk]) with
    | ret d ρ' =>
      rw [e] at hw
      simp only at hw
      have h0 : ρ'[0]? = some none ∧ d = r := by
        split at hw
        · rename_i h0; cases hw; exact ⟨h0, rfl⟩
        · cases hw
      obtain ⟨h0, rfl⟩ := h0
      intro σ' v H' s2
      refine kQ v H' ⟨?_, sr1.2⟩
      have q := s2.1
      unfold basI at q
      rw [thI_off h0] at q
      have q1 := SR.right (q.perm (sw_perm (A := .dv d v :: L)))
      unfold basI thI
      rw [hto]
      have q2 : SR G H' ((.dv d v :: L) ++ (slotI ρ1 σ ++ (.code c' (X.env.qual ++ "<lambda>") :: (Δ.ext ++ tabI G)))) := q1
      have p3 : ((.dv d v :: L) ++ (slotI ρ1 σ ++ (.code c' (X.env.qual ++ "<lambda>") :: (Δ.ext ++ tabI G)))).Perm (.code c' (X.env.qual ++ "<lambda>") :: ((.dv d v :: L) ++ (slotI ρ1 σ ++ (Δ.ext ++ tabI G)))) := by
        rw [← List.append_assoc, ← List.append_assoc]
        exact List.perm_middle
      exact SR.drop (q2.perm p3)
    | next ρ' => rw [e] at hw; cases hw
    | brk ρ' => rw [e] at hw; cases hw
    | cont ρ' => rw [e] at hw; cases hw
    | exc cc aa ρ' => rw [e] at hw; cases hw
    | stuck => rw [e] at hw; cases hw
  refine wpAny_call (codeAny_mono rc fun r s2 hq => ?_)
  cases r with
  | error e => exact (show False from hq).elim
  | ok fl =>
    cases fl with
    | ret u => exact I1.after hq
    | next => exact hq.elim
    | brk => exact hq.elim
    | cont => exact hq.elim
end
end Ev

end T_V17
section T_V18
set_option Elab.async false
set_option linter.all false
set_option maxRecDepth 100000
set_option maxHeartbeats 4000000
/-! Ev, part 18: methods that only read; texts as lists. -/
namespace Ev
open PySem PySem.Spec L2
open PyProof.Rows hiding St

/-- the receiver's kind, looked at ahead of the arguments -/
def tyE (ty : D → Bool) : OE → Env → Bool
  | .b i, ρ => (match ρ[i]? with
    | some (some c) => ty c
    | _ => false)
  | .e f, ρ => (match f ρ with
    | .ok c _ => ty c
    | .exc _ _ _ => true
    | .stuck => false)
def rdE (ty : D → Bool) (fo : OE) (fs : List OE) (sem : List D → Option D) : Env → Res D := fun ρ => if tyE ty fo ρ = true then conE (fo :: fs) sem ρ else .stuck
def rM (r : V → List V → Hp → VK → Prop) : List V → Hp → VK → Prop := fun vs H Q => ∃ x xs, vs = x :: xs ∧ r x xs H Q
section
variable {G : Gl} {Δ : Dy} {W : WX} {X : Cx} {pos : Pos}
theorem te_rd {T : String} {r : V → List V → Hp → VK → Prop} {ty : D → Bool} {fo : OE} {fs : List OE} {sem : List D → Option D} (hs : ∀ i, fo = .b i → i = 0 → Δ.to = none) (c : Con G (rM r) sem)
    (hty : ∀ (H : Hp) (L : List Itm) (c : D) (o : V), SR G H (.dv c o :: L) → ty c = true → tyV X.K T o H) {σ : St} {H : Hp} {Q : VK} (h : TEof G Δ W (rdE ty fo fs sem) σ H Q) : tBM X.K T r (opTE G Δ W fo) (TAof G Δ W fs) σ H Q := by
  obtain ⟨ρ, L, s, k⟩ := h
  unfold rdE at k
  by_cases ht : tyE ty fo ρ = true
  · rw [if_pos ht] at k
    have fin : ∀ {x : V} {H1 : Hp}, TAof G Δ W fs σ H1 (fun xs H2 => rM r (x :: xs) H2 Q) → TAof G Δ W fs σ H1 fun xs H2 => r x xs H2 Q := fun {x H1} ⟨ρ, L, s, k⟩ => by
      refine ⟨ρ, L, s, ?_⟩
      cases e : evOps fs ρ with
      | stuck => rw [e] at k; exact k
      | exc c a ρ1 => rw [e] at k; exact k
      | ok os ρ1 =>
        rw [e] at k
        intro vs H' s' ov
        obtain ⟨y, ys, e1, q⟩ := k vs H' s' ov
        cases e1
        exact q
    have h1 : TAof G Δ W (fo :: fs) σ H fun vs H1 => rM r vs H1 Q := con_te c ⟨ρ, L, s, k⟩
    cases fo with
    | b i =>
      obtain ⟨v, ev, q⟩ := ta_cons h1
      refine ⟨v, ev, ?_, fin q⟩
      unfold tyE at ht
      simp only at ht
      cases e0 : ρ[i]? with
      | none => rw [e0] at ht; cases ht
      | some y =>
        cases y with
        | none => rw [e0] at ht; cases ht
        | some c0 =>
          rw [e0] at ht
          obtain ⟨v1, ev1, s2⟩ := s.take e0 (hs i rfl)
          rw [ev] at ev1
          cases ev1
          exact hty _ _ _ _ s2.1 ht
    | e f =>
      -- the receiver's value, then the arguments
      unfold tyE at ht
      simp only at ht
      unfold conE at k
      refine ⟨ρ, L, s, ?_⟩
      cases e1 : f ρ with
      | stuck => rw [e1] at ht; cases ht
      | exc cc a ρ1 =>
        simp only [evOps, e1, Res.bind] at k
        exact k
      | ok c0 ρ1 =>
        rw [e1] at ht
        simp only at ht
        intro v H1 s1
        refine ⟨hty _ _ _ _ s1.1 ht, ?_⟩
        refine fin ⟨ρ1, .dv c0 v :: L, s1, ?_⟩
        simp only [evOps, e1, Res.bind] at k
        cases e2 : evOps fs ρ1 with
        | stuck => rw [e2] at k; exact k
        | exc cc a ρ2 =>
          rw [e2] at k
          intro H' E dd s2 x
          refine k H' E dd (s2.lift fun K q => ?_) x
          have q' : SR G H' (E ++ .dv c0 v :: (L ++ K)) := by rw [List.append_assoc, List.cons_append] at q; exact q
          rw [List.append_assoc]
          exact SR.drop (SR.unrot q')
        | ok os ρ2 =>
          rw [e2] at k
          simp only [Res.bind] at k
          intro vs H' s2 ov
          have s3 : SRS G Δ H' σ ρ2 (opI (.inl c0 :: os) (v :: vs) ++ L) := s2.perm List.perm_middle
          have ov' : OpV σ (.inl c0 :: os) (v :: vs) := ⟨v, vs, rfl, ov⟩
          cases e3 : datOps ρ2 (.inl c0 :: os) with
          | none => rw [e3] at k; exact k.elim
          | some ds =>
            rw [e3] at k
            simp only at k
            obtain ⟨Z, F, sz, ra⟩ := ops_at s3 ov' e3
            cases e4 : sem ds with
            | none => rw [e4] at k; exact k.elim
            | some d =>
              rw [e4] at k
              exact c H' Z _ _ ds (v :: vs) Q d sz ra e4 fun w H2 s4 => k w H2 ⟨s4, s3.2⟩
  · rw [if_neg ht] at k; exact k.elim
theorem pe_rd {T id : String} {r : V → List V → Hp → VK → Prop} {ty : D → Bool} {fo : OE} {fs : List OE} {sem : List D → Option D} {o e : Expr} {es : List Expr} {name : Str} {apos : Pos} (hs0 : ∀ i, fo = .b i → i = 0 → Δ.to = none) (c : Con G (rM r) sem)
    (hty : ∀ (H : Hp) (L : List Itm) (c : D) (o : V), SR G H (.dv c o :: L) → ty c = true → tyV X.K T o H)
    (pa : PlainAttrs T) (slot : Slot T name id) (htm : typeOf (.builtin id) = pure (.type "method_descriptor")) (hm : MtR X id r) (ho : PE X o (opTE G Δ W fo)) (ha : PA X (e :: es) (TAof G Δ W fs))
    (hbase : attributeBase o name X.env (eval o X.env) = eval o X.env := by rfl)
    (hfew : ((backTo pos (starEach (e :: es) X.env)).all (fun x => !x.1) && (backToKw pos (keywordEach [] X.env)).all (fun x => x.1.isSome)
      && decide ((e :: es).length + ([] : List Keyword).length + (if ([] : List Keyword).isEmpty then 0 else 1) < 30)) = true := by rfl)
    (hline : (apos.endLine == pos.line) = true := by rfl) (hs : starEach (e :: es) X.env = (false, eval e X.env) :: starEach es X.env := by rfl) (hplain : (backTo pos (starEach es X.env)).any (·.1) = false := by rfl) :
    PE X (.Call (.Attribute o name apos) (e :: es) [] pos) (TEof G Δ W (rdE ty fo fs sem)) :=
  pe_imp (pe_bm pa slot htm hm ho ha hbase hfew hline hs hplain) fun _ _ _ h => te_rd hs0 c hty h
end
/-! ### count, index -/
def cntOk (p : PyData) : Bool := p.plain && decide (p.depth ≤ 60)
def cntS : List D → Option D
  | [.lst _ xs, y] => (match toPys xs, toPy y with
    | some ps, some p => if (PyData.plainAll ps && cntOk p) = true then some (.int ((ps.countP fun z => PyData.eqv z p : Nat) : Int)) else none
    | _, _ => none)
  | _ => none
def ixS : List D → Option D
  | [.lst _ xs, y] => (match toPys xs, toPy y with
    | some ps, some p => if (SeqAt.shaped (.list ps) && SeqAt.shaped p) = true then (ps.findIdx? fun z => PyData.eqv z p).map fun j => .int (j : Nat) else none
    | _, _ => none)
  | _ => none
def rCnt (K : PySem.W.Frag) : V → List V → Hp → VK → Prop := fun x xs H Q => ∃ a y ds d, x = .ref a ∧ xs = [y] ∧ Dp K H (.ref a) (.list ds) ∧ Dp K H y d ∧ PyData.plainAll ds = true ∧ cntOk d = true ∧ Q (.int ((ds.countP fun z => PyData.eqv z d : Nat) : Int)) H
section
variable {G : Gl} {X : Cx}
theorem mt_cnt (hu : X.A.units + 65 < cLine) : MtR X "list.count" (rCnt X.K) := by
  intro pins s σ H x xs v us Q I rx rxs h
  obtain ⟨a, y, ds, d, rfl, rfl, hl, hy, h1, h2, q⟩ := h
  cases rx
  cases rxs with
  | cons ry rt =>
    cases rt
    obtain ⟨bs, r1⟩ := Dp.reads I d y _ hy ry
    cases hl with
    | lst hs ha =>
      obtain ⟨its, rv, pl, hlen⟩ := I.list hs
      obtain ⟨as, r4⟩ := Dp.readsAll I ds _ its ha rv
      simp only [cntOk, Bool.and_eq_true, decide_eq_true_eq] at h2
      exact SeqAt.count_list_data (vs := its.toArray) pl.isList (show ReadsAll s.heap its.toArray.toList ds as from r4) r1 h1 h2.1 (by omega) ⟨.int _, H, I.tok _, ⟨_, rfl⟩, q⟩
theorem con_cnt : Con G (rM (rCnt G.K)) cntS := by
  intro H Z L F ds vs Q d s ra e k
  match ds, e, ra with
  | [.lst o xs, y], e, ra =>
    obtain ⟨x, w, F1, F2, rfl, h1, h2⟩ := ra.two
    simp only [cntS] at e
    cases e1 : toPys xs with
    | none => rw [e1] at e; cases e
    | some ps =>
      cases e2 : toPy y with
      | none => rw [e1, e2] at e; cases e
      | some p =>
        rw [e1, e2] at e
        simp only at e
        split at e
        · rename_i hh
          simp only [Bool.and_eq_true] at hh
          cases e
          have hd := rep_dp (.lst o xs) x F1 (.list ps) h1 (by simp only [toPy, e1]; rfl)
          obtain ⟨a, vs', F', rfl, _, _⟩ := Rep.seqL h1
          exact ⟨.ref a, [w], rfl, a, w, ps, p, rfl, rfl, hd, rep_dp y w F2 p h2 e2, hh.1, hh.2, k _ _ (s.addD (rep_int _ H Z))⟩
        · cases e
theorem con_ix : Con G (rM (rIndexD G.K)) ixS := by
  intro H Z L F ds vs Q d s ra e k
  match ds, e, ra with
  | [.lst o xs, y], e, ra =>
    obtain ⟨x, w, F1, F2, rfl, h1, h2⟩ := ra.two
    simp only [ixS] at e
    cases e1 : toPys xs with
    | none => rw [e1] at e; cases e
    | some ps =>
      cases e2 : toPy y with
      | none => rw [e1, e2] at e; cases e
      | some p =>
        rw [e1, e2] at e
        simp only at e
        split at e
        · rename_i hh
          simp only [Bool.and_eq_true] at hh
          simp only [Option.map_eq_some_iff] at e
          obtain ⟨j, e3, rfl⟩ := e
          have hd := rep_dp (.lst o xs) x F1 (.list ps) h1 (by simp only [toPy, e1]; rfl)
          obtain ⟨a, vs', F', rfl, _, _⟩ := Rep.seqL h1
          obtain ⟨hj, g1, g2⟩ := List.findIdx?_eq_some_iff_getElem.mp e3
          refine ⟨.ref a, [w], rfl, a, w, p, ps, j, ps[j], rfl, rfl, hd, rep_dp y w F2 p h2 e2, hh.1, hh.2, List.getElem?_eq_getElem hj, g1, fun m z hm hz => ?_, k _ _ (s.addD (rep_int _ H Z))⟩
          obtain ⟨hm', rfl⟩ := List.getElem?_eq_some_iff.mp hz
          have := g2 m hm
          simpa using this
        · cases e
theorem rd_lst (hK : X.K = G.K) : ∀ (H : Hp) (L : List Itm) (c : D) (o : V), SR G H (.dv c o :: L) → isLst c = true → tyV X.K "list" o H := lst_ty hK
end
end Ev

end T_V18
section T_V19
set_option Elab.async false
set_option linter.all false
set_option maxRecDepth 100000
set_option maxHeartbeats 4000000
/-! Ev, part 19: chained comparisons, minus, a text as a list; short words. -/
namespace Ev
open PySem PySem.Spec L2
open PyProof.Rows hiding St

def chainE (fa fb fc : OE) (sem sem' : List D → Option D) : Env → Res D := fun ρ => (evOps [fa, fb] ρ).bind fun os ρ1 => match datOps ρ1 os with
  | some ds => (match sem ds with
    | some (.bl true) => (evOps [fc] ρ1).bind fun os2 ρ2 => (match datOps ρ2 (os.drop 1 ++ os2) with
      | some ds2 => (match sem' ds2 with
        | some d => .ok d ρ2
        | none => .stuck)
      | none => .stuck)
    | some (.bl false) => .ok (.bl false) ρ1
    | _ => .stuck)
  | none => .stuck
def negS : List D → Option D
  | [.int i] => some (.int (-i))
  | _ => none
section
variable {G : Gl} {Δ : Dy} {W : WX} {X : Cx} {pos : Pos}
theorem opI_cons {o : D ⊕ Nat} {os : List (D ⊕ Nat)} {v : V} {vs : List V} : opI (o :: os) (v :: vs) = opI [o] [v] ++ opI os vs := by cases o <;> rfl
theorem evOps_len : ∀ {fs : List OE} {ρ ρ' : Env} {os : List (D ⊕ Nat)}, evOps fs ρ = .ok os ρ' → os.length = fs.length
  | [], ρ, ρ', os, h => by simp only [evOps] at h; cases h; rfl
  | .e f :: r, ρ, ρ', os, h => by
    simp only [evOps] at h
    cases e : f ρ with
    | stuck => rw [e] at h; cases h
    | exc c a ρ1 => rw [e] at h; cases h
    | ok d ρ1 =>
      rw [e] at h
      simp only [Res.bind] at h
      cases e2 : evOps r ρ1 with
      | stuck => rw [e2] at h; cases h
      | exc c a ρ1 => rw [e2] at h; cases h
      | ok os' ρ2 => rw [e2] at h; cases h; simp [evOps_len e2]
  | .b i :: r, ρ, ρ', os, h => by
    simp only [evOps] at h
    split at h
    · cases e2 : evOps r ρ with
      | stuck => rw [e2] at h; cases h
      | exc c a ρ1 => rw [e2] at h; cases h
      | ok os' ρ2 => rw [e2] at h; cases h; simp [evOps_len e2]
    · cases h
/-- the data of operands, nothing dropped -/
theorem ops_keep {os : List (D ⊕ Nat)} {vs : List V} {ds : List D} {σ : St} {H : Hp} {ρ : Env} {L : List Itm} (s : SRS G Δ H σ ρ (opI os vs ++ L)) (ov : OpV σ os vs) (e : datOps ρ os = some ds) :
    ∃ Z F, SRz G H Z ((opI os vs ++ L) ++ (slotI ρ σ ++ basI G Δ ρ)) F ∧ RepsA G H Z ds vs := by
  obtain ⟨⟨Z, F, s2, nd⟩, s3⟩ := s
  have p : ((opI os vs ++ L) ++ (slotI ρ σ ++ basI G Δ ρ)).Perm ((opI os vs ++ slotI ρ σ) ++ (L ++ basI G Δ ρ)) := by
    rw [List.append_assoc, List.append_assoc]
    exact List.Perm.append_left _ sw_perm
  obtain ⟨F', s4, q⟩ := Its.perm p s2
  obtain ⟨F1, F2, e1, s5, s6⟩ := Its.app.mp s4
  exact ⟨Z, F, ⟨s2, nd⟩, ops_reps s5 ov e⟩
theorem te_chain {r r' : R2} {sem sem' : List D → Option D} {fa fb fc : OE} (c : Con G (opL r) sem) (c' : Con G (opL r') sem') {σ : St} {H : Hp} {Q : VK} (h : TEof G Δ W (chainE fa fb fc sem sem') σ H Q) :
    tChain r r' (opTE G Δ W fa) (opTE G Δ W fb) (opTE G Δ W fc) σ H Q := by
  obtain ⟨ρ, L, s, k⟩ := h
  unfold chainE at k
  have main : TAof G Δ W [fa, fb] σ H fun vs H2 => ∃ x y, vs = [x, y] ∧ r x y H2 fun z H3 => ∃ k, z = .bl k ∧ (if k = true then opTE G Δ W fc σ H3 fun w' H4 => r' y w' H4 Q else Q (.bl false) H3) := by
    refine ⟨ρ, L, s, ?_⟩
    cases e : evOps [fa, fb] ρ with
    | stuck => rw [e] at k; exact k
    | exc cc a ρ1 => rw [e] at k; exact k
    | ok os ρ1 =>
      rw [e] at k
      simp only [Res.bind] at k
      intro vs H2 s1 ov
      have hl := evOps_len e
      match os, hl with
      | [o1, o2], _ =>
      obtain ⟨x, y, rfl⟩ : ∃ x y, vs = [x, y] := by
        cases o1 <;> cases o2 <;> simp only [OpV] at ov
        · obtain ⟨v, vr, rfl, w, wr, rfl, rfl⟩ := ov; exact ⟨_, _, rfl⟩
        · obtain ⟨v, vr, rfl, w, wr, rfl, _, rfl⟩ := ov; exact ⟨_, _, rfl⟩
        · obtain ⟨v, vr, rfl, _, w, wr, rfl, rfl⟩ := ov; exact ⟨_, _, rfl⟩
        · obtain ⟨v, vr, rfl, _, w, wr, rfl, _, rfl⟩ := ov; exact ⟨_, _, rfl⟩
      refine ⟨x, y, rfl, ?_⟩
      cases e1 : datOps ρ1 [o1, o2] with
      | none => rw [e1] at k; exact k.elim
      | some ds =>
        rw [e1] at k
        simp only at k
        obtain ⟨Z, F, sz, ra⟩ := ops_keep s1 ov e1
        cases e2 : sem ds with
        | none => rw [e2] at k; exact k.elim
        | some d =>
          rw [e2] at k
          cases d <;> first | exact k.elim | skip
          rename_i b
          obtain ⟨x', y', exy, q⟩ := c H2 Z _ F ds [x, y] (fun z H3 => ∃ k, z = .bl k ∧ (if k = true then opTE G Δ W fc σ H3 fun w' H4 => r' y w' H4 Q else Q (.bl false) H3)) (.bl b) sz ra e2 fun z H3 s3 => by
            have s4 : SRS G Δ H3 σ ρ1 (.dv (.bl b) z :: (opI [o1, o2] [x, y] ++ L)) := ⟨s3, s1.2⟩
            refine ⟨b, vbl s4, ?_⟩
            have s5 := s4.drop
            cases b with
            | false =>
              simp only [Bool.false_eq_true, if_false] at k ⊢
              exact k _ H3 (SRS.add s5.right (rep_bl false H3))
            | true =>
              simp only [if_true] at k ⊢
              refine op_first s5 ?_
              cases e3 : evOps [fc] ρ1 with
              | stuck => rw [e3] at k; exact k
              | exc cc a ρ2 =>
                rw [e3] at k
                intro H' E dd s6 xr
                exact k H' E dd (SRS.right (M := opI [o1, o2] [x, y]) (s6.perm sw_perm)) xr
              | ok os2 ρ2 =>
                rw [e3] at k
                simp only [Res.bind] at k
                intro w H4 s6 ov2
                have hl2 := evOps_len e3
                match os2, hl2 with
                | [o3], _ =>
                have s7 : SRS G Δ H4 σ ρ2 (opI [o2, o3] [y, w] ++ (opI [o1] [x] ++ L)) := by
                  refine s6.perm ?_
                  rw [opI_cons (o := o1), opI_cons (o := o2) (os := [o3]), List.append_assoc, List.append_assoc]
                  refine (sw_perm (A := opI [o3] [w]) (B := opI [o1] [x]) (C := opI [o2] [y] ++ L)).trans ?_
                  refine (List.Perm.append_left _ sw_perm).trans ?_
                  refine sw_perm.trans ?_
                  exact List.Perm.append_left _ sw_perm
                have ov3 : OpV σ [o2, o3] [y, w] := by
                  have oy : OpV σ [o2] [y] := by
                    cases o1 <;> cases o2 <;> simp only [OpV, List.cons.injEq] at ov ⊢
                    · obtain ⟨v, vr, ⟨rfl, rfl⟩, w, wr, ⟨rfl, rfl⟩, hh⟩ := ov; exact ⟨_, _, ⟨rfl, rfl⟩, rfl⟩
                    · obtain ⟨v, vr, ⟨rfl, rfl⟩, w, wr, ⟨rfl, rfl⟩, hh, h3⟩ := ov; exact ⟨_, _, ⟨rfl, rfl⟩, hh, rfl⟩
                    · obtain ⟨v, vr, ⟨rfl, rfl⟩, _, w, wr, ⟨rfl, rfl⟩, hh⟩ := ov; exact ⟨_, _, ⟨rfl, rfl⟩, rfl⟩
                    · obtain ⟨v, vr, ⟨rfl, rfl⟩, _, w, wr, ⟨rfl, rfl⟩, hh, h3⟩ := ov; exact ⟨_, _, ⟨rfl, rfl⟩, hh, rfl⟩
                  cases o2 with
                  | inl d => exact ⟨y, [w], rfl, ov2⟩
                  | inr j =>
                    obtain ⟨v, vr, e5, hh, _⟩ := oy
                    cases e5
                    exact ⟨y, [w], rfl, hh, ov2⟩
                simp only [List.drop_succ_cons, List.drop_zero, List.singleton_append] at k
                cases e6 : datOps ρ2 [o2, o3] with
                | none => rw [e6] at k; exact k.elim
                | some ds2 =>
                  rw [e6] at k
                  simp only at k
                  obtain ⟨Z2, F2, sz2, ra2⟩ := ops_at s7 ov3 e6
                  cases e7 : sem' ds2 with
                  | none => rw [e7] at k; exact k.elim
                  | some d2 =>
                    rw [e7] at k
                    simp only at k
                    obtain ⟨y2, w2, eyw, q2⟩ := c' H4 Z2 _ F2 ds2 [y, w] Q d2 sz2 ra2 e7 fun u H5 s8 => by
                      have s9 : SRS G Δ H5 σ ρ2 (.dv d2 u :: (opI [o1] [x] ++ L)) := ⟨s8, s7.2⟩
                      refine k u H5 (SRS.right (M := opI [o1] [x]) (s9.perm ?_))
                      exact List.perm_middle.symm
                    cases eyw
                    exact q2
          cases exy
          exact q
  refine opTE_mono (fun x H1 q => ?_) (ta_cons main)
  refine opTE_mono (fun y H2 q => ?_) (ta_cons q)
  obtain ⟨x', y', exy, q⟩ := ta_nil q
  cases exy
  exact q
theorem pe_chainE {op op' : CmpOp} {r r' : R2} {sem sem' : List D → Option D} {a b cc : Expr} {fa fb fc : OE} (ho : OpR X (compareOp op) r) (ho' : OpR X (compareOp op') r') (c : Con G (opL r) sem) (c' : Con G (opL r') sem')
    (ha : PE X a (opTE G Δ W fa)) (hb : PE X b (opTE G Δ W fb)) (hc : PE X cc (opTE G Δ W fc)) (hm : lastMarks [op, op'] [b, cc] = false := by with_unfolding_all rfl) : PE X (.Compare a [op, op'] [b, cc] pos) (TEof G Δ W (chainE fa fb fc sem sem')) :=
  pe_imp (pe_chain ho ho' ha hb hc hm) fun _ _ _ h => te_chain c c' h
theorem pt_chainE {op op' : CmpOp} {r r' : R2} {sem sem' : List D → Option D} {a b cc : Expr} {fa fb fc : OE} (ho : OpR X (compareOp op) r) (ho' : OpR X (compareOp op') r') (c : Con G (opL r) sem) (c' : Con G (opL r') sem')
    (ha : PE X a (opTE G Δ W fa)) (hb : PE X b (opTE G Δ W fb)) (hc : PE X cc (opTE G Δ W fc)) (hm : lastMarks [op, op'] [b, cc] = false := by with_unfolding_all rfl) : PT X (.Compare a [op, op'] [b, cc] pos) (TTof G Δ W (tstE (chainE fa fb fc sem sem'))) :=
  pt_imp (pt_chain ho ho' ha hb hc hm) fun σ H Q h => by
    have h2 : TEof G Δ W (chainE fa fb fc sem sem') σ H fun x H' => ∃ k, x = .bl k ∧ Q k H' := by
      obtain ⟨ρ, L, s, k⟩ := h
      refine ⟨ρ, L, s, ?_⟩
      unfold tstE at k
      cases e : chainE fa fb fc sem sem' ρ with
      | stuck => rw [e] at k; exact k
      | exc c a ρ1 => rw [e] at k; exact k
      | ok d ρ1 =>
        rw [e] at k
        simp only [Res.bind] at k
        intro v H1 s1
        cases d <;> first | exact k.elim | skip
        rename_i b
        exact ⟨b, vbl s1, k H1 s1.drop⟩
    exact te_chain c c' h2
/-- one operand by values -/
theorem te_un {r : V → Hp → VK → Prop} {sem : List D → Option D} {fa : OE} (c : Con G (fun vs H Q => ∃ x, vs = [x] ∧ r x H Q) sem) {σ : St} {H : Hp} {Q : VK} (h : TEof G Δ W (conE [fa] sem) σ H Q) : tUn r (opTE G Δ W fa) σ H Q := by
  refine opTE_mono (fun x H1 q => ?_) (ta_cons (con_te c h))
  obtain ⟨y, e, q⟩ := ta_nil q
  cases e
  exact q
theorem con_neg : Con G (fun vs H Q => ∃ x, vs = [x] ∧ rU (fun i => .int (-i)) x H Q) negS := by
  refine con_one (fun H Z L F0 a d x F Q s e h k => ?_) (fun ds n => ?_)
  · cases a <;> simp only [negS] at e <;> first | (cases e; done) | skip
    cases e
    rw [rep_i h]
    exact ⟨_, rfl, _, rfl, k _ _ (s.addD (rep_int _ H Z))⟩
  · match ds, n with
    | [], _ => rfl
    | [a], n => exact (n a rfl).elim
    | a :: b :: r, _ => cases a <;> rfl
theorem pe_negE {a : Expr} {fa : OE} (ha : PE X a (opTE G Δ W fa)) : PE X (.UnaryOp .USub a pos) (TEof G Δ W (conE [fa] negS)) := pe_imp (pe_un un_neg ha) fun _ _ _ h => te_un con_neg h
/-! list(text) -/
def chrs (z : Str) : List D := z.cps.toList.map fun c => .str ⟨#[c]⟩
def listS2 : List D → Option D
  | [.str z] => if z.cps.size ≤ sizeLine then some (.lst true (chrs z)) else none
  | ds => listS ds
def rListStr : List V → Hp → VK → Prop := fun xs H Q => ∃ z : Str, xs = [.str z] ∧ z.cps.size ≤ sizeLine ∧ ∀ l, H l = none → Q (.ref l) (upd H l (.lst (z.cps.toList.map fun c => .str ⟨#[c]⟩)))
theorem call_list_strV (hc : X.calm = true) : CallR X (.type "list") rListStr := by
  intro pn s σ H xs us Q I0 r h
  obtain ⟨z, rfl, hz, q⟩ := h
  obtain ⟨u, rfl, t, rfl⟩ := vals1 r
  refine call_list_str (I0.ok.hd hc) z t (fun h' tk acc c' hk e hi => ?_) hz
  have hl : (z.cps.toList.map fun c => V.str ⟨#[c]⟩).length = z.cps.size := by simp
  refine ⟨.ref s.heap.objs.size, _, I0.laid (t' := tk) hk (Nat.le_refl _) (show ObjOk X.prog X.w _ h' _ (.lst _) from ⟨by rw [hl]; exact hz, acc.toList, c', ?_, by rw [Array.toArray_toList]; exact e⟩), rfl, q _ (I0.hok.fresh (Nat.le_refl _))⟩
  refine vals_of_at (by rw [hl, Array.length_toList]; exact hi.1.symm) fun j x u hx hu => ?_
  obtain ⟨c, t', e1, rfl⟩ := hi.2 j u (by rw [← Array.getElem?_toList]; exact hu)
  rw [List.getElem?_map, Array.getElem?_toList, e1] at hx
  cases hx
  exact ⟨_, rfl⟩
theorem reps_chrs {H : Hp} {Z : Addr → Prop} : ∀ l : List Nat, Reps G H Z (l.map fun c => .str ⟨#[c]⟩) (l.map fun c => .str ⟨#[c]⟩) []
  | [] => by simp only [List.map_nil, Reps]; exact ⟨trivial, trivial⟩
  | c :: l => by
    simp only [List.map_cons, Reps]
    exact ⟨_, _, [], [], rfl, rfl, rep_str _ H Z, reps_chrs l⟩
theorem con_list2 (hK : X.K = G.K) : Con G (fun xs H Q => rListStr xs H Q ∨ ∃ p ys, xs = [.ref p] ∧ (SqL X.K H p ys ∨ SqT X.K H p ys) ∧ ∀ l, H l = none → Q (.ref l) (upd H l (.lst ys))) listS2 := by
  intro H Z L F ds vs Q d s ra e k
  unfold listS2 at e
  split at e
  · rename_i z
    split at e
    · rename_i hz
      cases e
      obtain ⟨x, F1, rfl, h1⟩ := ra.one
      rw [rep_s h1]
      exact .inl ⟨z, rfl, hz, fun l hl => k _ _ (s.newL (reps_chrs _) hl)⟩
    · cases e
  · exact .inr (con_list hK H Z L F ds vs Q d s ra e k)
theorem call_list2 (hc : X.calm = true) : CallR X (.type "list") (fun xs H Q => rListStr xs H Q ∨ ∃ p ys, xs = [.ref p] ∧ (SqL X.K H p ys ∨ SqT X.K H p ys) ∧ ∀ l, H l = none → Q (.ref l) (upd H l (.lst ys))) := (call_list_strV hc).or call_list_of
end
end Ev

end T_V19
section T_V20
set_option Elab.async false
set_option linter.all false
set_option maxRecDepth 100000
set_option maxHeartbeats 4000000
/-! Ev, part 20: short words; the facts of a program; the end of a law. -/
namespace Ev
open PySem PySem.Spec L2
open PyProof.Rows hiding St

theorem hu64 {k : Nat} {A : Around} (hr : Room k A) : A.units + 64 < cLine := hr.units
theorem hu65 {k : Nat} {A : Around} (hr : Room k A) : A.units + 65 < cLine := by have := hr.un; omega
/-! ### a, b = x, y -/
def setAll : List Nat → List D → Env → Option Env
  | [], [], ρ => some ρ
  | i :: is, d :: ds, ρ => if i < ρ.length then setAll is ds (ρ.set i (some d)) else none
  | _, _, _ => none
def parS (is : List Nat) (fs : List (Env → Res D)) : Env → RS := fun ρ => (evAll fs ρ).rs fun ds ρ' => match setAll is ds ρ' with
  | some ρ2 => .next ρ2
  | none => .stuck
section
variable {G : Gl} {Δ : Dy} {W : WX} {X : Cx} {pos : Pos}
theorem srs_set {H : Hp} {σ : St} {ρ : Env} {L : List Itm} {i : Nat} {d : D} {v : V} (h : SRS G Δ H σ ρ (.dv d v :: L)) (hl : i < ρ.length) (hw : Wr Δ i) : SRS G Δ H (σ.set i (some v)) (ρ.set i (some d)) L := h.put hl hw
theorem ps_par2 {i j : Nat} {x y : Str} {a b : Expr} {fa fb : Env → Res D} {px py pt : Pos} {kt k2 pt2} (wi : Wr Δ i) (wj : Wr Δ j) (hc : X.calm = true) (hN : X.N.Nodup) (hi : X.N[i]? = some x) (hj : X.N[j]? = some y) (hij : i ≠ j)
    (hx : X.env.scope.names.lookup x = some .local) (hy : X.env.scope.names.lookup y = some .local) (ha : PA X [a, b] (TAof G Δ W (tmpE [fa, fb])))
    (hw : swappedStores [.Tuple [.Name x px, .Name y py] kt pt] (.Tuple [a, b] k2 pt2) X.env = pure (some [x, y]))
    (hs : swapsWithSole [.Tuple [.Name x px, .Name y py] kt pt] (.Tuple [a, b] k2 pt2) pos.line X.env = pure false := by rfl) :
    PS X (.Assign [.Tuple [.Name x px, .Name y py] kt pt] (.Tuple [a, b] k2 pt2) pos) (TSof G Δ W (parS [i, j] [fa, fb])) := by
  refine ps_imp (ps_par hc hN hi hj hij hx hy ha hw hs) fun D σ H ⟨ρ, L, s, k⟩ => ⟨ρ, L, s, ?_⟩
  unfold parS at k
  rw [evOps_tmp]
  cases e : evAll [fa, fb] ρ with
  | stuck => rw [e] at k; exact k
  | exc c a ρ1 => rw [e] at k; exact k σ
  | ok ds ρ1 =>
    rw [e] at k
    have hl := evAll_len e
    match ds, hl with
    | [d1, d2], _ =>
    simp only [Res.bind, Res.rs] at k ⊢
    intro vs H1 s1 ov
    obtain ⟨l, e1⟩ := opI_tmp ov
    match vs, l with
    | [v1, v2], _ =>
    have s2 : SRS G Δ H1 σ ρ1 (.dv d1 v1 :: .dv d2 v2 :: L) := by rw [e1] at s1; exact s1
    refine ⟨v1, v2, rfl, ?_⟩
    simp only [setAll] at k
    by_cases h1 : i < ρ1.length
    · rw [if_pos h1] at k
      have s3 := s2.put h1 wi
      by_cases h2 : j < (ρ1.set i (some d1)).length
      · rw [if_pos h2] at k
        exact k _ H1 (s3.put h2 wj)
      · rw [if_neg h2] at k; exact k.elim
    · rw [if_neg h1] at k; exact k.elim
theorem ps_par3S {i j l' : Nat} {x y z : Str} {a b c : Expr} {fa fb fc : Env → Res D} {px py pz pt : Pos} {kt k2 pt2} (wi : Wr Δ i) (wj : Wr Δ j) (wl : Wr Δ l') (hc : X.calm = true) (hN : X.N.Nodup) (hi : X.N[i]? = some x) (hj : X.N[j]? = some y) (hl : X.N[l']? = some z) (hij : i ≠ j) (hil : i ≠ l') (hjl : j ≠ l')
    (hx : X.env.scope.names.lookup x = some .local) (hy : X.env.scope.names.lookup y = some .local) (hz : X.env.scope.names.lookup z = some .local) (ha : PA X [a, b, c] (TAof G Δ W (tmpE [fa, fb, fc])))
    (hw : swappedStores [.Tuple [.Name x px, .Name y py, .Name z pz] kt pt] (.Tuple [a, b, c] k2 pt2) X.env = pure (some [x, y, z]))
    (hs : swapsWithSole [.Tuple [.Name x px, .Name y py, .Name z pz] kt pt] (.Tuple [a, b, c] k2 pt2) pos.line X.env = pure false := by rfl) :
    PS X (.Assign [.Tuple [.Name x px, .Name y py, .Name z pz] kt pt] (.Tuple [a, b, c] k2 pt2) pos) (TSof G Δ W (parS [i, j, l'] [fa, fb, fc])) := by
  refine ps_imp (ps_par3 hc hN hi hj hl hij hil hjl hx hy hz ha hw hs) fun D σ H ⟨ρ, L, s, k⟩ => ⟨ρ, L, s, ?_⟩
  unfold parS at k
  rw [evOps_tmp]
  cases e : evAll [fa, fb, fc] ρ with
  | stuck => rw [e] at k; exact k
  | exc c a ρ1 => rw [e] at k; exact k σ
  | ok ds ρ1 =>
    rw [e] at k
    have hlen := evAll_len e
    match ds, hlen with
    | [d1, d2, d3], _ =>
    simp only [Res.bind, Res.rs] at k ⊢
    intro vs H1 s1 ov
    obtain ⟨l, e1⟩ := opI_tmp ov
    match vs, l with
    | [v1, v2, v3], _ =>
    have s2 : SRS G Δ H1 σ ρ1 (.dv d1 v1 :: .dv d2 v2 :: .dv d3 v3 :: L) := by rw [e1] at s1; exact s1
    refine ⟨v1, v2, v3, rfl, ?_⟩
    simp only [setAll] at k
    by_cases h1 : i < ρ1.length
    · rw [if_pos h1] at k
      have s3 := s2.put h1 wi
      by_cases h2 : j < (ρ1.set i (some d1)).length
      · rw [if_pos h2] at k
        have s4 := s3.put h2 wj
        by_cases h3 : l' < ((ρ1.set i (some d1)).set j (some d2)).length
        · rw [if_pos h3] at k
          exact k _ H1 (s4.put h3 wl)
        · rw [if_neg h3] at k; exact k.elim
      · rw [if_neg h2] at k; exact k.elim
    · rw [if_neg h1] at k; exact k.elim
/-! ### names, constants -/
theorem pE {e : Expr} {i : Nat} (hs : i = 0 → Δ.to = none) (h : PE X e (tVar i)) : PE X e (TEof G Δ W (getE i)) := pe_imp h fun _ _ _ q => te_get hs q
theorem pM {e : Expr} {i : Nat} (hs : i = 0 → Δ.to = none) (h : PE X e (tVar i)) : PE X e (TEof G Δ W (mvE i)) := pe_imp h fun _ _ _ q => te_mv hs q
theorem pInt {i : Int} {j p} : PE X (.Constant (.int i) j p) (TEof G Δ W (cE (.int i))) := pe_imp pe_int fun _ _ _ q => te_c (fun H Z => rep_int i H Z) q
theorem pStr {i : Str} {j p} : PE X (.Constant (.str i) j p) (TEof G Δ W (cE (.str i))) := pe_imp pe_str fun _ _ _ q => te_c (fun H Z => rep_str i H Z) q
theorem pBl {i : Bool} {j p} : PE X (.Constant (.bool i) j p) (TEof G Δ W (cE (.bl i))) := pe_imp pe_bl fun _ _ _ q => te_c (fun H Z => rep_bl i H Z) q
theorem pNon {j p} : PE X (.Constant .none j p) (TEof G Δ W (cE .non)) := pe_imp pe_non fun _ _ _ q => te_c (fun H Z => rep_non H Z) q
theorem pTup {es : List Expr} {fs : List (Env → Res D)} {x1} (hz : fs.length ≤ sizeLine) (h : PA X es (TAof G Δ W (tmpE fs))) : PE X (.Tuple es x1 pos) (TEof G Δ W (tupE fs)) := pe_imp (pe_tup h) fun _ _ _ q => te_tup hz q
theorem pLst {es : List Expr} {fs : List (Env → Res D)} (hz : fs.length ≤ sizeLine) (h : PA X es (TAof G Δ W (tmpE fs))) : PE X (.List es pos) (TEof G Δ W (lstE fs)) := pe_imp (pe_lst h) fun _ _ _ q => te_lst hz q
theorem paN : PA X [] (TAof G Δ W []) := ⟨fun pos pins s σ H Q I h => pa_nil.run pos pins s σ H Q I (ta_nil h)⟩
theorem paC {e : Expr} {es : List Expr} {f : OE} {fs : List OE} (h : PE X e (opTE G Δ W f)) (t : PA X es (TAof G Δ W fs)) (hs : starEach (e :: es) X.env = (false, eval e X.env) :: starEach es X.env := by rfl) : PA X (e :: es) (TAof G Δ W (f :: fs)) :=
  ⟨fun pos pins s σ H Q I q => (pa_cons h t hs).run pos pins s σ H Q I (ta_cons q)⟩
end

/-! ### what the program holds -/
mutual
/-- the value u stands for d in the written part -/
def kRep (K : PySem.W.Frag) : D → Value → Bool
  | .non, .none => true
  | .bl b, .bool c => b == c
  | .int i, .int j _ => decide (i = j)
  | .str x, .str y _ => decide (x = y)
  | .tup ds, .ref a => (match K.lookup a with
    | some ⟨.type c, _, .seq its _, _⟩ => decide (c = "tuple") && (decide (its.size ≤ 1000) && kReps K ds its.toList)
    | _ => false)
  | _, _ => false
def kReps (K : PySem.W.Frag) : List D → List Value → Bool
  | [], [] => true
  | d :: ds, u :: us => kRep K d u && kReps K ds us
  | _, _ => false
end
section
variable {G : Gl}
mutual
theorem kRep_ok : ∀ (d : D) (u : Value), kRep G.K d u = true → ∃ v, RelV v u ∧ ∀ H Z, Rep G H Z d v []
  | .non, u, h => by
    cases u <;> first | (simp only [kRep] at h; cases h; done) | skip
    exact ⟨.non, rfl, fun H Z => rep_non H Z⟩
  | .bl b, u, h => by
    cases u <;> first | (simp only [kRep] at h; cases h; done) | skip
    simp only [kRep, beq_iff_eq] at h
    subst h
    exact ⟨.bl b, rfl, fun H Z => rep_bl b H Z⟩
  | .int i, u, h => by
    cases u <;> first | (simp only [kRep] at h; cases h; done) | skip
    simp only [kRep, decide_eq_true_eq] at h
    subst h
    exact ⟨.int i, ⟨_, rfl⟩, fun H Z => rep_int i H Z⟩
  | .str i, u, h => by
    cases u <;> first | (simp only [kRep] at h; cases h; done) | skip
    simp only [kRep, decide_eq_true_eq] at h
    subst h
    exact ⟨.str i, ⟨_, rfl⟩, fun H Z => rep_str i H Z⟩
  | .tup ds, u, h => by
    cases u <;> first | (simp only [kRep] at h; cases h; done) | skip
    rename_i a
    simp only [kRep] at h
    split at h
    · rename_i c dd its n sl e
      simp only [Bool.and_eq_true, decide_eq_true_eq] at h
      obtain ⟨h1, h2, h3⟩ := h
      subst h1
      obtain ⟨vs, r, q⟩ := kReps_ok ds its.toList h3
      refine ⟨.ref a, rfl, fun H Z => ?_⟩
      simp only [Rep]
      exact ⟨a, vs, rfl, .inr ⟨_, its, n, e, rfl, rfl, Nat.le_trans h2 (by decide), r⟩, q H Z⟩
    · cases h
  | .lst _ _, u, h => by simp [kRep] at h
  | .dct _ _ _, u, h => by simp [kRep] at h
  | .ins _ _ _, u, h => by simp [kRep] at h
  | .fn _, u, h => by simp [kRep] at h
  | .exn _ _, u, h => by simp [kRep] at h
  | .thk, u, h => by simp [kRep] at h
theorem kReps_ok : ∀ (d : List D) (u : List Value), kReps G.K d u = true → ∃ v, Vals v u ∧ ∀ H Z, Reps G H Z d v []
  | [], [], h => ⟨[], .nil, fun H Z => by simp only [Reps]; exact ⟨trivial, trivial⟩⟩
  | [], _ :: _, h => by simp [kReps] at h
  | _ :: _, [], h => by simp [kReps] at h
  | d :: ds, u :: us, h => by
    simp only [kReps, Bool.and_eq_true] at h
    obtain ⟨v, r, q⟩ := kRep_ok d u h.1
    obtain ⟨vs, rs, qs⟩ := kReps_ok ds us h.2
    refine ⟨v :: vs, .cons r rs, fun H Z => ?_⟩
    simp only [Reps]
    exact ⟨v, vs, [], [], rfl, rfl, q H Z, qs H Z⟩
end
end
/-- a constant of the module -/
def ConF (G : Gl) (x : Str) (d : D) : Prop := ∃ u v, G.mg x = some u ∧ RelV v u ∧ ∀ H Z, Rep G H Z d v []
/-- a def of the module -/
structure FnF (G : Gl) (x : Str) (st : Stmt) (ps : List Str) where
  f : Addr
  fd : FuncData
  F : FunD G.K x x (defArgs st) (defBody st) (defScope st) [] [] f fd
  g : G.mg x = some (.ref f)
  b : L2.Binds G.K fd ps []
def FnF.Ok {G : Gl} {x : Str} {st : Stmt} {ps : List Str} (A : FnF G x st ps) (k : Nat) (sem : Fn) : Prop := FnOk G.P G.w G.K G.mg G.base (L2.CX G.P G.w) k A.f A.fd ps (spF G ps.length sem)
/-- an exception class of the module -/
structure EcF (G : Gl) (x : Str) (c : Nat) : Prop where
  g : G.mg x = some (.ref (G.ca c))
  q : PySem.W.excIn G.K (G.ca c) He.veBase "ValueError.__new__" = true
  k : PySem.W.keepIn G.K (.ref (G.ca c)) = true
  s : PySem.W.subIn G.K (.ref (G.ca c)) (.type "BaseException") = some true
  t : PySem.W.typeIn G.K (.ref (G.ca c)) = some (.type "type")
section
variable {G : Gl} {Δ : Dy} {W : WX} {X : Cx} {pos : Pos}
theorem pCon {x : Str} {d : D} (c : ConF G x d) (hX : X.mg = G.mg) (hg : L2.Gl X x) (hd : (x == ("__debug__" : Str)) = false := by decide) : PE X (.Name x pos) (TEof G Δ W (cE d)) := by
  obtain ⟨u, v, h1, h2, h3⟩ := c
  exact pe_imp (pe_glob hg (by rw [hX]; exact h1) h2 hd) fun _ _ _ q => te_c h3 q
/-- a def of the text keeps its promise (its code object is told) -/
theorem FnF.ok {x : Str} {st : Stmt} {Nm ps : List Str} {k : Nat} {io : Bool} {bf : Env → RS} (A : FnF G x st ps) (hio : io = true → 0 < ps.length) (S : FnScope Nm ps (defScope st))
    (h : ∀ (Ar : Around) (outer : List PySem.Env) (s : Shared) (H : Hp) (vs : List V) (E : XK), Room k (Ar.deeper (envOfC x (defScope st) s.heap.objs.size A.f A.fd.code)) →
      PSs (cxOf (L2.CX G.P G.w) G.P G.w G.K G.mg G.base Nm x (defScope st) A.f A.fd.code Ar outer s H E) (defBody st) (TSof G (ioD io vs) (WEx E) bf)) :
    A.Ok (k + 1) (runF Nm.length io bf) := by
  obtain ⟨f, fd, F, g, b⟩ := A
  obtain ⟨oc, od, dV, kV, doc, pm, an, cdv, ct, osl, e, lk, hcd, _, _⟩ := F.ex
  subst e
  exact fn_of lk hcd S (fun vs H Q E q => q.1) fun Ar outer s H vs Q E hr q => ⟨_, h Ar outer s H vs E hr, sp_start hio rfl q⟩
theorem pCall {kk : Nat} {ps : List Str} {sem : Fn} {x : Str} {st : Stmt} {p : Pos} {e : Expr} {es : List Expr} {fs : List (Env → Res D)} (A : FnF G x st ps) (O : A.Ok kk sem) (hXG : X.prog = G.P ∧ X.w = G.w ∧ X.K = G.K ∧ X.mg = G.mg ∧ X.base = G.base) (hn : fs.length = ps.length) (tk : Takes X W)
    (hr : Room kk X.A) (hg : L2.Gl X x) (ha : PA X (e :: es) (TAof G Δ W (tmpE fs))) (hdb : (x == ("__debug__" : Str)) = false := by decide) (he : starEach (e :: es) X.env = (false, eval e X.env) :: starEach es X.env := by rfl) (hpl : (backTo pos (starEach es X.env)).any (·.1) = false := by rfl) :
    PE X (.Call (.Name x p) (e :: es) [] pos) (TEof G Δ W (callE sem fs)) := by
  obtain ⟨x1, x2, x3, x4, x5⟩ := hXG
  exact pe_callF hn tk (by rw [x1, x2, x3, x4, x5]; exact O) hr hg (by rw [x4]; exact A.g) (by rw [x3]; exact A.F.kp) (by rw [x3]; exact A.b) ha hdb he hpl
theorem pCallIO {kk i : Nat} {ps : List Str} {sem : Fn} {x y : Str} {st : Stmt} {p py : Pos} {es : List Expr} {fs : List (Env → Res D)} (A : FnF G x st ps) (O : A.Ok kk sem) (hXG : X.prog = G.P ∧ X.w = G.w ∧ X.K = G.K ∧ X.mg = G.mg ∧ X.base = G.base) (hs : i = 0 → Δ.to = none) (hn : fs.length + 1 = ps.length) (tk : Takes X W)
    (hr : Room kk X.A) (hg : L2.Gl X x) (hy : PE X (.Name y py) (tVar i)) (ha : PA X es (TAof G Δ W (tmpE fs))) (hdb : (x == ("__debug__" : Str)) = false := by decide) (he : starEach (.Name y py :: es) X.env = (false, eval (.Name y py) X.env) :: starEach es X.env := by rfl) (hpl : (backTo pos (starEach es X.env)).any (·.1) = false := by rfl) :
    PE X (.Call (.Name x p) (.Name y py :: es) [] pos) (TEof G Δ W (callIO sem i fs)) := by
  obtain ⟨x1, x2, x3, x4, x5⟩ := hXG
  exact pe_callIO hs hn tk (by rw [x1, x2, x3, x4, x5]; exact O) hr hg (by rw [x4]; exact A.g) (by rw [x3]; exact A.F.kp) (by rw [x3]; exact A.b) hy ha hdb he hpl
theorem pRaise {x : Str} {c : Nat} {p cpos : Pos} (F : EcF G x c) (hK : X.K = G.K) (hmg : X.mg = G.mg) (hc : X.calm = true) (tk : Takes X W) (hg : L2.Gl X x) (hdb : (x == ("__debug__" : Str)) = false := by decide) :
    PS X (.Raise (some (.Call (.Name x p) [] [] cpos)) none pos) (TSof G Δ W (raiseS c)) :=
  ps_raise0 hc tk PySem.F.excBase_ValueError (by rw [hK]; exact F.q) (by rw [hmg]; exact F.g) (by rw [hK]; exact F.k) (raises_own (by rw [hK]; exact F.s) (by rw [hK]; exact F.t)) hg hdb
end

/-! ### the end of a law -/
section
variable {G : Gl}
/-- the script at the entry -/
theorem script_sp {sem : Fn} {H : Hp} {a : Addr} {ns : List Int} (hT : ∀ p ∈ G.T, H p.1 = some (.tbl #[])) (hS : SqL G.K H a (ns.map V.int)) (hs : sem [.lst false (ns.map .int)] = .ok (.bl true) []) : spF G 1 sem [.ref a] H (fun v _ => v = .bl true) fun _ _ _ => False := by
  refine ⟨rfl, [.lst false (ns.map .int)], [], rfl, ?_, ?_⟩
  · have tabs : ∀ (T : List (Addr × Str)), (∀ p ∈ T, p ∈ G.T) → Ev.Its G H (fun b => b = a ∧ True) (T.map fun p => .tab p.1 p.2) [] := by
      intro T
      induction T with
      | nil => intro _; rfl
      | cons p T ih =>
        intro h
        exact ⟨[], [], rfl, ⟨LamX.TabS.nil (hT p (h p List.mem_cons_self)), h p List.mem_cons_self, rfl⟩, ih fun q hq => h q (List.mem_cons_of_mem _ hq)⟩
    have reps : ∀ l : List Int, Reps G H (fun b => b = a ∧ True) (l.map .int) (l.map V.int) [] := by
      intro l
      induction l with
      | nil => simp only [List.map_nil, Reps]; exact ⟨trivial, trivial⟩
      | cons n l ih =>
        simp only [List.map_cons, Reps]
        exact ⟨_, _, [], [], rfl, rfl, rep_int n H _, ih⟩
    refine ⟨fun b => b = a ∧ True, [], ⟨[], [], rfl, ?_, ?_⟩, List.nodup_nil⟩
    · simp only [IRep, Rep, Bool.false_eq_true, if_false]
      exact ⟨a, ns.map V.int, [], rfl, reps ns, hS.imp (fun z => ⟨z, rfl, trivial⟩) id, rfl, trivial⟩
    · rw [List.append_nil]
      exact tabs G.T fun _ h => h
  · rw [hs]
    intro v H' s
    obtain ⟨Z, F, sz, F1, r⟩ := SR.at1 s
    exact rep_b r
end
theorem cx_none {P : Program} {w : World} {H : Hp} {s : Shared} {e : Value} {s' : Shared} (h : L2.CX P w [] H s (fun _ _ _ => False) e s') : False := by
  obtain ⟨_, _, _, _, _, _, _, _, _, _, _, _, z⟩ := h
  exact z
/-- a law with tables; the written part is found at the head -/
theorem walk_tabs {l : PySem.W.OpenLaw} {n k : Nat} {q : Program} {loose : List Str} {XP : (Str → Option Value) → Heap → Prop} {YP : World → Heap → Prop} {d : DefRec} {x : Str}
    (hn : l.most = some n) (hn2 : n ≤ sizeLine) (hdf : d.params.defaults = []) (hr : Room k callerA)
    (F : ∀ (w : World) (mg : Str → Option Value) (fa : Addr) (h : Heap), YP w h → h.Ns mainGlobals mg → mg d.name = some (.ref fa) → ∃ K : PySem.W.Frag, K.In h ∧ LamX.LawAtS l w K (L2.CX l.prog w) k n x mg fa h) :
    PySem.W.WalkO q loose XP YP l.row.toRowW d [] (fun f vs => PySem.call f vs) := by
  refine Att.attach_callB hn hdf fun w s₀ s₁ mg mb fa o pm cd doc a vs ns GG Y ho hd hcd hmg hobj hints hlen hbits hg => ?_
  obtain ⟨K, KX, fd, cs, sp, hT, nT, C, hb, hsp, hF⟩ := F w mg fa _ Y GG.T.g hmg
  exact LamX.law_callTs KX GG.T.g GG.T.b GG.T.builtins GG.T.nolimit hg hT nT C GG.T.bmain hobj hints (Nat.le_trans hlen hn2) hr hF hb (fun H hH hS => hsp H a ns hlen hbits hH hS) fun H e s' => cx_none
end Ev

end T_V20
section T_V21
set_option Elab.async false
set_option linter.all false
set_option maxRecDepth 100000
set_option maxHeartbeats 4000000
/-! Ev, part 21: small facts that the printed proofs ask for. -/
namespace Ev
open PySem PySem.Spec L2
open PyProof.Rows hiding St
section
variable {G : Gl} {Δ : Dy} {W : WX} {X : Cx} {pos : Pos}
theorem oX {e : Expr} {f : Ev.Env → Res D} (h : PE X e (TEof G Δ W f)) : PE X e (opTE G Δ W (.e f)) := h
theorem hu64m {k : Nat} {A : Around} {h : Option Value} (hr : Room k A) : (A.mark h).units + 64 < cLine := hr.units
theorem hu65m {k : Nat} {A : Around} {h : Option Value} (hr : Room k A) : (A.mark h).units + 65 < cLine := (hu65 hr : A.units + 65 < cLine)
theorem hv1 {x : Str} {i : Nat} (h : Wr Δ i) : ∀ j ∈ [(x, i)].map (·.2), Wr Δ j := fun j hj => by
  simp only [List.map_cons, List.map_nil, List.mem_singleton] at hj
  subst hj; exact h
theorem hv2 {x y : Str} {i k : Nat} (h : Wr Δ i) (h2 : Wr Δ k) : ∀ j ∈ [(x, i), (y, k)].map (·.2), Wr Δ j := fun j hj => by
  simp only [List.map_cons, List.map_nil, List.mem_cons, List.not_mem_nil, or_false] at hj
  rcases hj with rfl | rfl
  · exact h
  · exact h2
theorem hv3 {x y z : Str} {i k l : Nat} (h : Wr Δ i) (h2 : Wr Δ k) (h3 : Wr Δ l) : ∀ j ∈ [(x, i), (y, k), (z, l)].map (·.2), Wr Δ j := fun j hj => by
  simp only [List.map_cons, List.map_nil, List.mem_cons, List.not_mem_nil, or_false] at hj
  rcases hj with rfl | rfl | rfl
  · exact h
  · exact h2
  · exact h3
theorem wr_su {i j : Nat} {a : Addr} {E : List Itm} (h : Wr Δ j) (n : j ≠ i) : Wr (suD Δ i a E) j := ⟨h.1, fun v hv => by
  rcases List.mem_cons.mp hv with e | e
  · cases e; exact n rfl
  · exact h.2 v e⟩
theorem wr_pin {i : Nat} {v : V} (h : Δ.pin = [(0, v)]) (n : i ≠ 0) : Wr Δ i := ⟨fun z => absurd z n, fun w hw => by
  rw [h, List.mem_singleton] at hw
  cases hw; exact n rfl⟩
def stuckS : Env → RS := fun _ => .stuck
theorem pss_stuck {sts : List Stmt} : PSs X sts (TSof G Δ W stuckS) := pss_imp pss_never fun D σ H ⟨ρ, L, s, k⟩ => k
/-- a class of exceptions and the others: what isinstance says -/
theorem pIsE {a : Addr} {oe : Obj} {pn : List (Addr × Obj)} {c i y : Nat} {x n : Str} {b : Bool} {p np cp : Pos} (EC : ExcC G.K (G.ca c)) (hz : Zc (.ref (G.ca c)) none oe) (hf : ∃ vs, oe.data = .fields vs) (hK : X.K = G.K) (hmg : X.mg = G.mg)
    (hg : L2.Gl X "isinstance") (hm : G.mg "isinstance" = none) (hp : (i, .ref a) ∈ Δ.pin) (hN : X.N[i]? = some n) (hv : Vis X.env.scope n) (hgx : L2.Gl X x) (hC : G.mg x = some (.ref (G.ca y))) (hk : PySem.W.kitOne G.K (.ref (G.ca c)) (.ref (G.ca y)) = some b)
    (hd : (n == ("__debug__" : Str)) = false := by decide) (hcd : (n == ("__classdict__" : Str)) = false := by decide) (hdx : (x == ("__debug__" : Str)) = false := by decide)
    (h1 : starEach (.Name n np :: [.Name x cp]) (X.suite a ((a, oe) :: pn)).env = (false, eval (.Name n np) (X.suite a ((a, oe) :: pn)).env) :: starEach [.Name x cp] (X.suite a ((a, oe) :: pn)).env := by rfl)
    (h2 : starEach (.Name x cp :: []) (X.suite a ((a, oe) :: pn)).env = (false, eval (.Name x cp) (X.suite a ((a, oe) :: pn)).env) :: starEach [] (X.suite a ((a, oe) :: pn)).env := by rfl) (hpl : (backTo pos (starEach [.Name x cp] (X.suite a ((a, oe) :: pn)).env)).any (·.1) = false := by rfl) :
    PE (X.suite a ((a, oe) :: pn)) (.Call (.Name "isinstance" p) [.Name n np, .Name x cp] [] pos) (TEof G Δ W (cE (.bl b))) :=
  pe_isE (cv := .ref (G.ca y)) (by rw [hK]; exact EC) hz hf hg (by rw [hmg]; exact hm) hp hN hv hd hcd ⟨.ref (G.ca y), pe_glob hgx (by show X.mg x = _; rw [hmg]; exact hC) rfl hdx, fun u r => r⟩ (by rw [hK]; exact hk) h1 h2 hpl
/-- .. of a built-in class -/
theorem pIsEB {a : Addr} {oe : Obj} {pn : List (Addr × Obj)} {c i : Nat} {T : String} {x n : Str} {b : Bool} {p np cp : Pos} (EC : ExcC G.K (G.ca c)) (hz : Zc (.ref (G.ca c)) none oe) (hf : ∃ vs, oe.data = .fields vs) (hK : X.K = G.K) (hmg : X.mg = G.mg)
    (hg : L2.Gl X "isinstance") (hm : G.mg "isinstance" = none) (hp : (i, .ref a) ∈ Δ.pin) (hN : X.N[i]? = some n) (hv : Vis X.env.scope n) (hgx : L2.Gl X x) (hC : G.mg x = none) (hB : bootBuiltins x = some (.type T)) (hk : PySem.W.kitOne G.K (.ref (G.ca c)) (.type T) = some b)
    (hd : (n == ("__debug__" : Str)) = false := by decide) (hcd : (n == ("__classdict__" : Str)) = false := by decide) (hnx : x ≠ "__name__" := by decide) (hdx : (x == ("__debug__" : Str)) = false := by decide)
    (h1 : starEach (.Name n np :: [.Name x cp]) (X.suite a ((a, oe) :: pn)).env = (false, eval (.Name n np) (X.suite a ((a, oe) :: pn)).env) :: starEach [.Name x cp] (X.suite a ((a, oe) :: pn)).env := by rfl)
    (h2 : starEach (.Name x cp :: []) (X.suite a ((a, oe) :: pn)).env = (false, eval (.Name x cp) (X.suite a ((a, oe) :: pn)).env) :: starEach [] (X.suite a ((a, oe) :: pn)).env := by rfl) (hpl : (backTo pos (starEach [.Name x cp] (X.suite a ((a, oe) :: pn)).env)).any (·.1) = false := by rfl) :
    PE (X.suite a ((a, oe) :: pn)) (.Call (.Name "isinstance" p) [.Name n np, .Name x cp] [] pos) (TEof G Δ W (cE (.bl b))) :=
  pe_isE (cv := .type T) (by rw [hK]; exact EC) hz hf hg (by rw [hmg]; exact hm) hp hN hv hd hcd ⟨.ty T, pe_bltn hgx (by show X.mg x = _; rw [hmg]; exact hC) hB rfl hnx hdx, fun u r => r⟩ (by rw [hK]; exact hk) h1 h2 hpl
end
end Ev

end T_V21
section T_V22
set_option Elab.async false
set_option linter.all false
set_option maxRecDepth 100000
set_option maxHeartbeats 4000000
/-! Ev, part 22: an item that is looked into where it lies. -/
namespace Ev
open PySem PySem.Spec L2
open PyProof.Rows hiding St
def idxRaw : D → D → Option D
  | .lst _ xs, .int i => atI xs i
  | .tup xs, .int i => atI xs i
  | _, _ => none
def ixThen (sem : List D → Option D) : List D → Option D
  | a :: b :: r => (idxRaw a b).bind fun c => sem (c :: r)
  | _ => none
def rIxThen (K : PySem.W.Frag) (r : List V → Hp → VK → Prop) : List V → Hp → VK → Prop := fun vs H Q => ∃ x y rest, vs = x :: y :: rest ∧ rIx K x y H fun z H1 => r (z :: rest) H1 Q
section
variable {G : Gl} {Δ : Dy} {W : WX} {X : Cx} {pos : Pos}
theorem con_ixThen {r : List V → Hp → VK → Prop} {sem : List D → Option D} (c : Con G r sem) : Con G (rIxThen G.K r) (ixThen sem) := by
  intro H Z L F ds vs Q d s ra e k
  match ds, e, ra with
  | a :: b :: rest, e, ra =>
    simp only [ixThen, Option.bind_eq_some_iff] at e
    obtain ⟨m, e1, e2⟩ := e
    obtain ⟨x, xs, rfl, h1, ra⟩ : ∃ x xs, vs = x :: xs ∧ (∃ F, Rep G H Z a x F) ∧ RepsA G H Z (b :: rest) xs := by cases ra with | cons h t => exact ⟨_, _, rfl, h, t⟩
    obtain ⟨y, ys, rfl, h2, ra⟩ : ∃ y ys, xs = y :: ys ∧ (∃ F, Rep G H Z b y F) ∧ RepsA G H Z rest ys := by cases ra with | cons h t => exact ⟨_, _, rfl, h, t⟩
    · · obtain ⟨F1, h1⟩ := h1
        obtain ⟨F2, h2⟩ := h2
        have go : ∀ {ws : List V} {us : List D} {F' : List Addr} {i : Int}, Reps G H Z us ws F' → atI us i = some m → ∃ v, atI ws i = some v ∧ r (v :: ys) H Q := fun {ws us F' i} rr ea => by
          obtain ⟨j, v, g1, g2, g3⟩ := atI_map (Reps_length rr) ea
          obtain ⟨F3, g4⟩ := Reps.at rr g1 g2
          exact ⟨v, g3, c H Z L F (m :: rest) (v :: ys) Q d s (.cons ⟨F3, g4⟩ ra) e2 k⟩
        refine ⟨x, y, ys, rfl, ?_⟩
        unfold idxRaw at e1
        split at e1
        · obtain ⟨p, ws, F', rfl, sa, rr⟩ := Rep.seqL h1
          obtain ⟨v, g3, g⟩ := go rr e1
          exact .inl ⟨p, ws, _, v, rfl, rep_i h2, sa, g3, g⟩
        · obtain ⟨p, ws, rfl, sa, rr⟩ := Rep.seqT h1
          obtain ⟨v, g3, g⟩ := go rr e1
          exact .inr (.inl ⟨p, ws, _, v, rfl, rep_i h2, sa, g3, g⟩)
        · cases e1
  | [], e, _ => cases e
  | [a], e, _ => cases e
/-- two operands that only read: a name, a written number -/
theorem te_two_read {i : Nat} {a : Int} {fs : List OE} {r : List V → Hp → VK → Prop} {sem : List D → Option D} {σ : St} {H : Hp} {Q : VK} (c : Con G r sem) (h : TEof G Δ W (conE (.b i :: .e (cE (.int a)) :: fs) (ixThen sem)) σ H Q) :
    ∃ v, σ[i]? = some (some v) ∧ TAof G Δ W fs σ H fun vs H1 => rIx G.K v (.int a) H1 fun z H2 => r (z :: vs) H2 Q := by
  obtain ⟨v, e, q⟩ := ta_cons (con_te (con_ixThen c) h)
  refine ⟨v, e, ?_⟩
  have q1 : TEof G Δ W (cE (.int a)) σ H fun x H1 => TAof G Δ W fs σ H1 fun xs H2 => rIxThen G.K r (v :: x :: xs) H2 Q := ta_cons q
  have q2 : TAof G Δ W fs σ H fun xs H2 => rIxThen G.K r (v :: .int a :: xs) H2 Q := te_c (fun H Z => rep_int a H Z) q1
  obtain ⟨ρ, L, s, k⟩ := q2
  refine ⟨ρ, L, s, ?_⟩
  cases e2 : evOps fs ρ with
  | stuck => rw [e2] at k; exact k
  | exc cc aa ρ1 => rw [e2] at k; exact k
  | ok os ρ1 =>
    rw [e2] at k
    intro vs H' s' ov
    obtain ⟨x, y, rest, e3, q3⟩ := k vs H' s' ov
    cases e3
    exact q3
theorem pe_biIx {id : String} {x : Str} {p ip : Pos} {o j : Expr} {i : Nat} {a : Int} {r : List V → Hp → VK → Prop} {sem : List D → Option D} (hc : CallR X (.builtin id) r) (c : Con G r sem) (hg : L2.Gl X x) (hm : X.mg x = none) (hv : bootBuiltins x = some (.builtin id)) (hK : X.K = G.K)
    (ho : PE X o (tVar i)) (hj : PE X j (tC (.int a))) (hp : PlainIx j) (hn : x ≠ "__name__" := by decide) (hdb : (x == ("__debug__" : Str)) = false := by decide)
    (he : starEach (.Subscript o j ip :: []) X.env = (false, eval (.Subscript o j ip) X.env) :: starEach [] X.env := by rfl) :
    PE X (.Call (.Name x p) [.Subscript o j ip] [] pos) (TEof G Δ W (conE [.b i, .e (cE (.int a))] (ixThen sem))) :=
  pe_imp (pe_callB (p := p) (pos := pos) hc hg hm hv (pa_cons (pe_ix (pos := ip) ix_seq ho hj hp) pa_nil he) hn hdb he (by rfl)) fun σ H Q h => by
    obtain ⟨v, e, q⟩ := te_two_read c h
    rw [hK]
    exact ⟨v, e, ta_nil q⟩
theorem pe_idx2 {ip : Pos} {o j k : Expr} {i : Nat} {a b : Int} (hK : X.K = G.K) (ho : PE X o (tVar i)) (hj : PE X j (tC (.int a))) (hp : PlainIx j) (hk : PE X k (tC (.int b))) (hp2 : PlainIx k) :
    PE X (.Subscript (.Subscript o j ip) k pos) (TEof G Δ W (conE [.b i, .e (cE (.int a)), .e (cE (.int b))] (ixThen idxS))) := by
  have h0 := pe_ix (pos := pos) ix_seq (pe_ix (pos := ip) ix_seq ho hj hp) hk hp2
  rw [hK] at h0
  refine pe_imp h0 fun σ H Q h => ?_
  obtain ⟨v, e, q⟩ := te_two_read con_idx h
  refine ⟨v, e, ?_⟩
  have q1 : TEof G Δ W (cE (.int b)) σ H fun x H1 => TAof G Δ W [] σ H1 fun xs H2 => rIx G.K v (.int a) H2 fun z H3 => opL (rIx G.K) (z :: x :: xs) H3 Q := ta_cons q
  have q2 := ta_nil (G := G) (Δ := Δ) (W := W) (σ := σ) (te_c (W := W) (fun H Z => rep_int b H Z) q1)
  -- the second place is a written number
  have fin : ∀ z H3, opL (rIx G.K) [z, .int b] H3 Q → rIx G.K z (.int b) H3 Q := fun z H3 ⟨x, y, e3, q3⟩ => by cases e3; exact q3
  rcases q2 with ⟨p, xs, i', w, g1, g2, g3, g4, g5⟩ | ⟨p, xs, i', w, g1, g2, g3, g4, g5⟩ | ⟨z, i', w, g1, g2, g3, g4, g5⟩
  · exact .inl ⟨p, xs, i', w, g1, g2, g3, g4, fin _ _ g5⟩
  · exact .inr (.inl ⟨p, xs, i', w, g1, g2, g3, g4, fin _ _ g5⟩)
  · exact .inr (.inr ⟨z, i', w, g1, g2, g3, g4, fin _ _ g5⟩)
/-- minus a written number -/
theorem pe_negC {n : Int} {k : Nat} {p : Pos} : PE X (.UnaryOp .USub (.Constant (.int n) k p) pos) (tC (.int (-n))) := pe_imp (pe_un un_neg pe_int) fun σ H Q h => ⟨n, rfl, h⟩
end
end Ev

end T_V22
section T_V23
set_option Elab.async false
set_option linter.all false
set_option maxRecDepth 100000
set_option maxHeartbeats 4000000
/-! Ev, part 23: facts by checks; a law's promise at the head. -/
namespace Ev
open PySem PySem.Spec L2
open PyProof.Rows hiding St
def conB (K : PySem.W.Frag) (x : Str) (d : D) : Bool := match PySem.W.nsIn K mainGlobals x with
  | some (some u) => kRep K d u
  | _ => false
def excCB (K : PySem.W.Frag) (C : Addr) : Bool :=
  He.eqO (PySem.W.findIn K (.ref C) "__getattribute__") (some (some (.builtin "BaseException.__getattribute__"))) && (He.eqO (PySem.W.findIn K (.ref C) "__getattr__") (some none) && (decide (PySem.W.subIn K (.ref C) (.type "BaseException") = some true) &&
  (PySem.W.hasDictIn K C && (He.eqO (PySem.W.findIn K (.ref C) "__class__") (some (some (.builtin "object.__class__"))) && (He.eqO (PySem.W.specialIn K (.builtin "object.__class__") "__get__") (some (some (.builtin "getset_descriptor.__get__"))) &&
  (decide (PySem.W.takesIn K (.builtin "object.__class__") = some true) && decide (PySem.W.mroIn K C (.type "object") = some true)))))))
theorem excCB_ok {K : PySem.W.Frag} {C : Addr} (h : excCB K C = true) : ExcC K C := by
  unfold excCB at h
  simp only [Bool.and_eq_true, decide_eq_true_eq] at h
  obtain ⟨h1, h2, h3, h4, h5, h6, h7, h8⟩ := h
  exact ⟨He.eqO_ok h1, He.eqO_ok h2, h3, h4, He.eqO_ok h5, He.eqO_ok h6, h7, h8⟩
/-- the classes of exceptions: the first is what the law's words catch -/
def clsB (K : PySem.W.Frag) (cname : Nat → Str) (nc : Nat) (sub : Nat → Nat → Bool) : Bool := (List.range nc).all fun c =>
  excCB K (He.ga K (cname c)) && (decide (PySem.W.kitOne K (.ref (He.ga K (cname c))) (.type "ValueError") = some true) && (decide (PySem.W.exmOne K (.ref (He.ga K (cname c))) (.ref (He.ga K (cname 0))) = some true) &&
  (List.range nc).all fun y => decide (PySem.W.kitOne K (.ref (He.ga K (cname c))) (.ref (He.ga K (cname y))) = some (sub c y))))
structure ClsOk (K : PySem.W.Frag) (ca : Nat → Addr) (nc : Nat) (sub : Nat → Nat → Bool) : Prop where
  ecs : ∀ c, c < nc → ExcC K (ca c)
  kv : ∀ c, c < nc → PySem.W.kitOne K (.ref (ca c)) (.type "ValueError") = some true
  xm : ∀ c, c < nc → PySem.W.exmOne K (.ref (ca c)) (.ref (ca 0)) = some true
  kt : ∀ c y, c < nc → y < nc → PySem.W.kitOne K (.ref (ca c)) (.ref (ca y)) = some (sub c y)
theorem clsB_ok {K : PySem.W.Frag} {cname : Nat → Str} {nc : Nat} {sub : Nat → Nat → Bool} (h : clsB K cname nc sub = true) : ClsOk K (fun c => He.ga K (cname c)) nc sub := by
  unfold clsB at h
  simp only [List.all_eq_true, List.mem_range, Bool.and_eq_true, decide_eq_true_eq] at h
  exact ⟨fun c hc => excCB_ok (h c hc).1, fun c hc => (h c hc).2.1, fun c hc => (h c hc).2.2.1, fun c y hc hy => (h c hc).2.2.2 y hy⟩
section
variable {G : Gl} {h : Heap}
theorem conB_ok (X : G.K.In h) (N : h.Ns mainGlobals G.mg) {x : Str} {d : D} (e : conB G.K x d = true) : ConF G x d := by
  unfold conB at e
  split at e
  · rename_i u q
    obtain ⟨v, r, hv⟩ := kRep_ok d u e
    exact ⟨u, v, PySem.W.mg_of X N q, r, hv⟩
  · cases e
theorem ecF_ok (X : G.K.In h) (N : h.Ns mainGlobals G.mg) {x : Str} {c : Nat} (hc : G.ca c = He.ga G.K x) (e1 : (He.Fa.glo x).ok G.K = true) (e2 : (He.Fa.exc x).ok G.K = true) : EcF G x c := by
  obtain ⟨a1, a2, a3, a4⟩ := He.exc_ok e2
  exact ⟨by rw [hc]; exact He.glo_ok X N e1, by rw [hc]; exact a1, by rw [hc]; exact a2, by rw [hc]; exact a3, by rw [hc]; exact a4⟩
theorem fnF_ok (X : G.K.In h) (N : h.Ns mainGlobals G.mg) {x : Str} {st : Stmt} {ps : List Str} {f : Addr} (hf : f = He.ga G.K x) (e1 : (He.Fa.glo x).ok G.K = true)
    (F : ∃ fd, FunD G.K x x (defArgs st) (defBody st) (defScope st) [] [] f fd)
    (hb : ∀ (kV doc pm : Value) (an : Option Addr) (cdv ct : Value) (us : List Value), us.length = ps.length → bindArgs (PySem.W.fnOf x x (defArgs st) (defBody st) (defScope st) .none kV doc pm an cdv ct) ⟨us, []⟩ = pure (ps.zip us)) :
    ∃ A : FnF G x st ps, A.f = He.ga G.K x := by
  obtain ⟨fd, F⟩ := F
  exact ⟨⟨f, fd, F, by rw [hf]; exact He.glo_ok X N e1, F.bindsN hb⟩, hf⟩
/-- a def's code object -/
theorem FnF.code {x : Str} {st : Stmt} {ps : List Str} (A : FnF G x st ps) (e : A.f = He.ga G.K x) : A.fd.code = .ref (He.codeOf G.K (x, none)) := by
  obtain ⟨f, fd, F, g, b⟩ := A
  obtain ⟨oc, od, dV, kV, doc, pm, an, cdv, ct, osl, rfl, lk, hcd, _, _⟩ := F.ex
  obtain ⟨c, rfl⟩ := He.codeIn_ref hcd
  have e' : f = He.fAd G.K (x, none) := e
  have lk' : G.K.lookup f = _ := lk
  rw [e'] at lk'
  rw [He.codeOf_eq lk' rfl]
end
/-- the law's promise, over every ground -/
theorem lawAt_of {l : PySem.W.OpenLaw} {w : World} {K : PySem.W.Frag} {k : Nat} {x : Str} {mg : Str → Option Value} {fa : Addr} {h : Heap} {fd : FuncData} {sem : Fn} (cs : List (Addr × Addr)) (Gb : Heap → Gl) (X : K.In h)
    (hK : ∀ b, (Gb b).K = K) (hT : ∀ b, ∀ p ∈ (Gb b).T, ∃ q ∈ cs, q.2 = p.1)
    (h1 : ∀ p ∈ cs, h.get? p.2 = some { cls := .none, data := .fields #[] }) (h2 : ∀ p ∈ cs, K.lookup p.2 = none) (h3 : ∀ p ∈ cs, PySem.W.codeHdIn K p.1 p.2 = true)
    (hb : ∀ (s : Shared) (u : Value), BindsTo s fd ⟨[u], []⟩ [(x, u)])
    (hF : ∀ base : Heap, K.In base → base.Ns mainGlobals mg → (∀ p ∈ cs, LamX.TabB base mg p.1 p.2) → FnOk l.prog w K mg base (L2.CX l.prog w) k fa fd [x] (spF (Gb base) 1 sem))
    (hlaw : ∀ ns : List Int, ns.length ≤ 63 → (∀ z ∈ ns, Builtin.Int.intBits z ≤ 1048576) → sem [.lst false (ns.map .int)] = .ok (.bl true) []) : LamX.LawAtS l w K (L2.CX l.prog w) k 63 x mg fa h :=
  ⟨fd, cs, fun vs H Q E => ∀ b, spF (Gb b) 1 sem vs H Q E, h1, h2, fun p hp => PySem.W.codeHd_of_K X (h3 p hp), hb,
    fun H a ns hl hbits hT0 hS b => script_sp (G := Gb b) (fun p hp => by
      obtain ⟨q, hq, e⟩ := hT b p hp
      rw [← e]; exact hT0 q hq) (by rw [hK]; exact hS) (hlaw ns hl hbits),
    fun base hin hns htb => (hF base hin hns htb).imp fun vs H Q E q => q base⟩
end Ev

end T_V23
section T_L39A
set_option Elab.async false
set_option linter.all false
set_option maxRecDepth 100000
set_option maxHeartbeats 4000000
/-! k39_whole_scores_of_contracts: what the defs compute, and that they do. Printed by gen.py from the text. -/
namespace EvL
open PySem PySem.Spec L2 Ev
open PyProof.Rows hiding St
def top (i : Nat) : Stmt := PySem.Challenge.pw_cardtable_k39_whole_scores_of_contracts.main.body.getD i (.Pass ⟨0, 0, 0, 0⟩)
def con_STRAINS : D := (.tup [(.str "c"), (.str "d"), (.str "h"), (.str "s"), (.str "n")])
def con_MINORS : D := (.tup [(.str "c"), (.str "d")])
def con_NO_TRUMP : D := (.str "n")
def con_BOOK : D := (.int 6)
def con_MOST_FIGURE : D := (.int 7)
def con_MOST_TRICKS : D := (.int 13)
def con_MOST_TIMES : D := (.int 2)
def con_SMALL_SLAM : D := (.int 6)
def con_GAME : D := (.int 100)
/-- the classes of exceptions, by number: CardError, NoFlag, NoFigure, NoStrain, NoTimes, NoTricks -/
def cname : Nat → Str
  | 0 => "CardError"
  | 1 => "NoFlag"
  | 2 => "NoFigure"
  | 3 => "NoStrain"
  | 4 => "NoTimes"
  | 5 => "NoTricks"
  | _ => ""
/-- is the class c the class y or below it -/
def subc (c y : Nat) : Bool := (decide (c = 0) && decide (y = 0)) || (decide (c = 1) && decide (y = 1)) || (decide (c = 1) && decide (y = 0)) || (decide (c = 2) && decide (y = 2)) || (decide (c = 2) && decide (y = 0)) || (decide (c = 3) && decide (y = 3)) || (decide (c = 3) && decide (y = 0)) || (decide (c = 4) && decide (y = 4)) || (decide (c = 4) && decide (y = 0)) || (decide (c = 5) && decide (y = 5)) || (decide (c = 5) && decide (y = 0))
def ctc (c : Nat) : Option Bool := if c < 6 then some true else none
theorem ctc_lt {c : Nat} (h : ctc c = some true) : c < 6 := by
  unfold ctc at h
  split at h
  · assumption
  · cases h
def subV_ValueError (c : Nat) : Bool := true
abbrev st_is_integer : Stmt := top 1
theorem sc_is_integer : FnScope ["thing"] ["thing"] (defScope st_is_integer) := ⟨rfl, rfl, rfl, by decide +kernel, rfl, by decide +kernel, by decide +kernel⟩
abbrev st_is_within : Stmt := top 2
theorem sc_is_within : FnScope ["thing", "least", "most"] ["thing", "least", "most"] (defScope st_is_within) := ⟨rfl, rfl, rfl, by decide +kernel, rfl, by decide +kernel, by decide +kernel⟩
abbrev st_is_strain : Stmt := top 20
theorem sc_is_strain : FnScope ["thing"] ["thing"] (defScope st_is_strain) := ⟨rfl, rfl, rfl, by decide +kernel, rfl, by decide +kernel, by decide +kernel⟩
abbrev st_check_flag : Stmt := top 21
theorem sc_check_flag : FnScope ["flag"] ["flag"] (defScope st_check_flag) := ⟨rfl, rfl, rfl, by decide +kernel, rfl, by decide +kernel, by decide +kernel⟩
abbrev st_trick_worth : Stmt := top 22
theorem sc_trick_worth : FnScope ["strain"] ["strain"] (defScope st_trick_worth) := ⟨rfl, rfl, rfl, by decide +kernel, rfl, by decide +kernel, by decide +kernel⟩
abbrev st_doubled_by : Stmt := top 23
theorem sc_doubled_by : FnScope ["worth", "times", "found", "turn"] ["worth", "times"] (defScope st_doubled_by) := ⟨rfl, rfl, rfl, by decide +kernel, rfl, by decide +kernel, by decide +kernel⟩
abbrev st_told_worth : Stmt := top 24
theorem sc_told_worth : FnScope ["figure", "strain", "times", "more"] ["figure", "strain", "times"] (defScope st_told_worth) := ⟨rfl, rfl, rfl, by decide +kernel, rfl, by decide +kernel, by decide +kernel⟩
abbrev st_slam_worth : Stmt := top 25
theorem sc_slam_worth : FnScope ["figure", "is_hurt", "small"] ["figure", "is_hurt"] (defScope st_slam_worth) := ⟨rfl, rfl, rfl, by decide +kernel, rfl, by decide +kernel, by decide +kernel⟩
abbrev st_over_worth : Stmt := top 26
theorem sc_over_worth : FnScope ["strain", "times", "is_hurt", "many"] ["strain", "times", "is_hurt", "many"] (defScope st_over_worth) := ⟨rfl, rfl, rfl, by decide +kernel, rfl, by decide +kernel, by decide +kernel⟩
abbrev st_made_score : Stmt := top 27
theorem sc_made_score : FnScope ["figure", "strain", "times", "is_hurt", "tricks", "below", "found"] ["figure", "strain", "times", "is_hurt", "tricks"] (defScope st_made_score) := ⟨rfl, rfl, rfl, by decide +kernel, rfl, by decide +kernel, by decide +kernel⟩
abbrev st_down_cost : Stmt := top 28
theorem sc_down_cost : FnScope ["times", "is_hurt", "many", "found", "at"] ["times", "is_hurt", "many"] (defScope st_down_cost) := ⟨rfl, rfl, rfl, by decide +kernel, rfl, by decide +kernel, by decide +kernel⟩
abbrev st_raw_score : Stmt := top 29
theorem sc_raw_score : FnScope ["figure", "strain", "times", "is_hurt", "tricks"] ["figure", "strain", "times", "is_hurt", "tricks"] (defScope st_raw_score) := ⟨rfl, rfl, rfl, by decide +kernel, rfl, by decide +kernel, by decide +kernel⟩
abbrev st_contract_score : Stmt := top 30
theorem sc_contract_score : FnScope ["figure", "strain", "times", "is_hurt", "tricks"] ["figure", "strain", "times", "is_hurt", "tricks"] (defScope st_contract_score) := ⟨rfl, rfl, rfl, by decide +kernel, rfl, by decide +kernel, by decide +kernel⟩
abbrev st__law_bag : Stmt := top 32
theorem sc__law_bag : FnScope ["script", "great", "seed", "cell"] ["script"] (defScope st__law_bag) := ⟨rfl, rfl, rfl, by decide +kernel, rfl, by decide +kernel, by decide +kernel⟩
abbrev st__law_pick : Stmt := top 33
theorem sc__law_pick : FnScope ["bag", "many", "number"] ["bag", "many"] (defScope st__law_pick) := ⟨rfl, rfl, rfl, by decide +kernel, rfl, by decide +kernel, by decide +kernel⟩
abbrev st__law_some : Stmt := top 34
theorem sc__law_some : FnScope ["bag", "things"] ["bag", "things"] (defScope st__law_some) := ⟨rfl, rfl, rfl, by decide +kernel, rfl, by decide +kernel, by decide +kernel⟩
abbrev st__law_made : Stmt := top 35
theorem sc__law_made : FnScope ["figure", "strain", "doubles", "is_hurt", "more", "each", "below", "found", "one_more"] ["figure", "strain", "doubles", "is_hurt", "more"] (defScope st__law_made) := ⟨rfl, rfl, rfl, by decide +kernel, rfl, by decide +kernel, by decide +kernel⟩
abbrev st__law_down : Stmt := top 36
theorem sc__law_down : FnScope ["doubles", "is_hurt", "less", "whole", "trick"] ["doubles", "is_hurt", "less"] (defScope st__law_down) := ⟨rfl, rfl, rfl, by decide +kernel, rfl, by decide +kernel, by decide +kernel⟩
abbrev st__law_score : Stmt := top 37
theorem sc__law_score : FnScope ["figure", "strain", "doubles", "is_hurt", "tricks", "due"] ["figure", "strain", "doubles", "is_hurt", "tricks"] (defScope st__law_score) := ⟨rfl, rfl, rfl, by decide +kernel, rfl, by decide +kernel, by decide +kernel⟩
abbrev st__law_is_right : Stmt := top 38
theorem sc__law_is_right : FnScope ["bag", "figure", "strain", "doubles", "is_hurt", "tricks", "told", "plain"] ["bag"] (defScope st__law_is_right) := ⟨rfl, rfl, rfl, by decide +kernel, rfl, by decide +kernel, by decide +kernel⟩
abbrev st__law_word : Stmt := top 39
theorem sc__law_word : FnScope ["call", "word", "error", "flags"] ["call"] (defScope st__law_word) := ⟨rfl, rfl, rfl, by decide +kernel, rfl, by decide +kernel, by decide +kernel⟩
abbrev st__law_are_refused : Stmt := top 40
theorem sc__law_are_refused : FnScope ["bag", "figure", "strain", "doubles", "flag", "tricks", "words"] ["bag"] (defScope st__law_are_refused) := ⟨rfl, rfl, rfl, by decide +kernel, rfl, by decide +kernel, by decide +kernel⟩
abbrev st_law : Stmt := top 41
theorem sc_law : FnScope ["script", "bag", "known", "lap"] ["script"] (defScope st_law) := ⟨rfl, rfl, rfl, by decide +kernel, rfl, by decide +kernel, by decide +kernel⟩
structure Fx (G : Gl) where
  F_is_integer : FnF G "is_integer" st_is_integer ["thing"]
  F_is_within : FnF G "is_within" st_is_within ["thing", "least", "most"]
  F_is_strain : FnF G "is_strain" st_is_strain ["thing"]
  F_check_flag : FnF G "check_flag" st_check_flag ["flag"]
  F_trick_worth : FnF G "trick_worth" st_trick_worth ["strain"]
  F_doubled_by : FnF G "doubled_by" st_doubled_by ["worth", "times"]
  F_told_worth : FnF G "told_worth" st_told_worth ["figure", "strain", "times"]
  F_slam_worth : FnF G "slam_worth" st_slam_worth ["figure", "is_hurt"]
  F_over_worth : FnF G "over_worth" st_over_worth ["strain", "times", "is_hurt", "many"]
  F_made_score : FnF G "made_score" st_made_score ["figure", "strain", "times", "is_hurt", "tricks"]
  F_down_cost : FnF G "down_cost" st_down_cost ["times", "is_hurt", "many"]
  F_raw_score : FnF G "raw_score" st_raw_score ["figure", "strain", "times", "is_hurt", "tricks"]
  F_contract_score : FnF G "contract_score" st_contract_score ["figure", "strain", "times", "is_hurt", "tricks"]
  F__law_bag : FnF G "_law_bag" st__law_bag ["script"]
  F__law_pick : FnF G "_law_pick" st__law_pick ["bag", "many"]
  F__law_some : FnF G "_law_some" st__law_some ["bag", "things"]
  F__law_made : FnF G "_law_made" st__law_made ["figure", "strain", "doubles", "is_hurt", "more"]
  F__law_down : FnF G "_law_down" st__law_down ["doubles", "is_hurt", "less"]
  F__law_score : FnF G "_law_score" st__law_score ["figure", "strain", "doubles", "is_hurt", "tricks"]
  F__law_is_right : FnF G "_law_is_right" st__law_is_right ["bag"]
  F__law_word : FnF G "_law_word" st__law_word ["call"]
  F__law_are_refused : FnF G "_law_are_refused" st__law_are_refused ["bag"]
  F_law : FnF G "law" st_law ["script"]
  con_BOOK : ConF G "BOOK" con_BOOK
  con_GAME : ConF G "GAME" con_GAME
  con_MINORS : ConF G "MINORS" con_MINORS
  con_MOST_FIGURE : ConF G "MOST_FIGURE" con_MOST_FIGURE
  con_MOST_TIMES : ConF G "MOST_TIMES" con_MOST_TIMES
  con_MOST_TRICKS : ConF G "MOST_TRICKS" con_MOST_TRICKS
  con_NO_TRUMP : ConF G "NO_TRUMP" con_NO_TRUMP
  con_SMALL_SLAM : ConF G "SMALL_SLAM" con_SMALL_SLAM
  con_STRAINS : ConF G "STRAINS" con_STRAINS
  ec_CardError : EcF G "CardError" 0
  ec_NoFlag : EcF G "NoFlag" 1
  ec_NoFigure : EcF G "NoFigure" 2
  ec_NoStrain : EcF G "NoStrain" 3
  ec_NoTimes : EcF G "NoTimes" 4
  ec_NoTricks : EcF G "NoTricks" 5
  fr_ValueError : G.mg "ValueError" = none
  fr_abs : G.mg "abs" = none
  fr_all : G.mg "all" = none
  fr_bool : G.mg "bool" = none
  fr_int : G.mg "int" = none
  fr_isinstance : G.mg "isinstance" = none
  fr_len : G.mg "len" = none
  fr_list : G.mg "list" = none
  fr_range : G.mg "range" = none
  fr_str : G.mg "str" = none
  ecs : ∀ c, c < 6 → ExcC G.K (G.ca c)
  kt : ∀ c y, c < 6 → y < 6 → PySem.W.kitOne G.K (.ref (G.ca c)) (.ref (G.ca y)) = some (subc c y)
  kv_ValueError : ∀ c, c < 6 → PySem.W.kitOne G.K (.ref (G.ca c)) (.type "ValueError") = some (subV_ValueError c)
  xm_CardError : ∀ c b, ctc c = some b → PySem.W.exmOne G.K (.ref (G.ca c)) (.ref (G.ca 0)) = some b
  cc__law_are_refused : Addr
  P__law_are_refused : Addr
  tb__law_are_refused : LamX.TabB G.base G.mg cc__law_are_refused P__law_are_refused
  hc__law_are_refused : F__law_are_refused.fd.code = .ref cc__law_are_refused
  hm__law_are_refused : (P__law_are_refused, ("_law_are_refused" : Str) ++ ".<locals>." ++ "<lambda>") ∈ G.T
  hu__law_are_refused : ∀ p ∈ G.T, p.1 = P__law_are_refused → p.2 = ("_law_are_refused" : Str) ++ ".<locals>." ++ "<lambda>"
section
variable {G : Gl}
def s_is_integer : Ev.Env → RS :=
  (retS (andE (conE [.b 0] (isiS .int)) (notE (conE [.b 0] (isiS .bool)))))
def sem_is_integer : Fn := runF 1 false s_is_integer
theorem ok_is_integer (F : Fx G) : F.F_is_integer.Ok 1 sem_is_integer := F.F_is_integer.ok (io := false) (by decide) sc_is_integer fun A outer s H vs E hr =>
  (pss_oneS (ps_retS (pe_andE (W := (WEx E)) (pe_isi (W := (WEx E)) (t := .int) rfl (by rfl) F.fr_isinstance (pe_var (i := 0) rfl (.inl rfl)) (pe_bltn (by rfl) F.fr_int (by rfl) rfl)) (pe_one (pe_notE (W := (WEx E)) (pe_isi (W := (WEx E)) (t := .bool) rfl (by rfl) F.fr_isinstance (pe_var (i := 0) rfl (.inl rfl)) (pe_bltn (by rfl) F.fr_bool (by rfl) rfl)))))))
def s_is_within : Ev.Env → RS :=
  (retS (andE (callE sem_is_integer [(getE 0)]) (chainE (.b 1) (.b 0) (.b 2) leS leS)))
def sem_is_within : Fn := runF 3 false s_is_within
theorem ok_is_within (F : Fx G) : F.F_is_within.Ok 2 sem_is_within := F.F_is_within.ok (io := false) (by decide) sc_is_within fun A outer s H vs E hr =>
  (pss_oneS (ps_retS (pe_andE (W := (WEx E)) (pCall (W := (WEx E)) F.F_is_integer (ok_is_integer F) ⟨rfl, rfl, rfl, rfl, rfl⟩ rfl (takes_of rfl rfl rfl rfl) (hr.mono (by decide)) (by rfl) (paC (oX (pE (W := (WEx E)) (fun _ => rfl) (pe_var (i := 0) rfl (.inl rfl)))) paN)) (pe_one (pe_chainE (W := (WEx E)) (opr_le (hu64 hr)) (opr_le (hu64 hr)) con_le con_le (pe_var (i := 1) rfl (.inl rfl)) (pe_var (i := 0) rfl (.inl rfl)) (pe_var (i := 2) rfl (.inl rfl)))))))
def s_is_strain : Ev.Env → RS :=
  (retS (andE (conE [.b 0] (isiS .str)) (conE [.b 0, .e (cE con_STRAINS)] inS)))
def sem_is_strain : Fn := runF 1 false s_is_strain
theorem ok_is_strain (F : Fx G) : F.F_is_strain.Ok 1 sem_is_strain := F.F_is_strain.ok (io := false) (by decide) sc_is_strain fun A outer s H vs E hr =>
  (pss_oneS (ps_retS (pe_andE (W := (WEx E)) (pe_isi (W := (WEx E)) (t := .str) rfl (by rfl) F.fr_isinstance (pe_var (i := 0) rfl (.inl rfl)) (pe_bltn (by rfl) F.fr_str (by rfl) rfl)) (pe_one (pe_cmp2 (W := (WEx E)) (opr_in (hu65 hr)) con_in (pe_var (i := 0) rfl (.inl rfl)) (oX (pCon (W := (WEx E)) F.con_STRAINS rfl (by rfl))) (by rfl))))))
def s_check_flag : Ev.Env → RS :=
  (ifS (notT (tstE (conE [.b 0] (isiS .bool)))) (raiseS 1) nextS)
def sem_check_flag : Fn := runF 1 false s_check_flag
theorem ok_check_flag (F : Fx G) : F.F_check_flag.Ok 1 sem_check_flag := F.F_check_flag.ok (io := false) (by decide) sc_check_flag fun A outer s H vs E hr =>
  (pss_oneS (ps_ifS (pt_notT (pt_tst (pe_isi (W := (WEx E)) (t := .bool) rfl (by rfl) F.fr_isinstance (pe_var (i := 0) rfl (.inl rfl)) (pe_bltn (by rfl) F.fr_bool (by rfl) rfl)) (fun _ => rfl))) (pss_oneS (pRaise F.ec_NoFlag rfl rfl rfl (takes_of rfl rfl rfl rfl) (by rfl))) pss_nilS))
def s_trick_worth : Ev.Env → RS :=
  (retS (iteE (tstE (conE [.b 0, .e (cE con_MINORS)] inS)) (cE (.int 20)) (cE (.int 30))))
def sem_trick_worth : Fn := runF 1 false s_trick_worth
theorem ok_trick_worth (F : Fx G) : F.F_trick_worth.Ok 1 sem_trick_worth := F.F_trick_worth.ok (io := false) (by decide) sc_trick_worth fun A outer s H vs E hr =>
  (pss_oneS (ps_retS (pe_ite (W := (WEx E)) (pt_cmp2 (opr_in (hu65 hr)) con_in (pe_var (i := 0) rfl (.inl rfl)) (oX (pCon (W := (WEx E)) F.con_MINORS rfl (by rfl))) (by rfl)) (pInt (W := (WEx E))) (pInt (W := (WEx E))))))
def s_doubled_by : Ev.Env → RS :=
  (seqS (setS 2 (getE 0))
  (seqS (forS (rng1E (getE 1)) (tgN 3) (setS 2 (conE [.e (cE (.int 2)), .b 2] mulS)))
  (retS (mvE 2))))
def sem_doubled_by : Fn := runF 4 false s_doubled_by
theorem ok_doubled_by (F : Fx G) : F.F_doubled_by.Ok 1 sem_doubled_by := F.F_doubled_by.ok (io := false) (by decide) sc_doubled_by fun A outer s H vs E hr =>
  (pss_seq (ps_setS (i := 2) (wr_io (by decide)) sc_doubled_by.nd rfl (.inl rfl) (pE (W := (WEx E)) (fun _ => rfl) (pe_var (i := 0) rfl (.inl rfl))))
  (pss_seq (ps_forS (passes_of rfl) rfl (pi_rng1 (by rfl) F.fr_range (paC (oX (pE (W := (WEx E)) (fun _ => rfl) (pe_var (i := 1) rfl (.inl rfl)))) paN)) (pg_nameS (is := [3]) (by decide) (wr_io (by decide)) sc_doubled_by.nd rfl (.inl rfl)) (pss_oneS (ps_setS (i := 2) (wr_io (by decide)) sc_doubled_by.nd rfl (.inl rfl) (pe_two (W := (WEx E)) opr_mul con_mul (oX (pInt (W := (WEx E)))) (pe_var (i := 2) rfl (.inl rfl))))))
  (pss_oneS (ps_retS (pM (W := (WEx E)) (fun _ => rfl) (pe_var (i := 2) rfl (.inl rfl)))))))
def s_told_worth : Ev.Env → RS :=
  (seqS (setS 3 (iteE (tstE (conE [.b 1, .e (cE con_NO_TRUMP)] eqS)) (cE (.int 10)) (cE (.int 0))))
  (retS (callE sem_doubled_by [(conE [.e (conE [.b 0, .e (callE sem_trick_worth [(getE 1)])] mulS), .b 3] addS), (getE 2)])))
def sem_told_worth : Fn := runF 4 false s_told_worth
theorem ok_told_worth (F : Fx G) : F.F_told_worth.Ok 2 sem_told_worth := F.F_told_worth.ok (io := false) (by decide) sc_told_worth fun A outer s H vs E hr =>
  (pss_seq (ps_setS (i := 3) (wr_io (by decide)) sc_told_worth.nd rfl (.inl rfl) (pe_ite (W := (WEx E)) (pt_cmp2 (opr_eq (hu64 hr)) con_eq (pe_var (i := 1) rfl (.inl rfl)) (oX (pCon (W := (WEx E)) F.con_NO_TRUMP rfl (by rfl))) (by rfl)) (pInt (W := (WEx E))) (pInt (W := (WEx E)))))
  (pss_oneS (ps_retS (pCall (W := (WEx E)) F.F_doubled_by (ok_doubled_by F) ⟨rfl, rfl, rfl, rfl, rfl⟩ rfl (takes_of rfl rfl rfl rfl) (hr.mono (by decide)) (by rfl) (paC (oX (pe_two (W := (WEx E)) opr_add con_add (oX (pe_two (W := (WEx E)) opr_mul con_mul (pe_var (i := 0) rfl (.inl rfl)) (oX (pCall (W := (WEx E)) F.F_trick_worth (ok_trick_worth F) ⟨rfl, rfl, rfl, rfl, rfl⟩ rfl (takes_of rfl rfl rfl rfl) (hr.mono (by decide)) (by rfl) (paC (oX (pE (W := (WEx E)) (fun _ => rfl) (pe_var (i := 1) rfl (.inl rfl)))) paN))))) (pe_var (i := 3) rfl (.inl rfl)))) (paC (oX (pE (W := (WEx E)) (fun _ => rfl) (pe_var (i := 2) rfl (.inl rfl)))) paN))))))
def s_slam_worth : Ev.Env → RS :=
  (seqS (ifS (tstE (conE [.b 0, .e (cE con_SMALL_SLAM)] ltS)) (retS (cE (.int 0))) nextS)
  (seqS (setS 2 (iteE (tstE (getE 1)) (cE (.int 750)) (cE (.int 500))))
  (retS (iteE (tstE (conE [.b 0, .e (cE con_SMALL_SLAM)] eqS)) (getE 2) (conE [.e (cE (.int 2)), .b 2] mulS)))))
def sem_slam_worth : Fn := runF 3 false s_slam_worth
theorem ok_slam_worth (F : Fx G) : F.F_slam_worth.Ok 1 sem_slam_worth := F.F_slam_worth.ok (io := false) (by decide) sc_slam_worth fun A outer s H vs E hr =>
  (pss_seq (ps_ifS (pt_cmp2 (opr_lt (hu64 hr)) con_lt (pe_var (i := 0) rfl (.inl rfl)) (oX (pCon (W := (WEx E)) F.con_SMALL_SLAM rfl (by rfl))) (by rfl)) (pss_oneS (ps_retS (pInt (W := (WEx E))))) pss_nilS)
  (pss_seq (ps_setS (i := 2) (wr_io (by decide)) sc_slam_worth.nd rfl (.inl rfl) (pe_ite (W := (WEx E)) (pt_tst (pE (W := (WEx E)) (fun _ => rfl) (pe_var (i := 1) rfl (.inl rfl))) (fun _ => rfl)) (pInt (W := (WEx E))) (pInt (W := (WEx E)))))
  (pss_oneS (ps_retS (pe_ite (W := (WEx E)) (pt_cmp2 (opr_eq (hu64 hr)) con_eq (pe_var (i := 0) rfl (.inl rfl)) (oX (pCon (W := (WEx E)) F.con_SMALL_SLAM rfl (by rfl))) (by rfl)) (pE (W := (WEx E)) (fun _ => rfl) (pe_var (i := 2) rfl (.inl rfl))) (pe_two (W := (WEx E)) opr_mul con_mul (oX (pInt (W := (WEx E)))) (pe_var (i := 2) rfl (.inl rfl))))))))
def s_over_worth : Ev.Env → RS :=
  (seqS (ifS (tstE (conE [.b 1, .e (cE (.int 0))] eqS)) (retS (conE [.b 3, .e (callE sem_trick_worth [(getE 0)])] mulS)) nextS)
  (retS (conE [.b 3, .e (callE sem_doubled_by [(iteE (tstE (getE 2)) (cE (.int 200)) (cE (.int 100))), (conE [.b 1, .e (cE (.int 1))] subS)])] mulS)))
def sem_over_worth : Fn := runF 4 false s_over_worth
theorem ok_over_worth (F : Fx G) : F.F_over_worth.Ok 2 sem_over_worth := F.F_over_worth.ok (io := false) (by decide) sc_over_worth fun A outer s H vs E hr =>
  (pss_seq (ps_ifS (pt_cmp2 (opr_eq (hu64 hr)) con_eq (pe_var (i := 1) rfl (.inl rfl)) (oX (pInt (W := (WEx E)))) (by rfl)) (pss_oneS (ps_retS (pe_two (W := (WEx E)) opr_mul con_mul (pe_var (i := 3) rfl (.inl rfl)) (oX (pCall (W := (WEx E)) F.F_trick_worth (ok_trick_worth F) ⟨rfl, rfl, rfl, rfl, rfl⟩ rfl (takes_of rfl rfl rfl rfl) (hr.mono (by decide)) (by rfl) (paC (oX (pE (W := (WEx E)) (fun _ => rfl) (pe_var (i := 0) rfl (.inl rfl)))) paN)))))) pss_nilS)
  (pss_oneS (ps_retS (pe_two (W := (WEx E)) opr_mul con_mul (pe_var (i := 3) rfl (.inl rfl)) (oX (pCall (W := (WEx E)) F.F_doubled_by (ok_doubled_by F) ⟨rfl, rfl, rfl, rfl, rfl⟩ rfl (takes_of rfl rfl rfl rfl) (hr.mono (by decide)) (by rfl) (paC (oX (pe_ite (W := (WEx E)) (pt_tst (pE (W := (WEx E)) (fun _ => rfl) (pe_var (i := 2) rfl (.inl rfl))) (fun _ => rfl)) (pInt (W := (WEx E))) (pInt (W := (WEx E))))) (paC (oX (pe_two (W := (WEx E)) op_sub con_sub (pe_var (i := 1) rfl (.inl rfl)) (oX (pInt (W := (WEx E)))))) paN))))))))
def s_made_score : Ev.Env → RS :=
  (seqS (setS 5 (callE sem_told_worth [(getE 0), (getE 1), (getE 2)]))
  (seqS (setS 6 (conE [.e (conE [.b 5, .e (callE sem_slam_worth [(getE 0), (getE 3)])] addS), .e (callE sem_over_worth [(getE 1), (getE 2), (getE 3), (conE [.e (conE [.b 4, .b 0] subS), .e (cE con_BOOK)] subS)])] addS))
  (seqS (ifS (tstE (conE [.b 5, .e (cE con_GAME)] ltS)) (setS 6 (conE [.b 6, .e (cE (.int 50))] addS)) (setS 6 (conE [.b 6, .e (iteE (tstE (getE 3)) (cE (.int 500)) (cE (.int 300)))] addS)))
  (retS (iteE (tstE (conE [.b 2, .e (cE (.int 0))] eqS)) (getE 6) (conE [.b 6, .e (conE [.e (cE (.int 50)), .b 2] mulS)] addS))))))
def sem_made_score : Fn := runF 7 false s_made_score
theorem ok_made_score (F : Fx G) : F.F_made_score.Ok 3 sem_made_score := F.F_made_score.ok (io := false) (by decide) sc_made_score fun A outer s H vs E hr =>
  (pss_seq (ps_setS (i := 5) (wr_io (by decide)) sc_made_score.nd rfl (.inl rfl) (pCall (W := (WEx E)) F.F_told_worth (ok_told_worth F) ⟨rfl, rfl, rfl, rfl, rfl⟩ rfl (takes_of rfl rfl rfl rfl) (hr.mono (by decide)) (by rfl) (paC (oX (pE (W := (WEx E)) (fun _ => rfl) (pe_var (i := 0) rfl (.inl rfl)))) (paC (oX (pE (W := (WEx E)) (fun _ => rfl) (pe_var (i := 1) rfl (.inl rfl)))) (paC (oX (pE (W := (WEx E)) (fun _ => rfl) (pe_var (i := 2) rfl (.inl rfl)))) paN)))))
  (pss_seq (ps_setS (i := 6) (wr_io (by decide)) sc_made_score.nd rfl (.inl rfl) (pe_two (W := (WEx E)) opr_add con_add (oX (pe_two (W := (WEx E)) opr_add con_add (pe_var (i := 5) rfl (.inl rfl)) (oX (pCall (W := (WEx E)) F.F_slam_worth (ok_slam_worth F) ⟨rfl, rfl, rfl, rfl, rfl⟩ rfl (takes_of rfl rfl rfl rfl) (hr.mono (by decide)) (by rfl) (paC (oX (pE (W := (WEx E)) (fun _ => rfl) (pe_var (i := 0) rfl (.inl rfl)))) (paC (oX (pE (W := (WEx E)) (fun _ => rfl) (pe_var (i := 3) rfl (.inl rfl)))) paN)))))) (oX (pCall (W := (WEx E)) F.F_over_worth (ok_over_worth F) ⟨rfl, rfl, rfl, rfl, rfl⟩ rfl (takes_of rfl rfl rfl rfl) (hr.mono (by decide)) (by rfl) (paC (oX (pE (W := (WEx E)) (fun _ => rfl) (pe_var (i := 1) rfl (.inl rfl)))) (paC (oX (pE (W := (WEx E)) (fun _ => rfl) (pe_var (i := 2) rfl (.inl rfl)))) (paC (oX (pE (W := (WEx E)) (fun _ => rfl) (pe_var (i := 3) rfl (.inl rfl)))) (paC (oX (pe_two (W := (WEx E)) op_sub con_sub (oX (pe_two (W := (WEx E)) op_sub con_sub (pe_var (i := 4) rfl (.inl rfl)) (pe_var (i := 0) rfl (.inl rfl)))) (oX (pCon (W := (WEx E)) F.con_BOOK rfl (by rfl))))) paN))))))))
  (pss_seq (ps_ifS (pt_cmp2 (opr_lt (hu64 hr)) con_lt (pe_var (i := 5) rfl (.inl rfl)) (oX (pCon (W := (WEx E)) F.con_GAME rfl (by rfl))) (by rfl)) (pss_oneS (ps_setS (i := 6) (wr_io (by decide)) sc_made_score.nd rfl (.inl rfl) (pe_two (W := (WEx E)) opr_add con_add (pe_var (i := 6) rfl (.inl rfl)) (oX (pInt (W := (WEx E))))))) (pss_oneS (ps_setS (i := 6) (wr_io (by decide)) sc_made_score.nd rfl (.inl rfl) (pe_two (W := (WEx E)) opr_add con_add (pe_var (i := 6) rfl (.inl rfl)) (oX (pe_ite (W := (WEx E)) (pt_tst (pE (W := (WEx E)) (fun _ => rfl) (pe_var (i := 3) rfl (.inl rfl))) (fun _ => rfl)) (pInt (W := (WEx E))) (pInt (W := (WEx E)))))))))
  (pss_oneS (ps_retS (pe_ite (W := (WEx E)) (pt_cmp2 (opr_eq (hu64 hr)) con_eq (pe_var (i := 2) rfl (.inl rfl)) (oX (pInt (W := (WEx E)))) (by rfl)) (pE (W := (WEx E)) (fun _ => rfl) (pe_var (i := 6) rfl (.inl rfl))) (pe_two (W := (WEx E)) opr_add con_add (pe_var (i := 6) rfl (.inl rfl)) (oX (pe_two (W := (WEx E)) opr_mul con_mul (oX (pInt (W := (WEx E)))) (pe_var (i := 2) rfl (.inl rfl)))))))))))
def s_down_cost : Ev.Env → RS :=
  (seqS (ifS (tstE (conE [.b 0, .e (cE (.int 0))] eqS)) (retS (conE [.b 2, .e (iteE (tstE (getE 1)) (cE (.int 100)) (cE (.int 50)))] mulS)) nextS)
  (seqS (setS 3 (cE (.int 0)))
  (seqS (forS (rng1E (getE 2)) (tgN 4) (ifS (tstE (conE [.b 4, .e (cE (.int 0))] eqS)) (setS 3 (conE [.b 3, .e (iteE (tstE (getE 1)) (cE (.int 200)) (cE (.int 100)))] addS)) (ifS (andT (tstE (conE [.b 4, .e (cE (.int 3))] ltS)) (notT (tstE (getE 1)))) (setS 3 (conE [.b 3, .e (cE (.int 200))] addS)) (setS 3 (conE [.b 3, .e (cE (.int 300))] addS)))))
  (retS (callE sem_doubled_by [(getE 3), (conE [.b 0, .e (cE (.int 1))] subS)])))))
def sem_down_cost : Fn := runF 5 false s_down_cost
theorem ok_down_cost (F : Fx G) : F.F_down_cost.Ok 2 sem_down_cost := F.F_down_cost.ok (io := false) (by decide) sc_down_cost fun A outer s H vs E hr =>
  (pss_seq (ps_ifS (pt_cmp2 (opr_eq (hu64 hr)) con_eq (pe_var (i := 0) rfl (.inl rfl)) (oX (pInt (W := (WEx E)))) (by rfl)) (pss_oneS (ps_retS (pe_two (W := (WEx E)) opr_mul con_mul (pe_var (i := 2) rfl (.inl rfl)) (oX (pe_ite (W := (WEx E)) (pt_tst (pE (W := (WEx E)) (fun _ => rfl) (pe_var (i := 1) rfl (.inl rfl))) (fun _ => rfl)) (pInt (W := (WEx E))) (pInt (W := (WEx E)))))))) pss_nilS)
  (pss_seq (ps_setS (i := 3) (wr_io (by decide)) sc_down_cost.nd rfl (.inl rfl) (pInt (W := (WEx E))))
  (pss_seq (ps_forS (passes_of rfl) rfl (pi_rng1 (by rfl) F.fr_range (paC (oX (pE (W := (WEx E)) (fun _ => rfl) (pe_var (i := 2) rfl (.inl rfl)))) paN)) (pg_nameS (is := [4]) (by decide) (wr_io (by decide)) sc_down_cost.nd rfl (.inl rfl)) (pss_oneS (ps_ifS (pt_cmp2 (opr_eq (hu64 hr)) con_eq (pe_var (i := 4) rfl (.inl rfl)) (oX (pInt (W := (WEx E)))) (by rfl)) (pss_oneS (ps_setS (i := 3) (wr_io (by decide)) sc_down_cost.nd rfl (.inl rfl) (pe_two (W := (WEx E)) opr_add con_add (pe_var (i := 3) rfl (.inl rfl)) (oX (pe_ite (W := (WEx E)) (pt_tst (pE (W := (WEx E)) (fun _ => rfl) (pe_var (i := 1) rfl (.inl rfl))) (fun _ => rfl)) (pInt (W := (WEx E))) (pInt (W := (WEx E)))))))) (pss_oneS (ps_ifS (PW.pt (pw_andT (pt_cmp2 (opr_lt (hu64 hr)) con_lt (pe_var (i := 4) rfl (.inl rfl)) (oX (pInt (W := (WEx E)))) (by rfl)) (pw_and1 (pt_notT (pt_tst (pE (W := (WEx E)) (fun _ => rfl) (pe_var (i := 1) rfl (.inl rfl))) (fun _ => rfl)))))) (pss_oneS (ps_setS (i := 3) (wr_io (by decide)) sc_down_cost.nd rfl (.inl rfl) (pe_two (W := (WEx E)) opr_add con_add (pe_var (i := 3) rfl (.inl rfl)) (oX (pInt (W := (WEx E))))))) (pss_oneS (ps_setS (i := 3) (wr_io (by decide)) sc_down_cost.nd rfl (.inl rfl) (pe_two (W := (WEx E)) opr_add con_add (pe_var (i := 3) rfl (.inl rfl)) (oX (pInt (W := (WEx E))))))))))))
  (pss_oneS (ps_retS (pCall (W := (WEx E)) F.F_doubled_by (ok_doubled_by F) ⟨rfl, rfl, rfl, rfl, rfl⟩ rfl (takes_of rfl rfl rfl rfl) (hr.mono (by decide)) (by rfl) (paC (oX (pE (W := (WEx E)) (fun _ => rfl) (pe_var (i := 3) rfl (.inl rfl)))) (paC (oX (pe_two (W := (WEx E)) op_sub con_sub (pe_var (i := 0) rfl (.inl rfl)) (oX (pInt (W := (WEx E)))))) paN))))))))
def s_raw_score : Ev.Env → RS :=
  (seqS (ifS (tstE (conE [.b 4, .e (conE [.b 0, .e (cE con_BOOK)] addS)] geS)) (retS (callE sem_made_score [(getE 0), (getE 1), (getE 2), (getE 3), (getE 4)])) nextS)
  (retS (conE [.e (cE (.int 0)), .e (callE sem_down_cost [(getE 2), (getE 3), (conE [.e (conE [.b 0, .e (cE con_BOOK)] addS), .b 4] subS)])] subS)))
def sem_raw_score : Fn := runF 5 false s_raw_score
theorem ok_raw_score (F : Fx G) : F.F_raw_score.Ok 4 sem_raw_score := F.F_raw_score.ok (io := false) (by decide) sc_raw_score fun A outer s H vs E hr =>
  (pss_seq (ps_ifS (pt_cmp2 (opr_ge (hu64 hr)) con_ge (pe_var (i := 4) rfl (.inl rfl)) (oX (pe_two (W := (WEx E)) opr_add con_add (pe_var (i := 0) rfl (.inl rfl)) (oX (pCon (W := (WEx E)) F.con_BOOK rfl (by rfl))))) (by rfl)) (pss_oneS (ps_retS (pCall (W := (WEx E)) F.F_made_score (ok_made_score F) ⟨rfl, rfl, rfl, rfl, rfl⟩ rfl (takes_of rfl rfl rfl rfl) (hr.mono (by decide)) (by rfl) (paC (oX (pE (W := (WEx E)) (fun _ => rfl) (pe_var (i := 0) rfl (.inl rfl)))) (paC (oX (pE (W := (WEx E)) (fun _ => rfl) (pe_var (i := 1) rfl (.inl rfl)))) (paC (oX (pE (W := (WEx E)) (fun _ => rfl) (pe_var (i := 2) rfl (.inl rfl)))) (paC (oX (pE (W := (WEx E)) (fun _ => rfl) (pe_var (i := 3) rfl (.inl rfl)))) (paC (oX (pE (W := (WEx E)) (fun _ => rfl) (pe_var (i := 4) rfl (.inl rfl)))) paN)))))))) pss_nilS)
  (pss_oneS (ps_retS (pe_two (W := (WEx E)) op_sub con_sub (oX (pInt (W := (WEx E)))) (oX (pCall (W := (WEx E)) F.F_down_cost (ok_down_cost F) ⟨rfl, rfl, rfl, rfl, rfl⟩ rfl (takes_of rfl rfl rfl rfl) (hr.mono (by decide)) (by rfl) (paC (oX (pE (W := (WEx E)) (fun _ => rfl) (pe_var (i := 2) rfl (.inl rfl)))) (paC (oX (pE (W := (WEx E)) (fun _ => rfl) (pe_var (i := 3) rfl (.inl rfl)))) (paC (oX (pe_two (W := (WEx E)) op_sub con_sub (oX (pe_two (W := (WEx E)) opr_add con_add (pe_var (i := 0) rfl (.inl rfl)) (oX (pCon (W := (WEx E)) F.con_BOOK rfl (by rfl))))) (pe_var (i := 4) rfl (.inl rfl)))) paN)))))))))
def s_contract_score : Ev.Env → RS :=
  (seqS (ifS (notT (tstE (callE sem_is_within [(getE 0), (cE (.int 1)), (cE con_MOST_FIGURE)]))) (raiseS 2) nextS)
  (seqS (ifS (notT (tstE (callE sem_is_strain [(getE 1)]))) (raiseS 3) nextS)
  (seqS (ifS (notT (tstE (callE sem_is_within [(getE 2), (cE (.int 0)), (cE con_MOST_TIMES)]))) (raiseS 4) nextS)
  (seqS (exprS (callE sem_check_flag [(getE 3)]))
  (seqS (ifS (notT (tstE (callE sem_is_within [(getE 4), (cE (.int 0)), (cE con_MOST_TRICKS)]))) (raiseS 5) nextS)
  (retS (callE sem_raw_score [(getE 0), (getE 1), (getE 2), (getE 3), (getE 4)])))))))
def sem_contract_score : Fn := runF 5 false s_contract_score
theorem ok_contract_score (F : Fx G) : F.F_contract_score.Ok 5 sem_contract_score := F.F_contract_score.ok (io := false) (by decide) sc_contract_score fun A outer s H vs E hr =>
  (pss_seq (ps_ifS (pt_notT (pt_tst (pCall (W := (WEx E)) F.F_is_within (ok_is_within F) ⟨rfl, rfl, rfl, rfl, rfl⟩ rfl (takes_of rfl rfl rfl rfl) (hr.mono (by decide)) (by rfl) (paC (oX (pE (W := (WEx E)) (fun _ => rfl) (pe_var (i := 0) rfl (.inl rfl)))) (paC (oX (pInt (W := (WEx E)))) (paC (oX (pCon (W := (WEx E)) F.con_MOST_FIGURE rfl (by rfl))) paN)))) (fun _ => rfl))) (pss_oneS (pRaise F.ec_NoFigure rfl rfl rfl (takes_of rfl rfl rfl rfl) (by rfl))) pss_nilS)
  (pss_seq (ps_ifS (pt_notT (pt_tst (pCall (W := (WEx E)) F.F_is_strain (ok_is_strain F) ⟨rfl, rfl, rfl, rfl, rfl⟩ rfl (takes_of rfl rfl rfl rfl) (hr.mono (by decide)) (by rfl) (paC (oX (pE (W := (WEx E)) (fun _ => rfl) (pe_var (i := 1) rfl (.inl rfl)))) paN)) (fun _ => rfl))) (pss_oneS (pRaise F.ec_NoStrain rfl rfl rfl (takes_of rfl rfl rfl rfl) (by rfl))) pss_nilS)
  (pss_seq (ps_ifS (pt_notT (pt_tst (pCall (W := (WEx E)) F.F_is_within (ok_is_within F) ⟨rfl, rfl, rfl, rfl, rfl⟩ rfl (takes_of rfl rfl rfl rfl) (hr.mono (by decide)) (by rfl) (paC (oX (pE (W := (WEx E)) (fun _ => rfl) (pe_var (i := 2) rfl (.inl rfl)))) (paC (oX (pInt (W := (WEx E)))) (paC (oX (pCon (W := (WEx E)) F.con_MOST_TIMES rfl (by rfl))) paN)))) (fun _ => rfl))) (pss_oneS (pRaise F.ec_NoTimes rfl rfl rfl (takes_of rfl rfl rfl rfl) (by rfl))) pss_nilS)
  (pss_seq (ps_exprS (pCall (W := (WEx E)) F.F_check_flag (ok_check_flag F) ⟨rfl, rfl, rfl, rfl, rfl⟩ rfl (takes_of rfl rfl rfl rfl) (hr.mono (by decide)) (by rfl) (paC (oX (pE (W := (WEx E)) (fun _ => rfl) (pe_var (i := 3) rfl (.inl rfl)))) paN)))
  (pss_seq (ps_ifS (pt_notT (pt_tst (pCall (W := (WEx E)) F.F_is_within (ok_is_within F) ⟨rfl, rfl, rfl, rfl, rfl⟩ rfl (takes_of rfl rfl rfl rfl) (hr.mono (by decide)) (by rfl) (paC (oX (pE (W := (WEx E)) (fun _ => rfl) (pe_var (i := 4) rfl (.inl rfl)))) (paC (oX (pInt (W := (WEx E)))) (paC (oX (pCon (W := (WEx E)) F.con_MOST_TRICKS rfl (by rfl))) paN)))) (fun _ => rfl))) (pss_oneS (pRaise F.ec_NoTricks rfl rfl rfl (takes_of rfl rfl rfl rfl) (by rfl))) pss_nilS)
  (pss_oneS (ps_retS (pCall (W := (WEx E)) F.F_raw_score (ok_raw_score F) ⟨rfl, rfl, rfl, rfl, rfl⟩ rfl (takes_of rfl rfl rfl rfl) (hr.mono (by decide)) (by rfl) (paC (oX (pE (W := (WEx E)) (fun _ => rfl) (pe_var (i := 0) rfl (.inl rfl)))) (paC (oX (pE (W := (WEx E)) (fun _ => rfl) (pe_var (i := 1) rfl (.inl rfl)))) (paC (oX (pE (W := (WEx E)) (fun _ => rfl) (pe_var (i := 2) rfl (.inl rfl)))) (paC (oX (pE (W := (WEx E)) (fun _ => rfl) (pe_var (i := 3) rfl (.inl rfl)))) (paC (oX (pE (W := (WEx E)) (fun _ => rfl) (pe_var (i := 4) rfl (.inl rfl)))) paN)))))))))))))
def s__law_bag : Ev.Env → RS :=
  (seqS (setS 1 (lcE (seqE (slcE (.b 0) none (some (cE (.int 63))))) (tgN 3) (tstE (conE [.e (conE [.e (conE [.b 3] intS)] absS), .e (conE [.e (cE (.int 10)), .e (cE (.int 18))] powS)] geS)) (conE [.e (conE [.b 3] intS)] absS) [3]))
  (seqS (setS 2 (cE (.int 2039)))
  (seqS (forS (seqE (slcE (.b 0) none (some (cE (.int 63))))) (tgN 3) (setS 2 (conE [.e (conE [.e (conE [.e (conE [.e (conE [.e (conE [.b 2, .e (cE (.int 69621))] mulS), .e (conE [.e (conE [.e (conE [.b 3] intS)] absS), .e (cE (.int 2))] mulS)] addS), .e (conE [.e (conE [.e (conE [.b 3] intS), .e (cE (.int 0))] ltS)] intS)] addS), .e (cE (.int 17))] addS)] intS), .e (cE (.int 2147483629))] modS)))
  (retS (lstE [(mvE 1), (mvE 2), (conE [.b 0] lenS), (cE (.int 0))])))))
def sem__law_bag : Fn := runF 4 false s__law_bag
theorem ok__law_bag (F : Fx G) : F.F__law_bag.Ok 1 sem__law_bag := F.F__law_bag.ok (io := false) (by decide) sc__law_bag fun A outer s H vs E hr =>
  (pss_seq (ps_setLcS (i := 1) (own := [("cell", 3)]) (wr_io (by decide)) (hv1 (wr_io (by decide))) rfl sc__law_bag.nd rfl rfl (sw_true rfl rfl rfl (by decide +kernel)) (pi_seqE rfl (pe_slc (W := (WEx E)) rfl (pe_var (i := 0) rfl (.inl rfl)) po_none' (po_some' (pInt (W := (WEx E)))))) (blkOk_by (N := ["script", "great", "seed", "cell"]) (sc := defScope st__law_bag) (by decide +kernel)) (fun _ _ _ _ _ => (pg_nameS (is := (([("cell", 3)] : List (Str × Nat)).map (·.2))) (by decide) (wr_io (by decide)) sc__law_bag.nd rfl (.inl rfl))) (fun _ _ _ _ _ => (pts_oneS (pt_cmp2 (opr_ge (hu64 hr)) con_ge (oX (pe_bi (W := W0) call_abs con_abs (by rfl) F.fr_abs (by rfl) (paC (oX (pe_biT (W := W0) call_int1 con_int (by rfl) F.fr_int (by rfl) (paC (pe_var (i := 3) rfl (.inl rfl)) paN))) paN))) (oX (pe_two (W := W0) op_pow con_pow (oX (pInt (W := W0))) (oX (pInt (W := W0))))) (by rfl)))) (fun _ _ _ _ _ => (pe_bi (W := W0) call_abs con_abs (by rfl) F.fr_abs (by rfl) (paC (oX (pe_biT (W := W0) call_int1 con_int (by rfl) F.fr_int (by rfl) (paC (pe_var (i := 3) rfl (.inl rfl)) paN))) paN))))
  (pss_seq (ps_setS (i := 2) (wr_io (by decide)) sc__law_bag.nd rfl (.inl rfl) (pInt (W := (WEx E))))
  (pss_seq (ps_forS (passes_of rfl) rfl (pi_seqE rfl (pe_slc (W := (WEx E)) rfl (pe_var (i := 0) rfl (.inl rfl)) po_none' (po_some' (pInt (W := (WEx E)))))) (pg_nameS (is := [3]) (by decide) (wr_io (by decide)) sc__law_bag.nd rfl (.inl rfl)) (pss_oneS (ps_setS (i := 2) (wr_io (by decide)) sc__law_bag.nd rfl (.inl rfl) (pe_two (W := (WEx E)) op_modN con_mod (oX (pe_biT (W := (WEx E)) call_int1 con_int (by rfl) F.fr_int (by rfl) (paC (oX (pe_two (W := (WEx E)) opr_add con_add (oX (pe_two (W := (WEx E)) opr_add con_add (oX (pe_two (W := (WEx E)) opr_add con_add (oX (pe_two (W := (WEx E)) opr_mul con_mul (pe_var (i := 2) rfl (.inl rfl)) (oX (pInt (W := (WEx E)))))) (oX (pe_two (W := (WEx E)) opr_mul con_mul (oX (pe_bi (W := (WEx E)) call_abs con_abs (by rfl) F.fr_abs (by rfl) (paC (oX (pe_biT (W := (WEx E)) call_int1 con_int (by rfl) F.fr_int (by rfl) (paC (pe_var (i := 3) rfl (.inl rfl)) paN))) paN))) (oX (pInt (W := (WEx E)))))))) (oX (pe_biT (W := (WEx E)) call_int1 con_int (by rfl) F.fr_int (by rfl) (paC (oX (pe_cmp2 (W := (WEx E)) (opr_lt (hu64 hr)) con_lt (oX (pe_biT (W := (WEx E)) call_int1 con_int (by rfl) F.fr_int (by rfl) (paC (pe_var (i := 3) rfl (.inl rfl)) paN))) (oX (pInt (W := (WEx E)))) (by rfl))) paN))))) (oX (pInt (W := (WEx E)))))) paN))) (oX (pInt (W := (WEx E))))))))
  (pss_oneS (ps_retS (pLst (W := (WEx E)) (show 4 ≤ sizeLine by decide) (paC (oX (pM (W := (WEx E)) (fun _ => rfl) (pe_var (i := 1) rfl (.inl rfl)))) (paC (oX (pM (W := (WEx E)) (fun _ => rfl) (pe_var (i := 2) rfl (.inl rfl)))) (paC (oX (pe_bi (W := (WEx E)) call_len (con_len rfl) (by rfl) F.fr_len (by rfl) (paC (pe_var (i := 0) rfl (.inl rfl)) paN))) (paC (oX (pInt (W := (WEx E)))) paN))))))))))
def s__law_pick : Ev.Env → RS :=
  (seqS (ifS (tstE (conE [.e (conE [.b 0, .e (cE (.int 2))] idxS), .e (cE (.int 0))] eqS)) (retS (cE (.int 0))) nextS)
  (seqS (ifS (tstE (conE [.e (conE [.b 0, .e (cE (.int (0)))] (ixThen lenS)), .e (cE (.int 0))] gtS)) (seqS (setS 2 (conE [.b 0, .e (cE (.int (0))), .e (cE (.int (0)))] (ixThen idxS)))
  (seqS (setIx2S setM 0 0 (cE (.int 0)) (conE [.b 2, .b 1] divS))
  (seqS (ifS (tstE (conE [.b 2, .b 1] ltS)) (exprS (mut2E isLst popM 0 (cE (.int 0)) [(cE (.int 0))])) nextS)
  (retS (conE [.e (conE [.b 2] intS), .b 1] modS))))) nextS)
  (seqS (setIxS setM 0 (cE (.int 3)) (conE [.e (conE [.b 0, .e (cE (.int 3))] idxS), .e (cE (.int 1))] addS))
  (seqS (setS 2 (conE [.e (conE [.e (conE [.e (conE [.e (conE [.e (conE [.b 0, .e (cE (.int 1))] idxS), .e (conE [.e (cE (.int 7919)), .e (conE [.b 0, .e (cE (.int 3))] idxS)] mulS)] addS), .e (cE (.int 48271))] mulS), .e (cE (.int 11))] addS)] intS), .e (cE (.int 2147483647))] modS))
  (seqS (setS 2 (conE [.e (conE [.e (conE [.e (conE [.b 2, .e (conE [.e (conE [.b 2, .e (cE (.int 1009))] divS), .e (cE (.int 69621))] addS)] mulS), .e (conE [.b 0, .e (cE (.int 3))] idxS)] addS)] intS), .e (cE (.int 2147483399))] modS))
  (seqS (setIxS setM 0 (cE (.int 1)) (conE [.e (conE [.e (conE [.e (conE [.b 0, .e (cE (.int 1))] idxS), .b 2] addS)] intS), .e (cE (.int 2147483629))] modS))
  (retS (conE [.e (conE [.e (conE [.b 2, .e (cE (.int 16))] divS)] intS), .b 1] modS))))))))
def sem__law_pick : Fn := runF 3 true s__law_pick
theorem ok__law_pick (F : Fx G) : F.F__law_pick.Ok 1 sem__law_pick := F.F__law_pick.ok (io := true) (by decide) sc__law_pick fun A outer s H vs E hr =>
  (pss_seq (ps_ifS (pt_cmp2 (opr_eq (hu64 hr)) con_eq (oX (pe_idx (W := (WEx E)) rfl (pe_var (i := 0) rfl (.inl rfl)) (oX (pInt (W := (WEx E)))) (fun _ _ => rfl))) (oX (pInt (W := (WEx E)))) (by rfl)) (pss_oneS (ps_retS (pInt (W := (WEx E))))) pss_nilS)
  (pss_seq (ps_ifS (pt_cmp2 (opr_gt (hu64 hr)) con_gt (oX (pe_biIx (W := (WEx E)) (a := 0) call_len (con_len rfl) (by rfl) F.fr_len (by rfl) rfl (pe_var (i := 0) rfl (.inl rfl)) pe_int (fun _ _ => rfl))) (oX (pInt (W := (WEx E)))) (by rfl)) (pss_seq (ps_setS (i := 2) (wr_io (by decide)) sc__law_pick.nd rfl (.inl rfl) (pe_idx2 (W := (WEx E)) (a := 0) (b := 0) rfl (pe_var (i := 0) rfl (.inl rfl)) pe_int (fun _ _ => rfl) pe_int (fun _ _ => rfl)))
  (pss_seq (ps_setIx2 (a := 0) rfl (fun _ => rfl) sc_list set_list (pe_var (i := 0) rfl (.inl rfl)) pe_int (fun _ _ => rfl) (pInt (W := (WEx E))) (pe_two (W := (WEx E)) opr_div con_div (pe_var (i := 2) rfl (.inl rfl)) (pe_var (i := 1) rfl (.inl rfl))))
  (pss_seq (ps_ifS (pt_cmp2 (opr_lt (hu64 hr)) con_lt (pe_var (i := 2) rfl (.inl rfl)) (pe_var (i := 1) rfl (.inl rfl)) (by rfl)) (pss_oneS (ps_exprS (pe_mut2 (W := (WEx E)) rfl (fun _ => rfl) (mc_pop rfl) (lst_ty rfl) PySem.F.plainAttrs_list PySem.F.slot_list_pop PySem.F.type_list_pop mt_pop2 (pe_var (i := 0) rfl (.inl rfl)) (pInt (W := (WEx E))) (fun _ _ => rfl) (paC (oX (pInt (W := (WEx E)))) paN)))) pss_nilS)
  (pss_oneS (ps_retS (pe_two (W := (WEx E)) op_modN con_mod (oX (pe_biT (W := (WEx E)) call_int1 con_int (by rfl) F.fr_int (by rfl) (paC (pe_var (i := 2) rfl (.inl rfl)) paN))) (pe_var (i := 1) rfl (.inl rfl)))))))) pss_nilS)
  (pss_seq (ps_setIx (fun _ => rfl) sc_list set_list (pe_var (i := 0) rfl (.inl rfl)) (pInt (W := (WEx E))) (pe_two (W := (WEx E)) opr_add con_add (oX (pe_idx (W := (WEx E)) rfl (pe_var (i := 0) rfl (.inl rfl)) (oX (pInt (W := (WEx E)))) (fun _ _ => rfl))) (oX (pInt (W := (WEx E))))))
  (pss_seq (ps_setS (i := 2) (wr_io (by decide)) sc__law_pick.nd rfl (.inl rfl) (pe_two (W := (WEx E)) op_modN con_mod (oX (pe_biT (W := (WEx E)) call_int1 con_int (by rfl) F.fr_int (by rfl) (paC (oX (pe_two (W := (WEx E)) opr_add con_add (oX (pe_two (W := (WEx E)) opr_mul con_mul (oX (pe_two (W := (WEx E)) opr_add con_add (oX (pe_idx (W := (WEx E)) rfl (pe_var (i := 0) rfl (.inl rfl)) (oX (pInt (W := (WEx E)))) (fun _ _ => rfl))) (oX (pe_two (W := (WEx E)) opr_mul con_mul (oX (pInt (W := (WEx E)))) (oX (pe_idx (W := (WEx E)) rfl (pe_var (i := 0) rfl (.inl rfl)) (oX (pInt (W := (WEx E)))) (fun _ _ => rfl))))))) (oX (pInt (W := (WEx E)))))) (oX (pInt (W := (WEx E)))))) paN))) (oX (pInt (W := (WEx E))))))
  (pss_seq (ps_setS (i := 2) (wr_io (by decide)) sc__law_pick.nd rfl (.inl rfl) (pe_two (W := (WEx E)) op_modN con_mod (oX (pe_biT (W := (WEx E)) call_int1 con_int (by rfl) F.fr_int (by rfl) (paC (oX (pe_two (W := (WEx E)) opr_add con_add (oX (pe_two (W := (WEx E)) opr_mul con_mul (pe_var (i := 2) rfl (.inl rfl)) (oX (pe_two (W := (WEx E)) opr_add con_add (oX (pe_two (W := (WEx E)) opr_div con_div (pe_var (i := 2) rfl (.inl rfl)) (oX (pInt (W := (WEx E)))))) (oX (pInt (W := (WEx E)))))))) (oX (pe_idx (W := (WEx E)) rfl (pe_var (i := 0) rfl (.inl rfl)) (oX (pInt (W := (WEx E)))) (fun _ _ => rfl))))) paN))) (oX (pInt (W := (WEx E))))))
  (pss_seq (ps_setIx (fun _ => rfl) sc_list set_list (pe_var (i := 0) rfl (.inl rfl)) (pInt (W := (WEx E))) (pe_two (W := (WEx E)) op_modN con_mod (oX (pe_biT (W := (WEx E)) call_int1 con_int (by rfl) F.fr_int (by rfl) (paC (oX (pe_two (W := (WEx E)) opr_add con_add (oX (pe_idx (W := (WEx E)) rfl (pe_var (i := 0) rfl (.inl rfl)) (oX (pInt (W := (WEx E)))) (fun _ _ => rfl))) (pe_var (i := 2) rfl (.inl rfl)))) paN))) (oX (pInt (W := (WEx E))))))
  (pss_oneS (ps_retS (pe_two (W := (WEx E)) op_modN con_mod (oX (pe_biT (W := (WEx E)) call_int1 con_int (by rfl) F.fr_int (by rfl) (paC (oX (pe_two (W := (WEx E)) opr_div con_div (pe_var (i := 2) rfl (.inl rfl)) (oX (pInt (W := (WEx E)))))) paN))) (pe_var (i := 1) rfl (.inl rfl)))))))))))
def s__law_some : Ev.Env → RS :=
  (retS (conE [.b 1, .e (callIO sem__law_pick 0 [(conE [.b 1] lenS)])] idxS))
def sem__law_some : Fn := runF 2 true s__law_some
theorem ok__law_some (F : Fx G) : F.F__law_some.Ok 2 sem__law_some := F.F__law_some.ok (io := true) (by decide) sc__law_some fun A outer s H vs E hr =>
  (pss_oneS (ps_retS (pe_idx (W := (WEx E)) rfl (pe_var (i := 1) rfl (.inl rfl)) (oX (pCallIO (W := (WEx E)) F.F__law_pick (ok__law_pick F) ⟨rfl, rfl, rfl, rfl, rfl⟩ (fun _ => rfl) rfl (takes_of rfl rfl rfl rfl) (hr.mono (by decide)) (by rfl) (pe_var (i := 0) rfl (.inl rfl)) (paC (oX (pe_bi (W := (WEx E)) call_len (con_len rfl) (by rfl) F.fr_len (by rfl) (paC (pe_var (i := 1) rfl (.inl rfl)) paN))) paN))) (fun _ _ => rfl))))
def s__law_made : Ev.Env → RS :=
  (seqS (setS 5 (iteE (tstE (conE [.b 1, .e (tupE [(cE (.str "c")), (cE (.str "d"))])] inS)) (cE (.int 20)) (cE (.int 30))))
  (seqS (setS 6 (conE [.e (conE [.e (conE [.b 5, .b 0] mulS), .e (iteE (tstE (conE [.b 1, .e (cE (.str "n"))] eqS)) (cE (.int 10)) (cE (.int 0)))] addS), .e (conE [.e (tupE [(cE (.int 1)), (cE (.int 2)), (cE (.int 4))]), .b 2] idxS)] mulS))
  (seqS (setS 7 (conE [.b 6, .e (iteE (tstE (conE [.b 6, .e (cE (.int 100))] ltS)) (cE (.int 50)) (iteE (tstE (getE 3)) (cE (.int 500)) (cE (.int 300))))] addS))
  (seqS (ifS (tstE (conE [.b 0, .e (cE (.int 6))] eqS)) (setS 7 (conE [.b 7, .e (iteE (tstE (getE 3)) (cE (.int 750)) (cE (.int 500)))] addS)) nextS)
  (seqS (ifS (tstE (conE [.b 0, .e (cE (.int 7))] eqS)) (setS 7 (conE [.b 7, .e (iteE (tstE (getE 3)) (cE (.int 1500)) (cE (.int 1000)))] addS)) nextS)
  (seqS (setS 7 (conE [.b 7, .e (conE [.e (cE (.int 50)), .b 2] mulS)] addS))
  (seqS (setS 8 (iteE (tstE (conE [.b 2, .e (cE (.int 0))] eqS)) (getE 5) (conE [.e (conE [.e (cE (.int 100)), .b 2] mulS), .e (iteE (tstE (getE 3)) (cE (.int 2)) (cE (.int 1)))] mulS)))
  (retS (conE [.b 7, .e (conE [.b 4, .b 8] mulS)] addS)))))))))
def sem__law_made : Fn := runF 9 false s__law_made
theorem ok__law_made (F : Fx G) : F.F__law_made.Ok 1 sem__law_made := F.F__law_made.ok (io := false) (by decide) sc__law_made fun A outer s H vs E hr =>
  (pss_seq (ps_setS (i := 5) (wr_io (by decide)) sc__law_made.nd rfl (.inl rfl) (pe_ite (W := (WEx E)) (pt_cmp2 (opr_in (hu65 hr)) con_in (pe_var (i := 1) rfl (.inl rfl)) (oX (pTup (W := (WEx E)) (show 2 ≤ sizeLine by decide) (paC (oX (pStr (W := (WEx E)))) (paC (oX (pStr (W := (WEx E)))) paN)))) (by rfl)) (pInt (W := (WEx E))) (pInt (W := (WEx E)))))
  (pss_seq (ps_setS (i := 6) (wr_io (by decide)) sc__law_made.nd rfl (.inl rfl) (pe_two (W := (WEx E)) opr_mul con_mul (oX (pe_two (W := (WEx E)) opr_add con_add (oX (pe_two (W := (WEx E)) opr_mul con_mul (pe_var (i := 5) rfl (.inl rfl)) (pe_var (i := 0) rfl (.inl rfl)))) (oX (pe_ite (W := (WEx E)) (pt_cmp2 (opr_eq (hu64 hr)) con_eq (pe_var (i := 1) rfl (.inl rfl)) (oX (pStr (W := (WEx E)))) (by rfl)) (pInt (W := (WEx E))) (pInt (W := (WEx E))))))) (oX (pe_idx (W := (WEx E)) rfl (oX (pTup (W := (WEx E)) (show 3 ≤ sizeLine by decide) (paC (oX (pInt (W := (WEx E)))) (paC (oX (pInt (W := (WEx E)))) (paC (oX (pInt (W := (WEx E)))) paN))))) (pe_var (i := 2) rfl (.inl rfl)) (fun _ _ => rfl)))))
  (pss_seq (ps_setS (i := 7) (wr_io (by decide)) sc__law_made.nd rfl (.inl rfl) (pe_two (W := (WEx E)) opr_add con_add (pe_var (i := 6) rfl (.inl rfl)) (oX (pe_ite (W := (WEx E)) (pt_cmp2 (opr_lt (hu64 hr)) con_lt (pe_var (i := 6) rfl (.inl rfl)) (oX (pInt (W := (WEx E)))) (by rfl)) (pInt (W := (WEx E))) (pe_ite (W := (WEx E)) (pt_tst (pE (W := (WEx E)) (fun _ => rfl) (pe_var (i := 3) rfl (.inl rfl))) (fun _ => rfl)) (pInt (W := (WEx E))) (pInt (W := (WEx E))))))))
  (pss_seq (ps_ifS (pt_cmp2 (opr_eq (hu64 hr)) con_eq (pe_var (i := 0) rfl (.inl rfl)) (oX (pInt (W := (WEx E)))) (by rfl)) (pss_oneS (ps_setS (i := 7) (wr_io (by decide)) sc__law_made.nd rfl (.inl rfl) (pe_two (W := (WEx E)) opr_add con_add (pe_var (i := 7) rfl (.inl rfl)) (oX (pe_ite (W := (WEx E)) (pt_tst (pE (W := (WEx E)) (fun _ => rfl) (pe_var (i := 3) rfl (.inl rfl))) (fun _ => rfl)) (pInt (W := (WEx E))) (pInt (W := (WEx E)))))))) pss_nilS)
  (pss_seq (ps_ifS (pt_cmp2 (opr_eq (hu64 hr)) con_eq (pe_var (i := 0) rfl (.inl rfl)) (oX (pInt (W := (WEx E)))) (by rfl)) (pss_oneS (ps_setS (i := 7) (wr_io (by decide)) sc__law_made.nd rfl (.inl rfl) (pe_two (W := (WEx E)) opr_add con_add (pe_var (i := 7) rfl (.inl rfl)) (oX (pe_ite (W := (WEx E)) (pt_tst (pE (W := (WEx E)) (fun _ => rfl) (pe_var (i := 3) rfl (.inl rfl))) (fun _ => rfl)) (pInt (W := (WEx E))) (pInt (W := (WEx E)))))))) pss_nilS)
  (pss_seq (ps_setS (i := 7) (wr_io (by decide)) sc__law_made.nd rfl (.inl rfl) (pe_two (W := (WEx E)) opr_add con_add (pe_var (i := 7) rfl (.inl rfl)) (oX (pe_two (W := (WEx E)) opr_mul con_mul (oX (pInt (W := (WEx E)))) (pe_var (i := 2) rfl (.inl rfl))))))
  (pss_seq (ps_setS (i := 8) (wr_io (by decide)) sc__law_made.nd rfl (.inl rfl) (pe_ite (W := (WEx E)) (pt_cmp2 (opr_eq (hu64 hr)) con_eq (pe_var (i := 2) rfl (.inl rfl)) (oX (pInt (W := (WEx E)))) (by rfl)) (pE (W := (WEx E)) (fun _ => rfl) (pe_var (i := 5) rfl (.inl rfl))) (pe_two (W := (WEx E)) opr_mul con_mul (oX (pe_two (W := (WEx E)) opr_mul con_mul (oX (pInt (W := (WEx E)))) (pe_var (i := 2) rfl (.inl rfl)))) (oX (pe_ite (W := (WEx E)) (pt_tst (pE (W := (WEx E)) (fun _ => rfl) (pe_var (i := 3) rfl (.inl rfl))) (fun _ => rfl)) (pInt (W := (WEx E))) (pInt (W := (WEx E))))))))
  (pss_oneS (ps_retS (pe_two (W := (WEx E)) opr_add con_add (pe_var (i := 7) rfl (.inl rfl)) (oX (pe_two (W := (WEx E)) opr_mul con_mul (pe_var (i := 4) rfl (.inl rfl)) (pe_var (i := 8) rfl (.inl rfl))))))))))))))
def s__law_down : Ev.Env → RS :=
  (seqS (ifS (tstE (conE [.b 0, .e (cE (.int 0))] eqS)) (retS (conE [.e (cE (.int 0)), .e (conE [.b 2, .e (iteE (tstE (getE 1)) (cE (.int 100)) (cE (.int 50)))] mulS)] subS)) nextS)
  (seqS (setS 3 (cE (.int 0)))
  (seqS (forS (rng1E (getE 2)) (tgN 4) (ifS (tstE (getE 1)) (setS 3 (conE [.b 3, .e (iteE (tstE (conE [.b 4, .e (cE (.int 0))] eqS)) (cE (.int 200)) (cE (.int 300)))] addS)) (setS 3 (conE [.b 3, .e (iteE (tstE (conE [.b 4, .e (cE (.int 0))] eqS)) (cE (.int 100)) (iteE (tstE (conE [.b 4, .e (cE (.int 3))] ltS)) (cE (.int 200)) (cE (.int 300))))] addS))))
  (retS (conE [.e (cE (.int 0)), .e (conE [.b 3, .b 0] mulS)] subS)))))
def sem__law_down : Fn := runF 5 false s__law_down
theorem ok__law_down (F : Fx G) : F.F__law_down.Ok 1 sem__law_down := F.F__law_down.ok (io := false) (by decide) sc__law_down fun A outer s H vs E hr =>
  (pss_seq (ps_ifS (pt_cmp2 (opr_eq (hu64 hr)) con_eq (pe_var (i := 0) rfl (.inl rfl)) (oX (pInt (W := (WEx E)))) (by rfl)) (pss_oneS (ps_retS (pe_two (W := (WEx E)) op_sub con_sub (oX (pInt (W := (WEx E)))) (oX (pe_two (W := (WEx E)) opr_mul con_mul (pe_var (i := 2) rfl (.inl rfl)) (oX (pe_ite (W := (WEx E)) (pt_tst (pE (W := (WEx E)) (fun _ => rfl) (pe_var (i := 1) rfl (.inl rfl))) (fun _ => rfl)) (pInt (W := (WEx E))) (pInt (W := (WEx E)))))))))) pss_nilS)
  (pss_seq (ps_setS (i := 3) (wr_io (by decide)) sc__law_down.nd rfl (.inl rfl) (pInt (W := (WEx E))))
  (pss_seq (ps_forS (passes_of rfl) rfl (pi_rng1 (by rfl) F.fr_range (paC (oX (pE (W := (WEx E)) (fun _ => rfl) (pe_var (i := 2) rfl (.inl rfl)))) paN)) (pg_nameS (is := [4]) (by decide) (wr_io (by decide)) sc__law_down.nd rfl (.inl rfl)) (pss_oneS (ps_ifS (pt_tst (pE (W := (WEx E)) (fun _ => rfl) (pe_var (i := 1) rfl (.inl rfl))) (fun _ => rfl)) (pss_oneS (ps_setS (i := 3) (wr_io (by decide)) sc__law_down.nd rfl (.inl rfl) (pe_two (W := (WEx E)) opr_add con_add (pe_var (i := 3) rfl (.inl rfl)) (oX (pe_ite (W := (WEx E)) (pt_cmp2 (opr_eq (hu64 hr)) con_eq (pe_var (i := 4) rfl (.inl rfl)) (oX (pInt (W := (WEx E)))) (by rfl)) (pInt (W := (WEx E))) (pInt (W := (WEx E)))))))) (pss_oneS (ps_setS (i := 3) (wr_io (by decide)) sc__law_down.nd rfl (.inl rfl) (pe_two (W := (WEx E)) opr_add con_add (pe_var (i := 3) rfl (.inl rfl)) (oX (pe_ite (W := (WEx E)) (pt_cmp2 (opr_eq (hu64 hr)) con_eq (pe_var (i := 4) rfl (.inl rfl)) (oX (pInt (W := (WEx E)))) (by rfl)) (pInt (W := (WEx E))) (pe_ite (W := (WEx E)) (pt_cmp2 (opr_lt (hu64 hr)) con_lt (pe_var (i := 4) rfl (.inl rfl)) (oX (pInt (W := (WEx E)))) (by rfl)) (pInt (W := (WEx E))) (pInt (W := (WEx E))))))))))))
  (pss_oneS (ps_retS (pe_two (W := (WEx E)) op_sub con_sub (oX (pInt (W := (WEx E)))) (oX (pe_two (W := (WEx E)) opr_mul con_mul (pe_var (i := 3) rfl (.inl rfl)) (pe_var (i := 0) rfl (.inl rfl))))))))))
def s__law_score : Ev.Env → RS :=
  (seqS (setS 5 (conE [.b 0, .e (cE (.int 6))] addS))
  (seqS (ifS (tstE (conE [.b 4, .b 5] geS)) (retS (callE sem__law_made [(getE 0), (getE 1), (getE 2), (getE 3), (conE [.b 4, .b 5] subS)])) nextS)
  (retS (callE sem__law_down [(getE 2), (getE 3), (conE [.b 5, .b 4] subS)]))))
def sem__law_score : Fn := runF 6 false s__law_score
theorem ok__law_score (F : Fx G) : F.F__law_score.Ok 2 sem__law_score := F.F__law_score.ok (io := false) (by decide) sc__law_score fun A outer s H vs E hr =>
  (pss_seq (ps_setS (i := 5) (wr_io (by decide)) sc__law_score.nd rfl (.inl rfl) (pe_two (W := (WEx E)) opr_add con_add (pe_var (i := 0) rfl (.inl rfl)) (oX (pInt (W := (WEx E))))))
  (pss_seq (ps_ifS (pt_cmp2 (opr_ge (hu64 hr)) con_ge (pe_var (i := 4) rfl (.inl rfl)) (pe_var (i := 5) rfl (.inl rfl)) (by rfl)) (pss_oneS (ps_retS (pCall (W := (WEx E)) F.F__law_made (ok__law_made F) ⟨rfl, rfl, rfl, rfl, rfl⟩ rfl (takes_of rfl rfl rfl rfl) (hr.mono (by decide)) (by rfl) (paC (oX (pE (W := (WEx E)) (fun _ => rfl) (pe_var (i := 0) rfl (.inl rfl)))) (paC (oX (pE (W := (WEx E)) (fun _ => rfl) (pe_var (i := 1) rfl (.inl rfl)))) (paC (oX (pE (W := (WEx E)) (fun _ => rfl) (pe_var (i := 2) rfl (.inl rfl)))) (paC (oX (pE (W := (WEx E)) (fun _ => rfl) (pe_var (i := 3) rfl (.inl rfl)))) (paC (oX (pe_two (W := (WEx E)) op_sub con_sub (pe_var (i := 4) rfl (.inl rfl)) (pe_var (i := 5) rfl (.inl rfl)))) paN)))))))) pss_nilS)
  (pss_oneS (ps_retS (pCall (W := (WEx E)) F.F__law_down (ok__law_down F) ⟨rfl, rfl, rfl, rfl, rfl⟩ rfl (takes_of rfl rfl rfl rfl) (hr.mono (by decide)) (by rfl) (paC (oX (pE (W := (WEx E)) (fun _ => rfl) (pe_var (i := 2) rfl (.inl rfl)))) (paC (oX (pE (W := (WEx E)) (fun _ => rfl) (pe_var (i := 3) rfl (.inl rfl)))) (paC (oX (pe_two (W := (WEx E)) op_sub con_sub (pe_var (i := 5) rfl (.inl rfl)) (pe_var (i := 4) rfl (.inl rfl)))) paN))))))))
def s__law_is_right : Ev.Env → RS :=
  (seqS (parS [1, 2, 3] [(conE [.e (cE (.int 1)), .e (callIO sem__law_pick 0 [(cE (.int 7))])] addS), (callIO sem__law_some 0 [(conE [.e (cE (.str "cdhsn"))] listS2)]), (callIO sem__law_pick 0 [(cE (.int 3))])])
  (seqS (parS [4, 5] [(conE [.e (callIO sem__law_pick 0 [(cE (.int 2))]), .e (cE (.int 1))] eqS), (callIO sem__law_pick 0 [(cE (.int 14))])])
  (seqS (setS 6 (callE sem_contract_score [(getE 1), (getE 2), (getE 3), (getE 4), (getE 5)]))
  (seqS (ifS (orT (tstE (conE [.b 6, .e (callE sem__law_score [(getE 1), (getE 2), (getE 3), (getE 4), (getE 5)])] neS)) (tstE (conE [.e (conE [.b 6, .e (cE (.int 0))] gtS), .e (conE [.b 5, .e (conE [.b 1, .e (cE (.int 6))] addS)] geS)] neS))) (retS (cE (.bl false))) nextS)
  (seqS (ifS (andT (tstE (conE [.b 5, .e (cE (.int 13))] ltS)) (tstE (conE [.e (callE sem_contract_score [(getE 1), (getE 2), (getE 3), (getE 4), (conE [.b 5, .e (cE (.int 1))] addS)]), .b 6] ltS))) (retS (cE (.bl false))) nextS)
  (seqS (setS 7 (callE sem_contract_score [(getE 1), (getE 2), (cE (.int 0)), (getE 4), (getE 5)]))
  (retS (iteE (tstE (conE [.b 6, .e (cE (.int 0))] ltS)) (conE [.b 6, .b 7] leS) (conE [.b 6, .b 7] geS)))))))))
def sem__law_is_right : Fn := runF 8 true s__law_is_right
theorem ok__law_is_right (F : Fx G) : F.F__law_is_right.Ok 6 sem__law_is_right := F.F__law_is_right.ok (io := true) (by decide) sc__law_is_right fun A outer s H vs E hr =>
  (pss_seq (ps_par3S (i := 1) (j := 2) (l' := 3) (wr_io (by decide)) (wr_io (by decide)) (wr_io (by decide)) rfl sc__law_is_right.nd rfl rfl rfl (by decide) (by decide) (by decide) rfl rfl rfl (paC (oX (pe_two (W := (WEx E)) opr_add con_add (oX (pInt (W := (WEx E)))) (oX (pCallIO (W := (WEx E)) F.F__law_pick (ok__law_pick F) ⟨rfl, rfl, rfl, rfl, rfl⟩ (fun _ => rfl) rfl (takes_of rfl rfl rfl rfl) (hr.mono (by decide)) (by rfl) (pe_var (i := 0) rfl (.inl rfl)) (paC (oX (pInt (W := (WEx E)))) paN))))) (paC (oX (pCallIO (W := (WEx E)) F.F__law_some (ok__law_some F) ⟨rfl, rfl, rfl, rfl, rfl⟩ (fun _ => rfl) rfl (takes_of rfl rfl rfl rfl) (hr.mono (by decide)) (by rfl) (pe_var (i := 0) rfl (.inl rfl)) (paC (oX (pe_biT (W := (WEx E)) (call_list2 rfl) (con_list2 rfl) (by rfl) F.fr_list (by rfl) (paC (oX (pStr (W := (WEx E)))) paN))) paN))) (paC (oX (pCallIO (W := (WEx E)) F.F__law_pick (ok__law_pick F) ⟨rfl, rfl, rfl, rfl, rfl⟩ (fun _ => rfl) rfl (takes_of rfl rfl rfl rfl) (hr.mono (by decide)) (by rfl) (pe_var (i := 0) rfl (.inl rfl)) (paC (oX (pInt (W := (WEx E)))) paN))) paN))) rfl)
  (pss_seq (ps_par2 (i := 4) (j := 5) (wr_io (by decide)) (wr_io (by decide)) rfl sc__law_is_right.nd rfl rfl (by decide) rfl rfl (paC (oX (pe_cmp2 (W := (WEx E)) (opr_eq (hu64 hr)) con_eq (oX (pCallIO (W := (WEx E)) F.F__law_pick (ok__law_pick F) ⟨rfl, rfl, rfl, rfl, rfl⟩ (fun _ => rfl) rfl (takes_of rfl rfl rfl rfl) (hr.mono (by decide)) (by rfl) (pe_var (i := 0) rfl (.inl rfl)) (paC (oX (pInt (W := (WEx E)))) paN))) (oX (pInt (W := (WEx E)))) (by rfl))) (paC (oX (pCallIO (W := (WEx E)) F.F__law_pick (ok__law_pick F) ⟨rfl, rfl, rfl, rfl, rfl⟩ (fun _ => rfl) rfl (takes_of rfl rfl rfl rfl) (hr.mono (by decide)) (by rfl) (pe_var (i := 0) rfl (.inl rfl)) (paC (oX (pInt (W := (WEx E)))) paN))) paN)) rfl)
  (pss_seq (ps_setS (i := 6) (wr_io (by decide)) sc__law_is_right.nd rfl (.inl rfl) (pCall (W := (WEx E)) F.F_contract_score (ok_contract_score F) ⟨rfl, rfl, rfl, rfl, rfl⟩ rfl (takes_of rfl rfl rfl rfl) (hr.mono (by decide)) (by rfl) (paC (oX (pE (W := (WEx E)) (fun _ => rfl) (pe_var (i := 1) rfl (.inl rfl)))) (paC (oX (pE (W := (WEx E)) (fun _ => rfl) (pe_var (i := 2) rfl (.inl rfl)))) (paC (oX (pE (W := (WEx E)) (fun _ => rfl) (pe_var (i := 3) rfl (.inl rfl)))) (paC (oX (pE (W := (WEx E)) (fun _ => rfl) (pe_var (i := 4) rfl (.inl rfl)))) (paC (oX (pE (W := (WEx E)) (fun _ => rfl) (pe_var (i := 5) rfl (.inl rfl)))) paN)))))))
  (pss_seq (ps_ifS (PW.pt (pw_orT (pt_cmp2 (opr_ne (hu64 hr)) con_ne (pe_var (i := 6) rfl (.inl rfl)) (oX (pCall (W := (WEx E)) F.F__law_score (ok__law_score F) ⟨rfl, rfl, rfl, rfl, rfl⟩ rfl (takes_of rfl rfl rfl rfl) (hr.mono (by decide)) (by rfl) (paC (oX (pE (W := (WEx E)) (fun _ => rfl) (pe_var (i := 1) rfl (.inl rfl)))) (paC (oX (pE (W := (WEx E)) (fun _ => rfl) (pe_var (i := 2) rfl (.inl rfl)))) (paC (oX (pE (W := (WEx E)) (fun _ => rfl) (pe_var (i := 3) rfl (.inl rfl)))) (paC (oX (pE (W := (WEx E)) (fun _ => rfl) (pe_var (i := 4) rfl (.inl rfl)))) (paC (oX (pE (W := (WEx E)) (fun _ => rfl) (pe_var (i := 5) rfl (.inl rfl)))) paN))))))) (by rfl)) (pw_or1 (pt_cmp2 (opr_ne (hu64 hr)) con_ne (oX (pe_cmp2 (W := (WEx E)) (opr_gt (hu64 hr)) con_gt (pe_var (i := 6) rfl (.inl rfl)) (oX (pInt (W := (WEx E)))) (by rfl))) (oX (pe_cmp2 (W := (WEx E)) (opr_ge (hu64 hr)) con_ge (pe_var (i := 5) rfl (.inl rfl)) (oX (pe_two (W := (WEx E)) opr_add con_add (pe_var (i := 1) rfl (.inl rfl)) (oX (pInt (W := (WEx E)))))) (by rfl))) (by rfl))))) (pss_oneS (ps_retS (pBl (W := (WEx E))))) pss_nilS)
  (pss_seq (ps_ifS (PW.pt (pw_andT (pt_cmp2 (opr_lt (hu64 hr)) con_lt (pe_var (i := 5) rfl (.inl rfl)) (oX (pInt (W := (WEx E)))) (by rfl)) (pw_and1 (pt_cmp2 (opr_lt (hu64 hr)) con_lt (oX (pCall (W := (WEx E)) F.F_contract_score (ok_contract_score F) ⟨rfl, rfl, rfl, rfl, rfl⟩ rfl (takes_of rfl rfl rfl rfl) (hr.mono (by decide)) (by rfl) (paC (oX (pE (W := (WEx E)) (fun _ => rfl) (pe_var (i := 1) rfl (.inl rfl)))) (paC (oX (pE (W := (WEx E)) (fun _ => rfl) (pe_var (i := 2) rfl (.inl rfl)))) (paC (oX (pE (W := (WEx E)) (fun _ => rfl) (pe_var (i := 3) rfl (.inl rfl)))) (paC (oX (pE (W := (WEx E)) (fun _ => rfl) (pe_var (i := 4) rfl (.inl rfl)))) (paC (oX (pe_two (W := (WEx E)) opr_add con_add (pe_var (i := 5) rfl (.inl rfl)) (oX (pInt (W := (WEx E)))))) paN))))))) (pe_var (i := 6) rfl (.inl rfl)) (by rfl))))) (pss_oneS (ps_retS (pBl (W := (WEx E))))) pss_nilS)
  (pss_seq (ps_setS (i := 7) (wr_io (by decide)) sc__law_is_right.nd rfl (.inl rfl) (pCall (W := (WEx E)) F.F_contract_score (ok_contract_score F) ⟨rfl, rfl, rfl, rfl, rfl⟩ rfl (takes_of rfl rfl rfl rfl) (hr.mono (by decide)) (by rfl) (paC (oX (pE (W := (WEx E)) (fun _ => rfl) (pe_var (i := 1) rfl (.inl rfl)))) (paC (oX (pE (W := (WEx E)) (fun _ => rfl) (pe_var (i := 2) rfl (.inl rfl)))) (paC (oX (pInt (W := (WEx E)))) (paC (oX (pE (W := (WEx E)) (fun _ => rfl) (pe_var (i := 4) rfl (.inl rfl)))) (paC (oX (pE (W := (WEx E)) (fun _ => rfl) (pe_var (i := 5) rfl (.inl rfl)))) paN)))))))
  (pss_oneS (ps_retS (pe_ite (W := (WEx E)) (pt_cmp2 (opr_lt (hu64 hr)) con_lt (pe_var (i := 6) rfl (.inl rfl)) (oX (pInt (W := (WEx E)))) (by rfl)) (pe_cmp2 (W := (WEx E)) (opr_le (hu64 hr)) con_le (pe_var (i := 6) rfl (.inl rfl)) (pe_var (i := 7) rfl (.inl rfl)) (by rfl)) (pe_cmp2 (W := (WEx E)) (opr_ge (hu64 hr)) con_ge (pe_var (i := 6) rfl (.inl rfl)) (pe_var (i := 7) rfl (.inl rfl)) (by rfl)))))))))))
def su__law_word (c : Nat) : Ev.Env → RS :=
  (seqS (setS 3 (lstE [(cE (.bl (subc c 2))), (cE (.bl (subc c 3))), (cE (.bl (subc c 4)))]))
  (seqS (setS 3 (conE [.b 3, .e (lstE [(cE (.bl (subc c 1))), (cE (.bl (subc c 5)))])] addS))
  (seqS (setS 1 (cE (.str "other")))
  (ifS (andT (tstE (conE [.e (rdE isLst (.b 3) [.e (cE (.bl true))] cntS), .e (cE (.int 1))] eqS)) (tstE (cE (.bl (subV_ValueError c))))) (setS 1 (conE [.e (lstE [(cE (.str "figure")), (cE (.str "strain")), (cE (.str "times")), (cE (.str "flag")), (cE (.str "tricks"))]), .e (rdE isLst (.b 3) [.e (cE (.bl true))] ixS)] idxS)) nextS))))
def w__law_word (o : Out) : Ev.Env → RS :=
  (seqS (setS 1 (cE (.str "let")))
  (seqS (tryAsS (exprS (thkE o)) 2 ctc (fun c a => match a with
    | [] => su__law_word c
    | _ => stuckS))
  (retS (getE 1))))
theorem word__law_word (F : Fx G) : WordOk G ["call", "word", "error", "flags"] "_law_word" (defScope st__law_word) F.F__law_word.f (defBody st__law_word) "call" w__law_word := fun cdg A outer s H Δ v o hpin act hr => by
  unfold w__law_word
  exact (pss_seq (ps_setS (i := 1) (wr_pin hpin (by decide)) sc__law_word.nd rfl (.inl rfl) (pStr (W := W0)))
  (pss_seq (ps_tryAsS (i := 2) (wr_pin hpin (by decide)) rfl rfl sc__law_word.nd rfl rfl ⟨(by rfl), (by rfl), .inl F.ec_CardError.g⟩ takes0 (fun c b h => F.xm_CardError c b h) (fun W pn xe tk hpo => (pss_oneS (ps_exprS (act W pn xe _ _ tk)))) (fun a oe d pn j q1 q2 hz hv => by
    obtain ⟨c, a0, E0⟩ := j
    have hc := ctc_lt q1
    rcases q2 with ⟨e1, e2, e3⟩ | ⟨_, _, _, e1, _⟩
    · dsimp only at e1 e2 hz hc ⊢
      subst e1
      rw [e2] at hz
      exact (pss_seq (ps_setS (i := 3) (wr_su (wr_pin hpin (by decide)) (by decide)) sc__law_word.nd rfl (.inl rfl) (pLst (W := W0) (show 3 ≤ sizeLine by decide) (paC (oX (pIsE (W := W0) (F.ecs c hc) hz hv rfl rfl (by rfl) F.fr_isinstance List.mem_cons_self rfl (.inl rfl) (by rfl) F.ec_NoFigure.g (F.kt c 2 hc (by decide)))) (paC (oX (pIsE (W := W0) (F.ecs c hc) hz hv rfl rfl (by rfl) F.fr_isinstance List.mem_cons_self rfl (.inl rfl) (by rfl) F.ec_NoStrain.g (F.kt c 3 hc (by decide)))) (paC (oX (pIsE (W := W0) (F.ecs c hc) hz hv rfl rfl (by rfl) F.fr_isinstance List.mem_cons_self rfl (.inl rfl) (by rfl) F.ec_NoTimes.g (F.kt c 4 hc (by decide)))) paN)))))
  (pss_seq (ps_setS (i := 3) (wr_su (wr_pin hpin (by decide)) (by decide)) sc__law_word.nd rfl (.inl rfl) (pe_two (W := W0) opr_add con_add (pe_var (i := 3) rfl (.inl rfl)) (oX (pLst (W := W0) (show 2 ≤ sizeLine by decide) (paC (oX (pIsE (W := W0) (F.ecs c hc) hz hv rfl rfl (by rfl) F.fr_isinstance List.mem_cons_self rfl (.inl rfl) (by rfl) F.ec_NoFlag.g (F.kt c 1 hc (by decide)))) (paC (oX (pIsE (W := W0) (F.ecs c hc) hz hv rfl rfl (by rfl) F.fr_isinstance List.mem_cons_self rfl (.inl rfl) (by rfl) F.ec_NoTricks.g (F.kt c 5 hc (by decide)))) paN))))))
  (pss_seq (ps_setS (i := 1) (wr_su (wr_pin hpin (by decide)) (by decide)) sc__law_word.nd rfl (.inl rfl) (pStr (W := W0)))
  (pss_oneS (ps_ifS (PW.pt (pw_andT (pt_cmp2 (opr_eq (by have := hu64 hr; exact this)) con_eq (oX (pe_rd (W := W0) (fun i h => by cases h; exact (fun z => absurd z (by decide))) con_cnt (lst_ty rfl) PySem.F.plainAttrs_list PySem.F.slot_list_count PySem.F.type_list_count (mt_cnt (by have := hu65 hr; exact this)) (pe_var (i := 3) rfl (.inl rfl)) (paC (oX (pBl (W := W0))) paN))) (oX (pInt (W := W0))) (by rfl)) (pw_and1 (pt_tst (pIsEB (W := W0) (F.ecs c hc) hz hv rfl rfl (by rfl) F.fr_isinstance List.mem_cons_self rfl (.inl rfl) (by rfl) F.fr_ValueError (by rfl) (F.kv_ValueError c hc)) (fun _ => rfl))))) (pss_oneS (ps_setS (i := 1) (wr_su (wr_pin hpin (by decide)) (by decide)) sc__law_word.nd rfl (.inl rfl) (pe_idx (W := W0) rfl (oX (pLst (W := W0) (show 5 ≤ sizeLine by decide) (paC (oX (pStr (W := W0))) (paC (oX (pStr (W := W0))) (paC (oX (pStr (W := W0))) (paC (oX (pStr (W := W0))) (paC (oX (pStr (W := W0))) paN))))))) (oX (pe_rd (W := W0) (fun i h => by cases h; exact (fun z => absurd z (by decide))) con_ix (lst_ty rfl) PySem.F.plainAttrs_list PySem.F.slot_list_index PySem.F.type_list_index (mt_indexD (by have := hu65 hr; exact this)) (pe_var (i := 3) rfl (.inl rfl)) (paC (oX (pBl (W := W0))) paN))) (fun _ _ => rfl)))) pss_nilS)))))
    · dsimp only at e1 ⊢
      subst e1
      exact pss_stuck))
  (pss_oneS (ps_retS (pE (W := W0) (fun z => absurd z (by decide)) (pe_var (i := 1) rfl (.inl rfl)))))))
def s__law_are_refused : Ev.Env → RS :=
  (seqS (tgS (tgT [(tgN 1), (tgN 2)]) (tupE [(callIO sem__law_some 0 [(lstE [(cE (.non)), (cE (.int 0)), (cE (.int 8)), (cE (.bl true)), (cE (.str "1"))])]), (callIO sem__law_some 0 [(lstE [(cE (.non)), (cE (.str "")), (cE (.str "C")), (cE (.str "nt")), (cE (.int 3)), (tupE [(cE (.str "c"))])])])]))
  (seqS (tgS (tgT [(tgN 3), (tgN 4)]) (tupE [(callIO sem__law_some 0 [(lstE [(cE (.non)), (conE [.e (cE (.int 1))] negS), (cE (.int 3)), (cE (.bl true)), (cE (.str "x"))])]), (callIO sem__law_some 0 [(lstE [(cE (.non)), (cE (.int 0)), (cE (.int 1)), (cE (.str "yes"))])])]))
  (seqS (setS 5 (callIO sem__law_some 0 [(lstE [(cE (.non)), (conE [.e (cE (.int 1))] negS), (cE (.int 14)), (cE (.bl true)), (cE (.str "7"))])]))
  (seqS (setS 6 (lstE [(lamE (wordF 4 w__law_word) (callE sem_contract_score [(getE 1), (getE 2), (getE 3), (getE 4), (getE 5)]))]))
  (seqS (exprS (mutE isLst appM 6 [(lamE (wordF 4 w__law_word) (callE sem_contract_score [(cE (.int 1)), (getE 2), (getE 3), (getE 4), (getE 5)]))]))
  (seqS (exprS (mutE isLst appM 6 [(lamE (wordF 4 w__law_word) (callE sem_contract_score [(cE (.int 1)), (cE (.str "c")), (getE 3), (getE 4), (getE 5)]))]))
  (seqS (exprS (mutE isLst appM 6 [(lamE (wordF 4 w__law_word) (callE sem_contract_score [(cE (.int 1)), (cE (.str "c")), (cE (.int 0)), (getE 4), (getE 5)]))]))
  (seqS (exprS (mutE isLst appM 6 [(lamE (wordF 4 w__law_word) (callE sem_contract_score [(cE (.int 1)), (cE (.str "c")), (cE (.int 0)), (cE (.bl false)), (getE 5)]))]))
  (retS (conE [.b 6, .e (lstE [(cE (.str "figure")), (cE (.str "strain")), (cE (.str "times")), (cE (.str "flag")), (cE (.str "tricks"))])] eqS))))))))))
def sem__law_are_refused : Fn := runF 7 true s__law_are_refused
theorem ok__law_are_refused (F : Fx G) : F.F__law_are_refused.Ok 8 sem__law_are_refused := F.F__law_are_refused.ok (io := true) (by decide) sc__law_are_refused fun A outer s H vs E hr =>
  (pss_seq (ps_tgS (pTup (W := (WEx E)) (show 2 ≤ sizeLine by decide) (paC (oX (pCallIO (W := (WEx E)) F.F__law_some (ok__law_some F) ⟨rfl, rfl, rfl, rfl, rfl⟩ (fun _ => rfl) rfl (takes_of rfl rfl rfl rfl) (hr.mono (by decide)) (by rfl) (pe_var (i := 0) rfl (.inl rfl)) (paC (oX (pLst (W := (WEx E)) (show 5 ≤ sizeLine by decide) (paC (oX (pNon (W := (WEx E)))) (paC (oX (pInt (W := (WEx E)))) (paC (oX (pInt (W := (WEx E)))) (paC (oX (pBl (W := (WEx E)))) (paC (oX (pStr (W := (WEx E)))) paN))))))) paN))) (paC (oX (pCallIO (W := (WEx E)) F.F__law_some (ok__law_some F) ⟨rfl, rfl, rfl, rfl, rfl⟩ (fun _ => rfl) rfl (takes_of rfl rfl rfl rfl) (hr.mono (by decide)) (by rfl) (pe_var (i := 0) rfl (.inl rfl)) (paC (oX (pLst (W := (WEx E)) (show 6 ≤ sizeLine by decide) (paC (oX (pNon (W := (WEx E)))) (paC (oX (pStr (W := (WEx E)))) (paC (oX (pStr (W := (WEx E)))) (paC (oX (pStr (W := (WEx E)))) (paC (oX (pInt (W := (WEx E)))) (paC (oX (pTup (W := (WEx E)) (show 1 ≤ sizeLine by decide) (paC (oX (pStr (W := (WEx E)))) paN))) paN)))))))) paN))) paN))) (pg_tupS rfl rfl (pgs_consS (pg_nameS (is := [1, 2]) (by decide) (wr_io (by decide)) sc__law_are_refused.nd rfl (.inr rfl)) (pgs_consS (pg_nameS (is := [1, 2]) (by decide) (wr_io (by decide)) sc__law_are_refused.nd rfl (.inr rfl)) pgs_nilS))))
  (pss_seq (ps_tgS (pTup (W := (WEx E)) (show 2 ≤ sizeLine by decide) (paC (oX (pCallIO (W := (WEx E)) F.F__law_some (ok__law_some F) ⟨rfl, rfl, rfl, rfl, rfl⟩ (fun _ => rfl) rfl (takes_of rfl rfl rfl rfl) (hr.mono (by decide)) (by rfl) (pe_var (i := 0) rfl (.inl rfl)) (paC (oX (pLst (W := (WEx E)) (show 5 ≤ sizeLine by decide) (paC (oX (pNon (W := (WEx E)))) (paC (oX (pe_negE (W := (WEx E)) (oX (pInt (W := (WEx E)))))) (paC (oX (pInt (W := (WEx E)))) (paC (oX (pBl (W := (WEx E)))) (paC (oX (pStr (W := (WEx E)))) paN))))))) paN))) (paC (oX (pCallIO (W := (WEx E)) F.F__law_some (ok__law_some F) ⟨rfl, rfl, rfl, rfl, rfl⟩ (fun _ => rfl) rfl (takes_of rfl rfl rfl rfl) (hr.mono (by decide)) (by rfl) (pe_var (i := 0) rfl (.inl rfl)) (paC (oX (pLst (W := (WEx E)) (show 4 ≤ sizeLine by decide) (paC (oX (pNon (W := (WEx E)))) (paC (oX (pInt (W := (WEx E)))) (paC (oX (pInt (W := (WEx E)))) (paC (oX (pStr (W := (WEx E)))) paN)))))) paN))) paN))) (pg_tupS rfl rfl (pgs_consS (pg_nameS (is := [3, 4]) (by decide) (wr_io (by decide)) sc__law_are_refused.nd rfl (.inr rfl)) (pgs_consS (pg_nameS (is := [3, 4]) (by decide) (wr_io (by decide)) sc__law_are_refused.nd rfl (.inr rfl)) pgs_nilS))))
  (pss_seq (ps_setS (i := 5) (wr_io (by decide)) sc__law_are_refused.nd rfl (.inr rfl) (pCallIO (W := (WEx E)) F.F__law_some (ok__law_some F) ⟨rfl, rfl, rfl, rfl, rfl⟩ (fun _ => rfl) rfl (takes_of rfl rfl rfl rfl) (hr.mono (by decide)) (by rfl) (pe_var (i := 0) rfl (.inl rfl)) (paC (oX (pLst (W := (WEx E)) (show 5 ≤ sizeLine by decide) (paC (oX (pNon (W := (WEx E)))) (paC (oX (pe_negE (W := (WEx E)) (oX (pInt (W := (WEx E)))))) (paC (oX (pInt (W := (WEx E)))) (paC (oX (pBl (W := (WEx E)))) (paC (oX (pStr (W := (WEx E)))) paN))))))) paN)))
  (pss_seq (ps_setS (i := 6) (wr_io (by decide)) sc__law_are_refused.nd rfl (.inl rfl) (pLst (W := (WEx E)) (show 1 ≤ sizeLine by decide) (paC (oX (pe_lamS (W := (WEx E)) (k := 5) ⟨rfl, rfl, rfl, rfl, rfl⟩ rfl (by rfl) F.F__law_word.g F.F__law_word.F F.F__law_word.b sc__law_word rfl (.inl rfl) (word__law_word F) F.tb__law_are_refused F.hc__law_are_refused F.hm__law_are_refused F.hu__law_are_refused (hr.mono (by decide)) (LamX.lamS_by (sc := defScope st__law_are_refused) (by decide +kernel)) rfl (fun _ _ _ _ _ => rfl) (fun A outer s H E f c' hr2 => (pCall (W := (WEx E)) F.F_contract_score (ok_contract_score F) ⟨rfl, rfl, rfl, rfl, rfl⟩ rfl (takes_of rfl rfl rfl rfl) (hr2.mono (by decide)) (by rfl) (paC (oX (pE (W := (WEx E)) (fun _ => rfl) (pe_var (i := 1) rfl (.inr (.inr rfl))))) (paC (oX (pE (W := (WEx E)) (fun _ => rfl) (pe_var (i := 2) rfl (.inr (.inr rfl))))) (paC (oX (pE (W := (WEx E)) (fun _ => rfl) (pe_var (i := 3) rfl (.inr (.inr rfl))))) (paC (oX (pE (W := (WEx E)) (fun _ => rfl) (pe_var (i := 4) rfl (.inr (.inr rfl))))) (paC (oX (pE (W := (WEx E)) (fun _ => rfl) (pe_var (i := 5) rfl (.inr (.inr rfl))))) paN))))))))) paN)))
  (pss_seq (ps_exprS (pe_mut (W := (WEx E)) (fun _ => rfl) (mc_append rfl) (lst_ty rfl) PySem.F.plainAttrs_list PySem.F.slot_list_append PySem.F.type_list_append mt_append (pe_var (i := 6) rfl (.inl rfl)) (paC (oX (pe_lamS (W := (WEx E)) (k := 5) ⟨rfl, rfl, rfl, rfl, rfl⟩ rfl (by rfl) F.F__law_word.g F.F__law_word.F F.F__law_word.b sc__law_word rfl (.inl rfl) (word__law_word F) F.tb__law_are_refused F.hc__law_are_refused F.hm__law_are_refused F.hu__law_are_refused (hr.mono (by decide)) (LamX.lamS_by (sc := defScope st__law_are_refused) (by decide +kernel)) rfl (fun _ _ _ _ _ => rfl) (fun A outer s H E f c' hr2 => (pCall (W := (WEx E)) F.F_contract_score (ok_contract_score F) ⟨rfl, rfl, rfl, rfl, rfl⟩ rfl (takes_of rfl rfl rfl rfl) (hr2.mono (by decide)) (by rfl) (paC (oX (pInt (W := (WEx E)))) (paC (oX (pE (W := (WEx E)) (fun _ => rfl) (pe_var (i := 2) rfl (.inr (.inr rfl))))) (paC (oX (pE (W := (WEx E)) (fun _ => rfl) (pe_var (i := 3) rfl (.inr (.inr rfl))))) (paC (oX (pE (W := (WEx E)) (fun _ => rfl) (pe_var (i := 4) rfl (.inr (.inr rfl))))) (paC (oX (pE (W := (WEx E)) (fun _ => rfl) (pe_var (i := 5) rfl (.inr (.inr rfl))))) paN))))))))) paN)))
  (pss_seq (ps_exprS (pe_mut (W := (WEx E)) (fun _ => rfl) (mc_append rfl) (lst_ty rfl) PySem.F.plainAttrs_list PySem.F.slot_list_append PySem.F.type_list_append mt_append (pe_var (i := 6) rfl (.inl rfl)) (paC (oX (pe_lamS (W := (WEx E)) (k := 5) ⟨rfl, rfl, rfl, rfl, rfl⟩ rfl (by rfl) F.F__law_word.g F.F__law_word.F F.F__law_word.b sc__law_word rfl (.inl rfl) (word__law_word F) F.tb__law_are_refused F.hc__law_are_refused F.hm__law_are_refused F.hu__law_are_refused (hr.mono (by decide)) (LamX.lamS_by (sc := defScope st__law_are_refused) (by decide +kernel)) rfl (fun _ _ _ _ _ => rfl) (fun A outer s H E f c' hr2 => (pCall (W := (WEx E)) F.F_contract_score (ok_contract_score F) ⟨rfl, rfl, rfl, rfl, rfl⟩ rfl (takes_of rfl rfl rfl rfl) (hr2.mono (by decide)) (by rfl) (paC (oX (pInt (W := (WEx E)))) (paC (oX (pStr (W := (WEx E)))) (paC (oX (pE (W := (WEx E)) (fun _ => rfl) (pe_var (i := 3) rfl (.inr (.inr rfl))))) (paC (oX (pE (W := (WEx E)) (fun _ => rfl) (pe_var (i := 4) rfl (.inr (.inr rfl))))) (paC (oX (pE (W := (WEx E)) (fun _ => rfl) (pe_var (i := 5) rfl (.inr (.inr rfl))))) paN))))))))) paN)))
  (pss_seq (ps_exprS (pe_mut (W := (WEx E)) (fun _ => rfl) (mc_append rfl) (lst_ty rfl) PySem.F.plainAttrs_list PySem.F.slot_list_append PySem.F.type_list_append mt_append (pe_var (i := 6) rfl (.inl rfl)) (paC (oX (pe_lamS (W := (WEx E)) (k := 5) ⟨rfl, rfl, rfl, rfl, rfl⟩ rfl (by rfl) F.F__law_word.g F.F__law_word.F F.F__law_word.b sc__law_word rfl (.inl rfl) (word__law_word F) F.tb__law_are_refused F.hc__law_are_refused F.hm__law_are_refused F.hu__law_are_refused (hr.mono (by decide)) (LamX.lamS_by (sc := defScope st__law_are_refused) (by decide +kernel)) rfl (fun _ _ _ _ _ => rfl) (fun A outer s H E f c' hr2 => (pCall (W := (WEx E)) F.F_contract_score (ok_contract_score F) ⟨rfl, rfl, rfl, rfl, rfl⟩ rfl (takes_of rfl rfl rfl rfl) (hr2.mono (by decide)) (by rfl) (paC (oX (pInt (W := (WEx E)))) (paC (oX (pStr (W := (WEx E)))) (paC (oX (pInt (W := (WEx E)))) (paC (oX (pE (W := (WEx E)) (fun _ => rfl) (pe_var (i := 4) rfl (.inr (.inr rfl))))) (paC (oX (pE (W := (WEx E)) (fun _ => rfl) (pe_var (i := 5) rfl (.inr (.inr rfl))))) paN))))))))) paN)))
  (pss_seq (ps_exprS (pe_mut (W := (WEx E)) (fun _ => rfl) (mc_append rfl) (lst_ty rfl) PySem.F.plainAttrs_list PySem.F.slot_list_append PySem.F.type_list_append mt_append (pe_var (i := 6) rfl (.inl rfl)) (paC (oX (pe_lamS (W := (WEx E)) (k := 5) ⟨rfl, rfl, rfl, rfl, rfl⟩ rfl (by rfl) F.F__law_word.g F.F__law_word.F F.F__law_word.b sc__law_word rfl (.inl rfl) (word__law_word F) F.tb__law_are_refused F.hc__law_are_refused F.hm__law_are_refused F.hu__law_are_refused (hr.mono (by decide)) (LamX.lamS_by (sc := defScope st__law_are_refused) (by decide +kernel)) rfl (fun _ _ _ _ _ => rfl) (fun A outer s H E f c' hr2 => (pCall (W := (WEx E)) F.F_contract_score (ok_contract_score F) ⟨rfl, rfl, rfl, rfl, rfl⟩ rfl (takes_of rfl rfl rfl rfl) (hr2.mono (by decide)) (by rfl) (paC (oX (pInt (W := (WEx E)))) (paC (oX (pStr (W := (WEx E)))) (paC (oX (pInt (W := (WEx E)))) (paC (oX (pBl (W := (WEx E)))) (paC (oX (pE (W := (WEx E)) (fun _ => rfl) (pe_var (i := 5) rfl (.inr (.inr rfl))))) paN))))))))) paN)))
  (pss_oneS (ps_retS (pe_cmp2 (W := (WEx E)) (opr_eq (hu64 hr)) con_eq (pe_var (i := 6) rfl (.inl rfl)) (oX (pLst (W := (WEx E)) (show 5 ≤ sizeLine by decide) (paC (oX (pStr (W := (WEx E)))) (paC (oX (pStr (W := (WEx E)))) (paC (oX (pStr (W := (WEx E)))) (paC (oX (pStr (W := (WEx E)))) (paC (oX (pStr (W := (WEx E)))) paN))))))) (by rfl))))))))))))
def s_law : Ev.Env → RS :=
  (seqS (setS 1 (callE sem__law_bag [(getE 0)]))
  (seqS (setS 2 (lstE [(callE sem_contract_score [(cE (.int 1)), (cE (.str "n")), (cE (.int 0)), (cE (.bl false)), (cE (.int 7))]), (callE sem_contract_score [(cE (.int 4)), (cE (.str "s")), (cE (.int 0)), (cE (.bl true)), (cE (.int 10))])]))
  (seqS (exprS (mutE isLst appM 2 [(callE sem_contract_score [(cE (.int 7)), (cE (.str "n")), (cE (.int 2)), (cE (.bl true)), (cE (.int 13))])]))
  (seqS (ifS (orT (tstE (conE [.b 2, .e (lstE [(cE (.int 90)), (cE (.int 620)), (cE (.int 2980))])] neS)) (tstE (conE [.e (callE sem_contract_score [(cE (.int 3)), (cE (.str "c")), (cE (.int 1)), (cE (.bl false)), (cE (.int 6))]), .e (conE [.e (cE (.int 0)), .e (cE (.int 500))] subS)] neS))) (retS (cE (.bl false))) nextS)
  (seqS (ifS (orT (tstE (conE [.e (callE sem_contract_score [(cE (.int 2)), (cE (.str "h")), (cE (.int 1)), (cE (.bl false)), (cE (.int 9))]), .e (cE (.int 570))] neS)) (tstE (conE [.e (callE sem_contract_score [(cE (.int 6)), (cE (.str "d")), (cE (.int 0)), (cE (.bl false)), (cE (.int 12))]), .e (cE (.int 920))] neS))) (retS (cE (.bl false))) nextS)
  (retS (conE [.e (lcE (rng1E (cE (.int 8))) (tgN 3) yesT (andE (callIO sem__law_is_right 1 []) (callIO sem__law_are_refused 1 [])) [3])] allS)))))))
def sem_law : Fn := runF 4 false s_law
theorem ok_law (F : Fx G) : F.F_law.Ok 9 sem_law := F.F_law.ok (io := false) (by decide) sc_law fun A outer s H vs E hr =>
  (pss_seq (ps_setS (i := 1) (wr_io (by decide)) sc_law.nd rfl (.inr rfl) (pCall (W := (WEx E)) F.F__law_bag (ok__law_bag F) ⟨rfl, rfl, rfl, rfl, rfl⟩ rfl (takes_of rfl rfl rfl rfl) (hr.mono (by decide)) (by rfl) (paC (oX (pE (W := (WEx E)) (fun _ => rfl) (pe_var (i := 0) rfl (.inl rfl)))) paN)))
  (pss_seq (ps_setS (i := 2) (wr_io (by decide)) sc_law.nd rfl (.inl rfl) (pLst (W := (WEx E)) (show 2 ≤ sizeLine by decide) (paC (oX (pCall (W := (WEx E)) F.F_contract_score (ok_contract_score F) ⟨rfl, rfl, rfl, rfl, rfl⟩ rfl (takes_of rfl rfl rfl rfl) (hr.mono (by decide)) (by rfl) (paC (oX (pInt (W := (WEx E)))) (paC (oX (pStr (W := (WEx E)))) (paC (oX (pInt (W := (WEx E)))) (paC (oX (pBl (W := (WEx E)))) (paC (oX (pInt (W := (WEx E)))) paN))))))) (paC (oX (pCall (W := (WEx E)) F.F_contract_score (ok_contract_score F) ⟨rfl, rfl, rfl, rfl, rfl⟩ rfl (takes_of rfl rfl rfl rfl) (hr.mono (by decide)) (by rfl) (paC (oX (pInt (W := (WEx E)))) (paC (oX (pStr (W := (WEx E)))) (paC (oX (pInt (W := (WEx E)))) (paC (oX (pBl (W := (WEx E)))) (paC (oX (pInt (W := (WEx E)))) paN))))))) paN))))
  (pss_seq (ps_exprS (pe_mut (W := (WEx E)) (fun _ => rfl) (mc_append rfl) (lst_ty rfl) PySem.F.plainAttrs_list PySem.F.slot_list_append PySem.F.type_list_append mt_append (pe_var (i := 2) rfl (.inl rfl)) (paC (oX (pCall (W := (WEx E)) F.F_contract_score (ok_contract_score F) ⟨rfl, rfl, rfl, rfl, rfl⟩ rfl (takes_of rfl rfl rfl rfl) (hr.mono (by decide)) (by rfl) (paC (oX (pInt (W := (WEx E)))) (paC (oX (pStr (W := (WEx E)))) (paC (oX (pInt (W := (WEx E)))) (paC (oX (pBl (W := (WEx E)))) (paC (oX (pInt (W := (WEx E)))) paN))))))) paN)))
  (pss_seq (ps_ifS (PW.pt (pw_orT (pt_cmp2 (opr_ne (hu64 hr)) con_ne (pe_var (i := 2) rfl (.inl rfl)) (oX (pLst (W := (WEx E)) (show 3 ≤ sizeLine by decide) (paC (oX (pInt (W := (WEx E)))) (paC (oX (pInt (W := (WEx E)))) (paC (oX (pInt (W := (WEx E)))) paN))))) (by rfl)) (pw_or1 (pt_cmp2 (opr_ne (hu64 hr)) con_ne (oX (pCall (W := (WEx E)) F.F_contract_score (ok_contract_score F) ⟨rfl, rfl, rfl, rfl, rfl⟩ rfl (takes_of rfl rfl rfl rfl) (hr.mono (by decide)) (by rfl) (paC (oX (pInt (W := (WEx E)))) (paC (oX (pStr (W := (WEx E)))) (paC (oX (pInt (W := (WEx E)))) (paC (oX (pBl (W := (WEx E)))) (paC (oX (pInt (W := (WEx E)))) paN))))))) (oX (pe_two (W := (WEx E)) op_sub con_sub (oX (pInt (W := (WEx E)))) (oX (pInt (W := (WEx E)))))) (by rfl))))) (pss_oneS (ps_retS (pBl (W := (WEx E))))) pss_nilS)
  (pss_seq (ps_ifS (PW.pt (pw_orT (pt_cmp2 (opr_ne (hu64 hr)) con_ne (oX (pCall (W := (WEx E)) F.F_contract_score (ok_contract_score F) ⟨rfl, rfl, rfl, rfl, rfl⟩ rfl (takes_of rfl rfl rfl rfl) (hr.mono (by decide)) (by rfl) (paC (oX (pInt (W := (WEx E)))) (paC (oX (pStr (W := (WEx E)))) (paC (oX (pInt (W := (WEx E)))) (paC (oX (pBl (W := (WEx E)))) (paC (oX (pInt (W := (WEx E)))) paN))))))) (oX (pInt (W := (WEx E)))) (by rfl)) (pw_or1 (pt_cmp2 (opr_ne (hu64 hr)) con_ne (oX (pCall (W := (WEx E)) F.F_contract_score (ok_contract_score F) ⟨rfl, rfl, rfl, rfl, rfl⟩ rfl (takes_of rfl rfl rfl rfl) (hr.mono (by decide)) (by rfl) (paC (oX (pInt (W := (WEx E)))) (paC (oX (pStr (W := (WEx E)))) (paC (oX (pInt (W := (WEx E)))) (paC (oX (pBl (W := (WEx E)))) (paC (oX (pInt (W := (WEx E)))) paN))))))) (oX (pInt (W := (WEx E)))) (by rfl))))) (pss_oneS (ps_retS (pBl (W := (WEx E))))) pss_nilS)
  (pss_oneS (ps_retS (pe_bi (W := (WEx E)) (cr_all rfl) (con_all rfl) (by rfl) F.fr_all (by rfl) (paC (oX (pe_lcS (W := (WEx E)) (own := [("lap", 3)]) (hv1 (wr_io (by decide))) rfl sc_law.nd (pi_rng1 (by rfl) F.fr_range (paC (oX (pInt (W := (WEx E)))) paN)) (blkOk_by (N := ["script", "bag", "known", "lap"]) (sc := defScope st_law) (by decide +kernel)) (fun _ _ _ _ _ => (pg_nameS (is := (([("lap", 3)] : List (Str × Nat)).map (·.2))) (by decide) (wr_io (by decide)) sc_law.nd rfl (.inl rfl))) (fun _ _ _ _ _ => pts_nilS) (fun _ _ _ _ _ => (pe_andE (W := W0) (pCallIO (W := W0) F.F__law_is_right (ok__law_is_right F) ⟨rfl, rfl, rfl, rfl, rfl⟩ (fun _ => rfl) rfl takes0 (hr.mono (by decide)) (by rfl) (pe_var (i := 1) rfl (.inr (.inl rfl))) paN) (pe_one (pCallIO (W := W0) F.F__law_are_refused (ok__law_are_refused F) ⟨rfl, rfl, rfl, rfl, rfl⟩ (fun _ => rfl) rfl takes0 (hr.mono (by decide)) (by rfl) (pe_var (i := 1) rfl (.inr (.inl rfl))) paN)))))) paN)))))))))
end
end EvL

end T_L39A
section T_L39B
set_option Elab.async false
set_option linter.all false
set_option maxRecDepth 100000
set_option maxHeartbeats 4000000
/-! k39, the plain law: the law's def answers True. -/
namespace EvL
open PySem PySem.Spec L2 Ev
open PyProof.Rows hiding St
def bagD (g : List Int) (s n k : Int) : D := .lst true [.lst true (g.map .int), .int s, .int n, .int k]
theorem fm (a m : Int) (h : 1 ≤ m) : 0 ≤ a.fmod m ∧ a.fmod m < m := ⟨Int.fmod_nonneg_of_pos a (by omega), Int.fmod_lt_of_pos a (by omega)⟩
theorem seq_next {f g : Ev.Env → RS} {ρ ρ1 : Ev.Env} (h : f ρ = .next ρ1) : seqS f g ρ = g ρ1 := by unfold seqS; rw [h]; rfl
theorem seq_ret {f g : Ev.Env → RS} {ρ ρ1 : Ev.Env} {d : D} (h : f ρ = .ret d ρ1) : seqS f g ρ = .ret d ρ1 := by unfold seqS; rw [h]; rfl
theorem run_ret {n : Nat} {f : Ev.Env → RS} {ds : List D} {d x : D} {ρ : Ev.Env} (h : f (startE n ds) = .ret d (some x :: ρ)) : runF n true f ds = .ok d [x] := by unfold runF; rw [h]; rfl
theorem pick_ok (g : List Int) (s n k m : Int) (h1 : 1 ≤ m) (h2 : m < 1073741824) : ∃ r g' s' k', 0 ≤ r ∧ r < m ∧ sem__law_pick [bagD g s n k, .int m] = .ok (.int r) [bagD g' s' n k'] := by
  by_cases hn : n = 0
  · subst hn
    exact ⟨0, g, s, k, by omega, by omega, rfl⟩
  · have hnd : decide (n = 0) = false := decide_eq_false hn
    have hm0 : m ≠ 0 := by omega
    cases g with
    | nil =>
      generalize he1 : ((s + 7919 * (k + 1)) * 48271 + 11).fmod 2147483647 = e1
      have b1 : 0 ≤ e1 ∧ e1 < 2147483647 := by rw [← he1]; exact fm _ _ (by decide)
      have c1 : e1.natAbs < 2 ^ 63 := by omega
      generalize he2 : (e1 * (e1.fdiv 1009 + 69621) + (k + 1)).fmod 2147483399 = e2
      refine ⟨(e2.fdiv 16).fmod m, [], (s + e2).fmod 2147483629, k + 1, (fm _ _ h1).1, (fm _ _ h1).2, run_ret (ρ := [some (.int m), some (.int e2)]) ?_⟩
      show s__law_pick [some (bagD [] s n k), some (.int m), none] = _
      unfold s__law_pick
      rw [seq_next (ρ1 := [some (bagD [] s n k), some (.int m), none]) (by simp [seqS, ifS, retS, tstE, conE, evOps, datOps, Res.bind, Res.rs, RS.then, idxS, ixThen, idxRaw, atI, ixN, eqS, neS, gtS, ltS, lenS, cE, bagD, shareD, noOwn, nextS, setS, setIxS, setIx2S, Ev.placeOf, setM, mutE, mut2E, popM, evAll, addS, subS, mulS, divS, modS, intS, absS, exprS, isLst, getE, callIO, callE, mulOk, hnd])]
      rw [seq_next (ρ1 := [some (bagD [] s n k), some (.int m), none]) (by simp [seqS, ifS, retS, tstE, conE, evOps, datOps, Res.bind, Res.rs, RS.then, idxS, ixThen, idxRaw, atI, ixN, eqS, neS, gtS, ltS, lenS, cE, bagD, shareD, noOwn, nextS, setS, setIxS, setIx2S, Ev.placeOf, setM, mutE, mut2E, popM, evAll, addS, subS, mulS, divS, modS, intS, absS, exprS, isLst, getE, callIO, callE, mulOk])]
      rw [seq_next (ρ1 := [some (bagD [] s n (k + 1)), some (.int m), none]) (by simp [seqS, ifS, retS, tstE, conE, evOps, datOps, Res.bind, Res.rs, RS.then, idxS, ixThen, idxRaw, atI, ixN, eqS, neS, gtS, ltS, lenS, cE, bagD, shareD, noOwn, nextS, setS, setIxS, setIx2S, Ev.placeOf, setM, mutE, mut2E, popM, evAll, addS, subS, mulS, divS, modS, intS, absS, exprS, isLst, getE, callIO, callE, mulOk])]
      rw [seq_next (ρ1 := [some (bagD [] s n (k + 1)), some (.int m), some (.int e1)]) (by simp [seqS, ifS, retS, tstE, conE, evOps, datOps, Res.bind, Res.rs, RS.then, idxS, ixThen, idxRaw, atI, ixN, eqS, neS, gtS, ltS, lenS, cE, bagD, shareD, noOwn, nextS, setS, setIxS, setIx2S, Ev.placeOf, setM, mutE, mut2E, popM, evAll, addS, subS, mulS, divS, modS, intS, absS, exprS, isLst, getE, callIO, callE, mulOk, he1])]
      rw [seq_next (ρ1 := [some (bagD [] s n (k + 1)), some (.int m), some (.int e2)]) (by simp [seqS, ifS, retS, tstE, conE, evOps, datOps, Res.bind, Res.rs, RS.then, idxS, ixThen, idxRaw, atI, ixN, eqS, neS, gtS, ltS, lenS, cE, bagD, shareD, noOwn, nextS, setS, setIxS, setIx2S, Ev.placeOf, setM, mutE, mut2E, popM, evAll, addS, subS, mulS, divS, modS, intS, absS, exprS, isLst, getE, callIO, callE, mulOk, he2, c1])]
      rw [seq_next (ρ1 := [some (bagD [] ((s + e2).fmod 2147483629) n (k + 1)), some (.int m), some (.int e2)]) (by simp [seqS, ifS, retS, tstE, conE, evOps, datOps, Res.bind, Res.rs, RS.then, idxS, ixThen, idxRaw, atI, ixN, eqS, neS, gtS, ltS, lenS, cE, bagD, shareD, noOwn, nextS, setS, setIxS, setIx2S, Ev.placeOf, setM, mutE, mut2E, popM, evAll, addS, subS, mulS, divS, modS, intS, absS, exprS, isLst, getE, callIO, callE, mulOk])]
      simp [seqS, ifS, retS, tstE, conE, evOps, datOps, Res.bind, Res.rs, RS.then, idxS, ixThen, idxRaw, atI, ixN, eqS, neS, gtS, ltS, lenS, cE, bagD, shareD, noOwn, nextS, setS, setIxS, setIx2S, Ev.placeOf, setM, mutE, mut2E, popM, evAll, addS, subS, mulS, divS, modS, intS, absS, exprS, isLst, getE, callIO, callE, mulOk, hm0]
    | cons x g =>
      by_cases hx : x < m
      · refine ⟨x.fmod m, g, s, k, (fm _ _ h1).1, (fm _ _ h1).2, run_ret (ρ := [some (.int m), some (.int x)]) ?_⟩
        show s__law_pick [some (bagD (x :: g) s n k), some (.int m), none] = _
        unfold s__law_pick
        rw [seq_next (ρ1 := [some (bagD (x :: g) s n k), some (.int m), none]) (by simp [seqS, ifS, retS, tstE, conE, evOps, datOps, Res.bind, Res.rs, RS.then, idxS, ixThen, idxRaw, atI, ixN, eqS, neS, gtS, ltS, lenS, cE, bagD, shareD, noOwn, nextS, setS, setIxS, setIx2S, Ev.placeOf, setM, mutE, mut2E, popM, evAll, addS, subS, mulS, divS, modS, intS, absS, exprS, isLst, getE, callIO, callE, mulOk, hnd])]
        refine seq_ret ?_
        simp [seqS, ifS, retS, tstE, conE, evOps, datOps, Res.bind, Res.rs, RS.then, idxS, ixThen, idxRaw, atI, ixN, eqS, neS, gtS, ltS, lenS, cE, bagD, shareD, noOwn, nextS, setS, setIxS, setIx2S, Ev.placeOf, setM, mutE, mut2E, popM, evAll, addS, subS, mulS, divS, modS, intS, absS, exprS, isLst, getE, callIO, callE, mulOk, hm0, hx, h2, show m.natAbs < 1073741824 by omega]
      · refine ⟨x.fmod m, x.fdiv m :: g, s, k, (fm _ _ h1).1, (fm _ _ h1).2, run_ret (ρ := [some (.int m), some (.int x)]) ?_⟩
        show s__law_pick [some (bagD (x :: g) s n k), some (.int m), none] = _
        unfold s__law_pick
        rw [seq_next (ρ1 := [some (bagD (x :: g) s n k), some (.int m), none]) (by simp [seqS, ifS, retS, tstE, conE, evOps, datOps, Res.bind, Res.rs, RS.then, idxS, ixThen, idxRaw, atI, ixN, eqS, neS, gtS, ltS, lenS, cE, bagD, shareD, noOwn, nextS, setS, setIxS, setIx2S, Ev.placeOf, setM, mutE, mut2E, popM, evAll, addS, subS, mulS, divS, modS, intS, absS, exprS, isLst, getE, callIO, callE, mulOk, hnd])]
        refine seq_ret ?_
        simp [seqS, ifS, retS, tstE, conE, evOps, datOps, Res.bind, Res.rs, RS.then, idxS, ixThen, idxRaw, atI, ixN, eqS, neS, gtS, ltS, lenS, cE, bagD, shareD, noOwn, nextS, setS, setIxS, setIx2S, Ev.placeOf, setM, mutE, mut2E, popM, evAll, addS, subS, mulS, divS, modS, intS, absS, exprS, isLst, getE, callIO, callE, mulOk, hm0, hx, show m.natAbs < 1073741824 by omega]
theorem len_nat {α : Type} (l : List α) : ((l.length : Nat) : Int) = (l.length : Int) := rfl
theorem some_ok (g : List Int) (s n k : Int) (o : Bool) (ds : List D) (h0 : 0 < ds.length) (h1 : ds.length < 1000) (hd : noOwns ds = true) : ∃ x g' s' k', x ∈ ds ∧ sem__law_some [bagD g s n k, .lst o ds] = .ok x [bagD g' s' n k'] := by
  obtain ⟨r, g', s', k', hr0, hr1, hp⟩ := pick_ok g s n k ds.length (by omega) (by omega)
  have hlt : r.toNat < ds.length := by omega
  have hx : ds[r.toNat]? = some ds[r.toNat] := List.getElem?_eq_getElem hlt
  refine ⟨ds[r.toNat], g', s', k', List.getElem_mem hlt, run_ret (ρ := [some (.lst o ds)]) ?_⟩
  have hn : noOwn ds[r.toNat] = true := noOwns_at hd hx
  show s__law_some [some (bagD g s n k), some (.lst o ds)] = _
  have hb : bagD g s n k = .lst true [.lst true (g.map .int), .int s, .int n, .int k] := rfl
  simp [s__law_some, retS, conE, evOps, datOps, Res.bind, Res.rs, callIO, evAll, lenS, hp, idxS, atI, ixN, hr0, hr1, hx, shareD, hn]
def r_is_right : Ev.Env → RS :=
  (seqS (setS 6 (callE sem_contract_score [(getE 1), (getE 2), (getE 3), (getE 4), (getE 5)]))
  (seqS (ifS (orT (tstE (conE [.b 6, .e (callE sem__law_score [(getE 1), (getE 2), (getE 3), (getE 4), (getE 5)])] neS)) (tstE (conE [.e (conE [.b 6, .e (cE (.int 0))] gtS), .e (conE [.b 5, .e (conE [.b 1, .e (cE (.int 6))] addS)] geS)] neS))) (retS (cE (.bl false))) nextS)
  (seqS (ifS (andT (tstE (conE [.b 5, .e (cE (.int 13))] ltS)) (tstE (conE [.e (callE sem_contract_score [(getE 1), (getE 2), (getE 3), (getE 4), (conE [.b 5, .e (cE (.int 1))] addS)]), .b 6] ltS))) (retS (cE (.bl false))) nextS)
  (seqS (setS 7 (callE sem_contract_score [(getE 1), (getE 2), (cE (.int 0)), (getE 4), (getE 5)]))
  (retS (iteE (tstE (conE [.b 6, .e (cE (.int 0))] ltS)) (conE [.b 6, .b 7] leS) (conE [.b 6, .b 7] geS)))))))
def r_are_refused : Ev.Env → RS :=
  (seqS (setS 6 (lstE [(lamE (wordF 4 w__law_word) (callE sem_contract_score [(getE 1), (getE 2), (getE 3), (getE 4), (getE 5)]))]))
  (seqS (exprS (mutE isLst appM 6 [(lamE (wordF 4 w__law_word) (callE sem_contract_score [(cE (.int 1)), (getE 2), (getE 3), (getE 4), (getE 5)]))]))
  (seqS (exprS (mutE isLst appM 6 [(lamE (wordF 4 w__law_word) (callE sem_contract_score [(cE (.int 1)), (cE (.str "c")), (getE 3), (getE 4), (getE 5)]))]))
  (seqS (exprS (mutE isLst appM 6 [(lamE (wordF 4 w__law_word) (callE sem_contract_score [(cE (.int 1)), (cE (.str "c")), (cE (.int 0)), (getE 4), (getE 5)]))]))
  (seqS (exprS (mutE isLst appM 6 [(lamE (wordF 4 w__law_word) (callE sem_contract_score [(cE (.int 1)), (cE (.str "c")), (cE (.int 0)), (cE (.bl false)), (getE 5)]))]))
  (retS (conE [.b 6, .e (lstE [(cE (.str "figure")), (cE (.str "strain")), (cE (.str "times")), (cE (.str "flag")), (cE (.str "tricks"))])] eqS)))))))
def prj (r : RS) : Option D := match r with
  | .ret (.bl true) (some x :: _) => some x
  | _ => none
def sStr : List D := chrs "cdhsn"
def in1 : List (Int × Bool × Int) := (List.range 3).flatMap fun (d : Nat) => [true, false].flatMap fun h => (List.range 14).map fun (t : Nat) => (((d : Nat) : Int), h, ((t : Nat) : Int))
def e1 (b : D) (f : Int) (s : D) (x : Int × Bool × Int) : Ev.Env := [some b, some (.int f), some s, some (.int x.1), some (.bl x.2.1), some (.int x.2.2), none, none]
def l1 : List D := [.non, .int 0, .int 8, .bl true, .str "1"]
def l2 : List D := [.non, .str "", .str "C", .str "nt", .int 3, .tup [.str "c"]]
def l3 : List D := [.non, .int (-1), .int 3, .bl true, .str "x"]
def l4 : List D := [.non, .int 0, .int 1, .str "yes"]
def l5 : List D := [.non, .int (-1), .int 14, .bl true, .str "7"]
def in2 : List (D × D × D) := l3.flatMap fun d => l4.flatMap fun h => l5.map fun t => (d, h, t)
def e2 (b f s : D) (x : D × D × D) : Ev.Env := [some b, some f, some s, some x.1, some x.2.1, some x.2.2, none]
end EvL

end T_L39B
section T_L39T
set_option Elab.async false
set_option linter.all false
set_option maxRecDepth 100000
set_option maxHeartbeats 4000000
/-! k39, the tables: every case, by the kernel. -/
namespace EvL
open PySem PySem.Spec L2 Ev
open PyProof.Rows hiding St
theorem ra_1_0 (b : D) : (in1.map fun x => prj (r_is_right (e1 b 1 (.str ⟨#[99]⟩) x))) = List.replicate 84 (some b) := by kernel_rfl
theorem ra_1_1 (b : D) : (in1.map fun x => prj (r_is_right (e1 b 1 (.str ⟨#[100]⟩) x))) = List.replicate 84 (some b) := by kernel_rfl
theorem ra_1_2 (b : D) : (in1.map fun x => prj (r_is_right (e1 b 1 (.str ⟨#[104]⟩) x))) = List.replicate 84 (some b) := by kernel_rfl
theorem ra_1_3 (b : D) : (in1.map fun x => prj (r_is_right (e1 b 1 (.str ⟨#[115]⟩) x))) = List.replicate 84 (some b) := by kernel_rfl
theorem ra_1_4 (b : D) : (in1.map fun x => prj (r_is_right (e1 b 1 (.str ⟨#[110]⟩) x))) = List.replicate 84 (some b) := by kernel_rfl
theorem ra_2_0 (b : D) : (in1.map fun x => prj (r_is_right (e1 b 2 (.str ⟨#[99]⟩) x))) = List.replicate 84 (some b) := by kernel_rfl
theorem ra_2_1 (b : D) : (in1.map fun x => prj (r_is_right (e1 b 2 (.str ⟨#[100]⟩) x))) = List.replicate 84 (some b) := by kernel_rfl
theorem ra_2_2 (b : D) : (in1.map fun x => prj (r_is_right (e1 b 2 (.str ⟨#[104]⟩) x))) = List.replicate 84 (some b) := by kernel_rfl
theorem ra_2_3 (b : D) : (in1.map fun x => prj (r_is_right (e1 b 2 (.str ⟨#[115]⟩) x))) = List.replicate 84 (some b) := by kernel_rfl
theorem ra_2_4 (b : D) : (in1.map fun x => prj (r_is_right (e1 b 2 (.str ⟨#[110]⟩) x))) = List.replicate 84 (some b) := by kernel_rfl
theorem ra_3_0 (b : D) : (in1.map fun x => prj (r_is_right (e1 b 3 (.str ⟨#[99]⟩) x))) = List.replicate 84 (some b) := by kernel_rfl
theorem ra_3_1 (b : D) : (in1.map fun x => prj (r_is_right (e1 b 3 (.str ⟨#[100]⟩) x))) = List.replicate 84 (some b) := by kernel_rfl
theorem ra_3_2 (b : D) : (in1.map fun x => prj (r_is_right (e1 b 3 (.str ⟨#[104]⟩) x))) = List.replicate 84 (some b) := by kernel_rfl
theorem ra_3_3 (b : D) : (in1.map fun x => prj (r_is_right (e1 b 3 (.str ⟨#[115]⟩) x))) = List.replicate 84 (some b) := by kernel_rfl
theorem ra_3_4 (b : D) : (in1.map fun x => prj (r_is_right (e1 b 3 (.str ⟨#[110]⟩) x))) = List.replicate 84 (some b) := by kernel_rfl
theorem ra_4_0 (b : D) : (in1.map fun x => prj (r_is_right (e1 b 4 (.str ⟨#[99]⟩) x))) = List.replicate 84 (some b) := by kernel_rfl
theorem ra_4_1 (b : D) : (in1.map fun x => prj (r_is_right (e1 b 4 (.str ⟨#[100]⟩) x))) = List.replicate 84 (some b) := by kernel_rfl
theorem ra_4_2 (b : D) : (in1.map fun x => prj (r_is_right (e1 b 4 (.str ⟨#[104]⟩) x))) = List.replicate 84 (some b) := by kernel_rfl
theorem ra_4_3 (b : D) : (in1.map fun x => prj (r_is_right (e1 b 4 (.str ⟨#[115]⟩) x))) = List.replicate 84 (some b) := by kernel_rfl
theorem ra_4_4 (b : D) : (in1.map fun x => prj (r_is_right (e1 b 4 (.str ⟨#[110]⟩) x))) = List.replicate 84 (some b) := by kernel_rfl
theorem ra_5_0 (b : D) : (in1.map fun x => prj (r_is_right (e1 b 5 (.str ⟨#[99]⟩) x))) = List.replicate 84 (some b) := by kernel_rfl
theorem ra_5_1 (b : D) : (in1.map fun x => prj (r_is_right (e1 b 5 (.str ⟨#[100]⟩) x))) = List.replicate 84 (some b) := by kernel_rfl
theorem ra_5_2 (b : D) : (in1.map fun x => prj (r_is_right (e1 b 5 (.str ⟨#[104]⟩) x))) = List.replicate 84 (some b) := by kernel_rfl
theorem ra_5_3 (b : D) : (in1.map fun x => prj (r_is_right (e1 b 5 (.str ⟨#[115]⟩) x))) = List.replicate 84 (some b) := by kernel_rfl
theorem ra_5_4 (b : D) : (in1.map fun x => prj (r_is_right (e1 b 5 (.str ⟨#[110]⟩) x))) = List.replicate 84 (some b) := by kernel_rfl
theorem ra_6_0 (b : D) : (in1.map fun x => prj (r_is_right (e1 b 6 (.str ⟨#[99]⟩) x))) = List.replicate 84 (some b) := by kernel_rfl
theorem ra_6_1 (b : D) : (in1.map fun x => prj (r_is_right (e1 b 6 (.str ⟨#[100]⟩) x))) = List.replicate 84 (some b) := by kernel_rfl
theorem ra_6_2 (b : D) : (in1.map fun x => prj (r_is_right (e1 b 6 (.str ⟨#[104]⟩) x))) = List.replicate 84 (some b) := by kernel_rfl
theorem ra_6_3 (b : D) : (in1.map fun x => prj (r_is_right (e1 b 6 (.str ⟨#[115]⟩) x))) = List.replicate 84 (some b) := by kernel_rfl
theorem ra_6_4 (b : D) : (in1.map fun x => prj (r_is_right (e1 b 6 (.str ⟨#[110]⟩) x))) = List.replicate 84 (some b) := by kernel_rfl
theorem ra_7_0 (b : D) : (in1.map fun x => prj (r_is_right (e1 b 7 (.str ⟨#[99]⟩) x))) = List.replicate 84 (some b) := by kernel_rfl
theorem ra_7_1 (b : D) : (in1.map fun x => prj (r_is_right (e1 b 7 (.str ⟨#[100]⟩) x))) = List.replicate 84 (some b) := by kernel_rfl
theorem ra_7_2 (b : D) : (in1.map fun x => prj (r_is_right (e1 b 7 (.str ⟨#[104]⟩) x))) = List.replicate 84 (some b) := by kernel_rfl
theorem ra_7_3 (b : D) : (in1.map fun x => prj (r_is_right (e1 b 7 (.str ⟨#[115]⟩) x))) = List.replicate 84 (some b) := by kernel_rfl
theorem ra_7_4 (b : D) : (in1.map fun x => prj (r_is_right (e1 b 7 (.str ⟨#[110]⟩) x))) = List.replicate 84 (some b) := by kernel_rfl
theorem rb_0_0 (b : D) : (in2.map fun x => prj (r_are_refused (e2 b (.non) (.non) x))) = List.replicate 100 (some b) := by kernel_rfl
theorem rb_0_1 (b : D) : (in2.map fun x => prj (r_are_refused (e2 b (.non) (.str "") x))) = List.replicate 100 (some b) := by kernel_rfl
theorem rb_0_2 (b : D) : (in2.map fun x => prj (r_are_refused (e2 b (.non) (.str "C") x))) = List.replicate 100 (some b) := by kernel_rfl
theorem rb_0_3 (b : D) : (in2.map fun x => prj (r_are_refused (e2 b (.non) (.str "nt") x))) = List.replicate 100 (some b) := by kernel_rfl
theorem rb_0_4 (b : D) : (in2.map fun x => prj (r_are_refused (e2 b (.non) (.int 3) x))) = List.replicate 100 (some b) := by kernel_rfl
theorem rb_0_5 (b : D) : (in2.map fun x => prj (r_are_refused (e2 b (.non) (.tup [.str "c"]) x))) = List.replicate 100 (some b) := by kernel_rfl
theorem rb_1_0 (b : D) : (in2.map fun x => prj (r_are_refused (e2 b (.int 0) (.non) x))) = List.replicate 100 (some b) := by kernel_rfl
theorem rb_1_1 (b : D) : (in2.map fun x => prj (r_are_refused (e2 b (.int 0) (.str "") x))) = List.replicate 100 (some b) := by kernel_rfl
theorem rb_1_2 (b : D) : (in2.map fun x => prj (r_are_refused (e2 b (.int 0) (.str "C") x))) = List.replicate 100 (some b) := by kernel_rfl
theorem rb_1_3 (b : D) : (in2.map fun x => prj (r_are_refused (e2 b (.int 0) (.str "nt") x))) = List.replicate 100 (some b) := by kernel_rfl
theorem rb_1_4 (b : D) : (in2.map fun x => prj (r_are_refused (e2 b (.int 0) (.int 3) x))) = List.replicate 100 (some b) := by kernel_rfl
theorem rb_1_5 (b : D) : (in2.map fun x => prj (r_are_refused (e2 b (.int 0) (.tup [.str "c"]) x))) = List.replicate 100 (some b) := by kernel_rfl
theorem rb_2_0 (b : D) : (in2.map fun x => prj (r_are_refused (e2 b (.int 8) (.non) x))) = List.replicate 100 (some b) := by kernel_rfl
theorem rb_2_1 (b : D) : (in2.map fun x => prj (r_are_refused (e2 b (.int 8) (.str "") x))) = List.replicate 100 (some b) := by kernel_rfl
theorem rb_2_2 (b : D) : (in2.map fun x => prj (r_are_refused (e2 b (.int 8) (.str "C") x))) = List.replicate 100 (some b) := by kernel_rfl
theorem rb_2_3 (b : D) : (in2.map fun x => prj (r_are_refused (e2 b (.int 8) (.str "nt") x))) = List.replicate 100 (some b) := by kernel_rfl
theorem rb_2_4 (b : D) : (in2.map fun x => prj (r_are_refused (e2 b (.int 8) (.int 3) x))) = List.replicate 100 (some b) := by kernel_rfl
theorem rb_2_5 (b : D) : (in2.map fun x => prj (r_are_refused (e2 b (.int 8) (.tup [.str "c"]) x))) = List.replicate 100 (some b) := by kernel_rfl
theorem rb_3_0 (b : D) : (in2.map fun x => prj (r_are_refused (e2 b (.bl true) (.non) x))) = List.replicate 100 (some b) := by kernel_rfl
theorem rb_3_1 (b : D) : (in2.map fun x => prj (r_are_refused (e2 b (.bl true) (.str "") x))) = List.replicate 100 (some b) := by kernel_rfl
theorem rb_3_2 (b : D) : (in2.map fun x => prj (r_are_refused (e2 b (.bl true) (.str "C") x))) = List.replicate 100 (some b) := by kernel_rfl
theorem rb_3_3 (b : D) : (in2.map fun x => prj (r_are_refused (e2 b (.bl true) (.str "nt") x))) = List.replicate 100 (some b) := by kernel_rfl
theorem rb_3_4 (b : D) : (in2.map fun x => prj (r_are_refused (e2 b (.bl true) (.int 3) x))) = List.replicate 100 (some b) := by kernel_rfl
theorem rb_3_5 (b : D) : (in2.map fun x => prj (r_are_refused (e2 b (.bl true) (.tup [.str "c"]) x))) = List.replicate 100 (some b) := by kernel_rfl
theorem rb_4_0 (b : D) : (in2.map fun x => prj (r_are_refused (e2 b (.str "1") (.non) x))) = List.replicate 100 (some b) := by kernel_rfl
theorem rb_4_1 (b : D) : (in2.map fun x => prj (r_are_refused (e2 b (.str "1") (.str "") x))) = List.replicate 100 (some b) := by kernel_rfl
theorem rb_4_2 (b : D) : (in2.map fun x => prj (r_are_refused (e2 b (.str "1") (.str "C") x))) = List.replicate 100 (some b) := by kernel_rfl
theorem rb_4_3 (b : D) : (in2.map fun x => prj (r_are_refused (e2 b (.str "1") (.str "nt") x))) = List.replicate 100 (some b) := by kernel_rfl
theorem rb_4_4 (b : D) : (in2.map fun x => prj (r_are_refused (e2 b (.str "1") (.int 3) x))) = List.replicate 100 (some b) := by kernel_rfl
theorem rb_4_5 (b : D) : (in2.map fun x => prj (r_are_refused (e2 b (.str "1") (.tup [.str "c"]) x))) = List.replicate 100 (some b) := by kernel_rfl
end EvL

end T_L39T
section T_L39C
set_option Elab.async false
set_option linter.all false
set_option maxRecDepth 100000
set_option maxHeartbeats 4000000
/-! k39, the plain law: the law's def answers True. -/
namespace EvL
open PySem PySem.Spec L2 Ev
open PyProof.Rows hiding St
theorem tab_mem {α β : Type} {l : List α} {f : α → β} {n : Nat} {b : β} (h : l.map f = List.replicate n b) {x : α} (hx : x ∈ l) : f x = b := List.eq_of_mem_replicate (h ▸ List.mem_map_of_mem hx)
theorem prj_eq {r : RS} {b : D} (h : prj r = some b) : ∃ ρ, r = .ret (.bl true) (some b :: ρ) := by
  unfold prj at h
  split at h
  · cases h; exact ⟨_, rfl⟩
  · cases h
theorem mem_in1 {d t : Int} {h : Bool} (d0 : 0 ≤ d) (d1 : d < 3) (t0 : 0 ≤ t) (t1 : t < 14) : (d, h, t) ∈ in1 := by
  unfold in1
  simp only [List.mem_flatMap, List.mem_map, List.mem_range]
  refine ⟨d.toNat, by omega, h, by cases h <;> simp, t.toNat, by omega, ?_⟩
  rw [Int.toNat_of_nonneg d0, Int.toNat_of_nonneg t0]
theorem mem_in2 {d h t : D} (hd : d ∈ l3) (hh : h ∈ l4) (ht : t ∈ l5) : (d, h, t) ∈ in2 := by
  unfold in2
  simp only [List.mem_flatMap, List.mem_map]
  exact ⟨d, hd, h, hh, t, ht, rfl⟩
theorem right_all (b : D) {r1 d t : Int} {s : D} {h : Bool} (a0 : 0 ≤ r1) (a1 : r1 < 7) (hs : s ∈ sStr) (d0 : 0 ≤ d) (d1 : d < 3) (t0 : 0 ≤ t) (t1 : t < 14) : ∃ ρ, r_is_right (e1 b (1 + r1) s (d, h, t)) = .ret (.bl true) (some b :: ρ) := by
  have hm := mem_in1 (h := h) d0 d1 t0 t1
  have hr : r1 = 0 ∨ r1 = 1 ∨ r1 = 2 ∨ r1 = 3 ∨ r1 = 4 ∨ r1 = 5 ∨ r1 = 6 := by omega
  have hs' : s = .str ⟨#[99]⟩ ∨ s = .str ⟨#[100]⟩ ∨ s = .str ⟨#[104]⟩ ∨ s = .str ⟨#[115]⟩ ∨ s = .str ⟨#[110]⟩ := by
    have e : sStr = [.str ⟨#[99]⟩, .str ⟨#[100]⟩, .str ⟨#[104]⟩, .str ⟨#[115]⟩, .str ⟨#[110]⟩] := by kernel_rfl
    rw [e] at hs
    simpa using hs
  rcases hr with rfl | rfl | rfl | rfl | rfl | rfl | rfl <;> rcases hs' with rfl | rfl | rfl | rfl | rfl
  · exact prj_eq (tab_mem (ra_1_0 b) hm)
  · exact prj_eq (tab_mem (ra_1_1 b) hm)
  · exact prj_eq (tab_mem (ra_1_2 b) hm)
  · exact prj_eq (tab_mem (ra_1_3 b) hm)
  · exact prj_eq (tab_mem (ra_1_4 b) hm)
  · exact prj_eq (tab_mem (ra_2_0 b) hm)
  · exact prj_eq (tab_mem (ra_2_1 b) hm)
  · exact prj_eq (tab_mem (ra_2_2 b) hm)
  · exact prj_eq (tab_mem (ra_2_3 b) hm)
  · exact prj_eq (tab_mem (ra_2_4 b) hm)
  · exact prj_eq (tab_mem (ra_3_0 b) hm)
  · exact prj_eq (tab_mem (ra_3_1 b) hm)
  · exact prj_eq (tab_mem (ra_3_2 b) hm)
  · exact prj_eq (tab_mem (ra_3_3 b) hm)
  · exact prj_eq (tab_mem (ra_3_4 b) hm)
  · exact prj_eq (tab_mem (ra_4_0 b) hm)
  · exact prj_eq (tab_mem (ra_4_1 b) hm)
  · exact prj_eq (tab_mem (ra_4_2 b) hm)
  · exact prj_eq (tab_mem (ra_4_3 b) hm)
  · exact prj_eq (tab_mem (ra_4_4 b) hm)
  · exact prj_eq (tab_mem (ra_5_0 b) hm)
  · exact prj_eq (tab_mem (ra_5_1 b) hm)
  · exact prj_eq (tab_mem (ra_5_2 b) hm)
  · exact prj_eq (tab_mem (ra_5_3 b) hm)
  · exact prj_eq (tab_mem (ra_5_4 b) hm)
  · exact prj_eq (tab_mem (ra_6_0 b) hm)
  · exact prj_eq (tab_mem (ra_6_1 b) hm)
  · exact prj_eq (tab_mem (ra_6_2 b) hm)
  · exact prj_eq (tab_mem (ra_6_3 b) hm)
  · exact prj_eq (tab_mem (ra_6_4 b) hm)
  · exact prj_eq (tab_mem (ra_7_0 b) hm)
  · exact prj_eq (tab_mem (ra_7_1 b) hm)
  · exact prj_eq (tab_mem (ra_7_2 b) hm)
  · exact prj_eq (tab_mem (ra_7_3 b) hm)
  · exact prj_eq (tab_mem (ra_7_4 b) hm)
theorem refused_all (b : D) {f s d h t : D} (hf : f ∈ l1) (hs : s ∈ l2) (hd : d ∈ l3) (hh : h ∈ l4) (ht : t ∈ l5) : ∃ ρ, r_are_refused (e2 b f s (d, h, t)) = .ret (.bl true) (some b :: ρ) := by
  have hm := mem_in2 hd hh ht
  simp only [l1, List.mem_cons, List.not_mem_nil, or_false] at hf
  simp only [l2, List.mem_cons, List.not_mem_nil, or_false] at hs
  rcases hf with rfl | rfl | rfl | rfl | rfl <;> rcases hs with rfl | rfl | rfl | rfl | rfl | rfl
  · exact prj_eq (tab_mem (rb_0_0 b) hm)
  · exact prj_eq (tab_mem (rb_0_1 b) hm)
  · exact prj_eq (tab_mem (rb_0_2 b) hm)
  · exact prj_eq (tab_mem (rb_0_3 b) hm)
  · exact prj_eq (tab_mem (rb_0_4 b) hm)
  · exact prj_eq (tab_mem (rb_0_5 b) hm)
  · exact prj_eq (tab_mem (rb_1_0 b) hm)
  · exact prj_eq (tab_mem (rb_1_1 b) hm)
  · exact prj_eq (tab_mem (rb_1_2 b) hm)
  · exact prj_eq (tab_mem (rb_1_3 b) hm)
  · exact prj_eq (tab_mem (rb_1_4 b) hm)
  · exact prj_eq (tab_mem (rb_1_5 b) hm)
  · exact prj_eq (tab_mem (rb_2_0 b) hm)
  · exact prj_eq (tab_mem (rb_2_1 b) hm)
  · exact prj_eq (tab_mem (rb_2_2 b) hm)
  · exact prj_eq (tab_mem (rb_2_3 b) hm)
  · exact prj_eq (tab_mem (rb_2_4 b) hm)
  · exact prj_eq (tab_mem (rb_2_5 b) hm)
  · exact prj_eq (tab_mem (rb_3_0 b) hm)
  · exact prj_eq (tab_mem (rb_3_1 b) hm)
  · exact prj_eq (tab_mem (rb_3_2 b) hm)
  · exact prj_eq (tab_mem (rb_3_3 b) hm)
  · exact prj_eq (tab_mem (rb_3_4 b) hm)
  · exact prj_eq (tab_mem (rb_3_5 b) hm)
  · exact prj_eq (tab_mem (rb_4_0 b) hm)
  · exact prj_eq (tab_mem (rb_4_1 b) hm)
  · exact prj_eq (tab_mem (rb_4_2 b) hm)
  · exact prj_eq (tab_mem (rb_4_3 b) hm)
  · exact prj_eq (tab_mem (rb_4_4 b) hm)
  · exact prj_eq (tab_mem (rb_4_5 b) hm)
theorem hl_c : listS2 [.str "cdhsn"] = some (.lst true sStr) := by kernel_rfl
theorem right_ok (g : List Int) (s n k : Int) : ∃ g' s' k', sem__law_is_right [bagD g s n k] = .ok (.bl true) [bagD g' s' n k'] := by
  obtain ⟨r1, g1, s1, k1, a0, a1, p1⟩ := pick_ok g s n k 7 (by decide) (by decide)
  obtain ⟨c, g2, s2, k2, hc, p2⟩ := some_ok g1 s1 n k1 true sStr (by decide) (by decide) (by decide)
  obtain ⟨r3, g3, s3, k3, c0, c1, p3⟩ := pick_ok g2 s2 n k2 3 (by decide) (by decide)
  obtain ⟨r4, g4, s4, k4, d0, d1, p4⟩ := pick_ok g3 s3 n k3 2 (by decide) (by decide)
  obtain ⟨r5, g5, s5, k5, e0, e1', p5⟩ := pick_ok g4 s4 n k4 14 (by decide) (by decide)
  obtain ⟨ρ, hρ⟩ := right_all (bagD g5 s5 n k5) (h := decide (r4 = 1)) a0 a1 hc c0 c1 e0 e1'
  refine ⟨g5, s5, k5, run_ret (ρ := ρ) ?_⟩
  show s__law_is_right [some (bagD g s n k), none, none, none, none, none, none, none] = _
  have hd : s__law_is_right = seqS _ (seqS _ r_is_right) := rfl
  rw [hd]
  rw [seq_next (ρ1 := [some (bagD g3 s3 n k3), some (.int (1 + r1)), some c, some (.int r3), none, none, none, none]) (by simp [seqS, ifS, retS, tstE, conE, evOps, datOps, Res.bind, Res.rs, RS.then, cE, nextS, setS, parS, setAll, tgS, tgT, tgAll, tgN, tupE, lstE, evAll, addS, eqS, exprS, callIO, callE, getE, negS, p1, p2, p3, hl_c])]
  rw [seq_next (ρ1 := e1 (bagD g5 s5 n k5) (1 + r1) c (r3, decide (r4 = 1), r5)) (by simp [seqS, ifS, retS, tstE, conE, evOps, datOps, Res.bind, Res.rs, RS.then, cE, nextS, setS, parS, setAll, tgS, tgT, tgAll, tgN, tupE, lstE, evAll, addS, eqS, exprS, callIO, callE, getE, negS, p4, p5, e1])]
  exact hρ
theorem refused_ok (g : List Int) (s n k : Int) : ∃ g' s' k', sem__law_are_refused [bagD g s n k] = .ok (.bl true) [bagD g' s' n k'] := by
  obtain ⟨x1, g1, s1, k1, m1, p1⟩ := some_ok g s n k true l1 (by decide) (by decide) (by decide)
  obtain ⟨x2, g2, s2, k2, m2, p2⟩ := some_ok g1 s1 n k1 true l2 (by decide) (by decide) (by decide)
  obtain ⟨x3, g3, s3, k3, m3, p3⟩ := some_ok g2 s2 n k2 true l3 (by decide) (by decide) (by decide)
  obtain ⟨x4, g4, s4, k4, m4, p4⟩ := some_ok g3 s3 n k3 true l4 (by decide) (by decide) (by decide)
  obtain ⟨x5, g5, s5, k5, m5, p5⟩ := some_ok g4 s4 n k4 true l5 (by decide) (by decide) (by decide)
  obtain ⟨ρ, hρ⟩ := refused_all (bagD g5 s5 n k5) m1 m2 m3 m4 m5
  refine ⟨g5, s5, k5, run_ret (ρ := ρ) ?_⟩
  show s__law_are_refused [some (bagD g s n k), none, none, none, none, none, none] = _
  have hd : s__law_are_refused = seqS _ (seqS _ (seqS _ r_are_refused)) := rfl
  rw [hd]
  simp only [l1] at p1; simp only [l2] at p2; simp only [l3] at p3; simp only [l4] at p4; simp only [l5] at p5
  rw [seq_next (ρ1 := [some (bagD g2 s2 n k2), some x1, some x2, none, none, none, none]) (by simp [seqS, ifS, retS, tstE, conE, evOps, datOps, Res.bind, Res.rs, RS.then, cE, nextS, setS, parS, setAll, tgS, tgT, tgAll, tgN, tupE, lstE, evAll, addS, eqS, exprS, callIO, callE, getE, negS, p1, p2])]
  rw [seq_next (ρ1 := [some (bagD g4 s4 n k4), some x1, some x2, some x3, some x4, none, none]) (by simp [seqS, ifS, retS, tstE, conE, evOps, datOps, Res.bind, Res.rs, RS.then, cE, nextS, setS, parS, setAll, tgS, tgT, tgAll, tgN, tupE, lstE, evAll, addS, eqS, exprS, callIO, callE, getE, negS, p3, p4])]
  rw [seq_next (ρ1 := e2 (bagD g5 s5 n k5) x1 x2 (x3, x4, x5)) (by simp [seqS, ifS, retS, tstE, conE, evOps, datOps, Res.bind, Res.rs, RS.then, cE, nextS, setS, parS, setAll, tgS, tgT, tgAll, tgN, tupE, lstE, evAll, addS, eqS, exprS, callIO, callE, getE, negS, p5, e2])]
  exact hρ
def r_law : Ev.Env → RS :=
  (seqS (setS 2 (lstE [(callE sem_contract_score [(cE (.int 1)), (cE (.str "n")), (cE (.int 0)), (cE (.bl false)), (cE (.int 7))]), (callE sem_contract_score [(cE (.int 4)), (cE (.str "s")), (cE (.int 0)), (cE (.bl true)), (cE (.int 10))])]))
  (seqS (exprS (mutE isLst appM 2 [(callE sem_contract_score [(cE (.int 7)), (cE (.str "n")), (cE (.int 2)), (cE (.bl true)), (cE (.int 13))])]))
  (seqS (ifS (orT (tstE (conE [.b 2, .e (lstE [(cE (.int 90)), (cE (.int 620)), (cE (.int 2980))])] neS)) (tstE (conE [.e (callE sem_contract_score [(cE (.int 3)), (cE (.str "c")), (cE (.int 1)), (cE (.bl false)), (cE (.int 6))]), .e (conE [.e (cE (.int 0)), .e (cE (.int 500))] subS)] neS))) (retS (cE (.bl false))) nextS)
  (seqS (ifS (orT (tstE (conE [.e (callE sem_contract_score [(cE (.int 2)), (cE (.str "h")), (cE (.int 1)), (cE (.bl false)), (cE (.int 9))]), .e (cE (.int 570))] neS)) (tstE (conE [.e (callE sem_contract_score [(cE (.int 6)), (cE (.str "d")), (cE (.int 0)), (cE (.bl false)), (cE (.int 12))]), .e (cE (.int 920))] neS))) (retS (cE (.bl false))) nextS)
  (retS (conE [.e (lcE (rng1E (cE (.int 8))) (tgN 3) yesT (andE (callIO sem__law_is_right 1 []) (callIO sem__law_are_refused 1 [])) [3])] allS))))))
def r_law2 : Ev.Env → RS :=
  (retS (conE [.e (lcE (rng1E (cE (.int 8))) (tgN 3) yesT (andE (callIO sem__law_is_right 1 []) (callIO sem__law_are_refused 1 [])) [3])] allS))
def tb : Ev.Env → Res Bool := (tstE (conE [.e (conE [.e (conE [.b 3] intS)] absS), .e (conE [.e (cE (.int 10)), .e (cE (.int 18))] powS)] geS))
def fb : Ev.Env → Res D := (conE [.e (conE [.b 3] intS)] absS)
def sl : Ev.Env → Res D := (slcE (.b 0) none (some (cE (.int 63))))
def wb : Ev.Env → RS := (setS 2 (conE [.e (conE [.e (conE [.e (conE [.e (conE [.e (conE [.b 2, .e (cE (.int 69621))] mulS), .e (conE [.e (conE [.e (conE [.b 3] intS)] absS), .e (cE (.int 2))] mulS)] addS), .e (conE [.e (conE [.e (conE [.b 3] intS), .e (cE (.int 0))] ltS)] intS)] addS), .e (cE (.int 17))] addS)] intS), .e (cE (.int 2147483629))] modS))
/-! ### the bag -/
theorem noOwns_ints : ∀ l : List Int, noOwns (l.map .int) = true
  | [] => rfl
  | x :: l => by simp only [List.map_cons, noOwns, noOwn, noOwns_ints l, Bool.and_self]
theorem walk_ints (l : List Int) (o : Bool) : walkOf (.lst o (l.map .int)) = some (l.map .int) := by
  simp only [walkOf, noOwns_ints l, if_true]
theorem cut_ints (l : List Int) (lo hi : Option Int) : ∃ m : List Int, Ev.cutD (l.map D.int) lo hi = m.map .int ∧ m.length ≤ l.length := by
  unfold Ev.cutD
  rw [← List.map_drop, ← List.map_take]
  exact ⟨_, rfl, by rw [List.length_take, List.length_drop]; omega⟩
theorem tb_ok (ρ : Ev.Env) (c : Int) (h : ρ[3]? = some (some (.int c))) : ∃ b, tb ρ = .ok b ρ := by
  have hp : powS [.int 10, .int 18] = some (.int (10 ^ 18)) := by kernel_rfl
  simp [tb, tstE, conE, evOps, datOps, Res.bind, h, intS, absS, cE, hp, geS]
theorem fb_ok (ρ : Ev.Env) (c : Int) (h : ρ[3]? = some (some (.int c))) : ∃ x : Int, fb ρ = .ok (.int x) ρ := by
  simp [fb, conE, evOps, datOps, Res.bind, h, intS, absS]
theorem lc_ok (a : D) : ∀ (m acc : List Int), acc.length + m.length ≤ 1000 → ∃ g : List Int, lcL (tgN 3) tb fb [3] (m.map .int) (acc.map .int) [some a, none, none, none] = .ok (.lst true (g.map .int)) [some a, none, none, none]
  | [], acc, _ => ⟨acc, rfl⟩
  | c :: m, acc, h => by
    obtain ⟨b, hb⟩ := tb_ok [some a, none, none, some (.int c)] c rfl
    obtain ⟨x, hx⟩ := fb_ok [some a, none, none, some (.int c)] c rfl
    have hl : (acc.map D.int).length < sizeLine := by
      rw [List.length_map]
      have : (1000 : Nat) < sizeLine := by decide
      simp only [List.length_cons] at h
      omega
    have ht : tgN 3 (.int c) [some a, none, none, none] = some [some a, none, none, some (.int c)] := rfl
    have hw : wipeE [some a, none, none, some (.int c)] [3] = [some a, none, none, none] := rfl
    simp only [List.map_cons, lcL, ht, hb, hx, hw, if_pos hl]
    cases b with
    | false =>
      simp only [Bool.false_eq_true, if_false]
      exact lc_ok a m acc (by simp only [List.length_cons] at h; omega)
    | true =>
      simp only [if_true]
      have e : acc.map D.int ++ [.int x] = (acc ++ [x]).map .int := by simp
      rw [e]
      exact lc_ok a m (acc ++ [x]) (by simp only [List.length_cons, List.length_append, List.length_nil] at h ⊢; omega)
theorem wb_ok (a g : D) (s c : Int) : ∃ s', wb [some a, some g, some (.int s), some (.int c)] = .next [some a, some g, some (.int s'), some (.int c)] := by
  simp [wb, setS, conE, evOps, datOps, Res.bind, Res.rs, cE, mulS, mulOk, addS, intS, absS, ltS, modS]
theorem for_ok (a g : D) : ∀ (m : List Int) (s : Int) (x : Option D), ∃ s' y, forL (tgN 3) wb (m.map .int) [some a, some g, some (.int s), x] = .next [some a, some g, some (.int s'), y]
  | [], s, x => ⟨s, x, rfl⟩
  | c :: m, s, x => by
    obtain ⟨s1, h1⟩ := wb_ok a g s c
    have ht : tgN 3 (.int c) [some a, some g, some (.int s), x] = some [some a, some g, some (.int s), some (.int c)] := rfl
    obtain ⟨s2, y, h2⟩ := for_ok a g m s1 (some (.int c))
    refine ⟨s2, y, ?_⟩
    simp only [List.map_cons, forL, ht, h1]
    exact h2
theorem sl_ok (ns : List Int) (r : Ev.Env) : ∃ m : List Int, m.length ≤ ns.length ∧ sl (some (.lst false (ns.map .int)) :: r) = .ok (.lst true (m.map .int)) (some (.lst false (ns.map .int)) :: r) := by
  obtain ⟨m, h1, h2⟩ := cut_ints ns none (some 63)
  refine ⟨m, h2, ?_⟩
  simp [sl, slcE, evOps, evPart, Res.bind, datOps, cE, cutS', noOwns_ints, h1]
theorem bag_ok (ns : List Int) (hn : ns.length ≤ 63) : ∃ g s, sem__law_bag [.lst false (ns.map .int)] = .ok (bagD g s ns.length 0) [] := by
  obtain ⟨m, hm, h1⟩ := sl_ok ns [none, none, none]
  obtain ⟨g, h2⟩ := lc_ok (.lst false (ns.map .int)) m [] (by simp; omega)
  obtain ⟨m', hm', h3⟩ := sl_ok ns [some (.lst true (g.map .int)), some (.int 2039), none]
  obtain ⟨s, y, h4⟩ := for_ok (.lst false (ns.map .int)) (.lst true (g.map .int)) m' 2039 none
  refine ⟨g, s, ?_⟩
  have hd : s__law_bag = seqS (setS 1 (lcE (seqE sl) (tgN 3) tb fb [3])) (seqS (setS 2 (cE (.int 2039))) (seqS (forS (seqE sl) (tgN 3) wb) (retS (lstE [(mvE 1), (mvE 2), (conE [.b 0] lenS), (cE (.int 0))])))) := rfl
  have hr : s__law_bag [some (.lst false (ns.map .int)), none, none, none] = .ret (bagD g s ns.length 0) [some (.lst false (ns.map .int)), none, none, y] := by
    rw [hd]
    rw [seq_next (ρ1 := [some (.lst false (ns.map .int)), some (.lst true (g.map .int)), none, none]) (by
      have h2' := h2
      simp only [List.map_nil] at h2'
      simp only [setS, lcE, seqE, h1, Res.bind, walk_ints, wipeE, List.set_cons_succ, List.set_cons_zero, h2', Res.rs]
      rfl)]
    rw [seq_next (f := setS 2 (cE (.int 2039))) (ρ1 := [some (.lst false (ns.map .int)), some (.lst true (g.map .int)), some (.int 2039), none]) rfl]
    rw [seq_next (ρ1 := [some (.lst false (ns.map .int)), some (.lst true (g.map .int)), some (.int s), y]) (by
      simp only [forS, seqE, h3, Res.bind, walk_ints, Res.rs, h4])]
    simp [retS, lstE, evAll, mvE, conE, evOps, datOps, Res.bind, Res.rs, lenS, cE, bagD]
  show runF 4 false s__law_bag [.lst false (ns.map .int)] = _
  unfold runF
  have e0 : startE 4 [.lst false (ns.map D.int)] = [some (.lst false (ns.map .int)), none, none, none] := rfl
  rw [e0, hr]
  rfl
/-! ### the law -/
theorem mid (a b : D) : r_law [some a, some b, none, none] = r_law2 [some a, some b, some (.lst true [.int 90, .int 620, .int 2980]), none] := by kernel_rfl
abbrev lapE : Ev.Env → Res D := andE (callIO sem__law_is_right 1 []) (callIO sem__law_are_refused 1 [])
theorem lap_ok (a kn : D) (x : Option D) (g : List Int) (s n k : Int) : ∃ g' s' k', lapE [some a, some (bagD g s n k), some kn, x] = .ok (.bl true) [some a, some (bagD g' s' n k'), some kn, x] := by
  obtain ⟨g1, s1, k1, p1⟩ := right_ok g s n k
  obtain ⟨g2, s2, k2, p2⟩ := refused_ok g1 s1 n k1
  refine ⟨g2, s2, k2, ?_⟩
  simp [lapE, andE, callIO, evAll, Res.bind, p1, p2]
theorem laps_ok (a kn : D) : ∀ (l : List D) (acc : List D) (g : List Int) (s n k : Int), acc.length + l.length ≤ 1000 → (∀ d ∈ acc, d = .bl true) → ∃ ds ρ, (∀ d ∈ ds, d = .bl true) ∧ lcL (tgN 3) yesT lapE [3] l acc [some a, some (bagD g s n k), some kn, none] = .ok (.lst true ds) ρ
  | [], acc, g, s, n, k, _, ha => ⟨acc, _, ha, rfl⟩
  | c :: l, acc, g, s, n, k, h, ha => by
    obtain ⟨g1, s1, k1, p⟩ := lap_ok a kn (some c) g s n k
    have hl : acc.length < sizeLine := by
      have : (1000 : Nat) < sizeLine := by decide
      simp only [List.length_cons] at h
      omega
    have ht : tgN 3 c [some a, some (bagD g s n k), some kn, none] = some [some a, some (bagD g s n k), some kn, some c] := rfl
    have hw : wipeE [some a, some (bagD g1 s1 n k1), some kn, some c] [3] = [some a, some (bagD g1 s1 n k1), some kn, none] := rfl
    simp only [lcL, ht, yesT, if_true, p, hw, if_pos hl]
    exact laps_ok a kn l (acc ++ [.bl true]) g1 s1 n k1 (by simp only [List.length_cons, List.length_append, List.length_nil] at h ⊢; omega) fun d hd => by
      rcases List.mem_append.mp hd with hd | hd
      · exact ha d hd
      · simpa using hd
theorem bls_true : ∀ ds : List D, (∀ d ∈ ds, d = .bl true) → ∃ bs : List Bool, blsOf ds = some bs ∧ bs.all id = true
  | [], _ => ⟨[], rfl, rfl⟩
  | d :: ds, h => by
    obtain ⟨bs, h1, h2⟩ := bls_true ds fun e he => h e (List.mem_cons_of_mem _ he)
    rw [h d List.mem_cons_self]
    exact ⟨true :: bs, by simp [blsOf, h1], by simp [h2]⟩
theorem law_true : ∀ ns : List Int, ns.length ≤ 63 → (∀ z ∈ ns, Builtin.Int.intBits z ≤ 1048576) → sem_law [.lst false (ns.map .int)] = .ok (.bl true) [] := by
  intro ns hn _
  obtain ⟨g, s, hb⟩ := bag_ok ns hn
  have hd : s_law = seqS (setS 1 (callE sem__law_bag [(getE 0)])) r_law := rfl
  obtain ⟨ds, ρ, hds, hlc⟩ := laps_ok (.lst false (ns.map .int)) (.lst true [.int 90, .int 620, .int 2980]) (rngD 0 8) [] g s ns.length 0 (by simp [rngD]) (by simp)
  obtain ⟨bs, hbs, hall⟩ := bls_true ds hds
  have hr2 : r_law2 = retS (conE [.e (lcE (rng1E (cE (.int 8))) (tgN 3) yesT lapE [3])] allS) := rfl
  have e8 : rng1E (cE (.int 8)) = fun ρ => .ok (rngD 0 8) ρ := rfl
  have fin : s_law [some (.lst false (ns.map .int)), none, none, none] = .ret (.bl true) ρ := by
    rw [hd]
    rw [seq_next (ρ1 := [some (.lst false (ns.map .int)), some (bagD g s ns.length 0), none, none]) (by
      simp [setS, callE, evAll, getE, noOwn, noOwns_ints, Res.bind, Res.rs, hb])]
    rw [mid, hr2, e8]
    have hw : wipeE [some (.lst false (ns.map D.int)), some (bagD g s ns.length 0), some (.lst true [.int 90, .int 620, .int 2980]), none] [3] = [some (.lst false (ns.map .int)), some (bagD g s ns.length 0), some (.lst true [.int 90, .int 620, .int 2980]), none] := rfl
    simp only [retS, conE, evOps, lcE, Res.bind, hw, hlc, datOps, Option.map_some, allS, hbs, hall, Res.rs]
  show runF 4 false s_law [.lst false (ns.map .int)] = _
  unfold runF
  have e0 : startE 4 [.lst false (ns.map D.int)] = [some (.lst false (ns.map .int)), none, none, none] := rfl
  rw [e0, fin]
  rfl
end EvL

end T_L39C
section T_L39H
set_option Elab.async false
set_option linter.all false
set_option maxRecDepth 100000
set_option maxHeartbeats 0
/-! k39_whole_scores_of_contracts: the head. Printed by genH.py. -/
namespace EvL
open PySem PySem.Spec L2 Ev
open PyProof.Rows hiding St
def d_is_integer : He.DefD := ⟨("is_integer", none), "is_integer", "is_integer", defArgs st_is_integer, defBody st_is_integer, defScope st_is_integer, [], []⟩
def d_is_within : He.DefD := ⟨("is_within", none), "is_within", "is_within", defArgs st_is_within, defBody st_is_within, defScope st_is_within, [], []⟩
def d_is_strain : He.DefD := ⟨("is_strain", none), "is_strain", "is_strain", defArgs st_is_strain, defBody st_is_strain, defScope st_is_strain, [], []⟩
def d_check_flag : He.DefD := ⟨("check_flag", none), "check_flag", "check_flag", defArgs st_check_flag, defBody st_check_flag, defScope st_check_flag, [], []⟩
def d_trick_worth : He.DefD := ⟨("trick_worth", none), "trick_worth", "trick_worth", defArgs st_trick_worth, defBody st_trick_worth, defScope st_trick_worth, [], []⟩
def d_doubled_by : He.DefD := ⟨("doubled_by", none), "doubled_by", "doubled_by", defArgs st_doubled_by, defBody st_doubled_by, defScope st_doubled_by, [], []⟩
def d_told_worth : He.DefD := ⟨("told_worth", none), "told_worth", "told_worth", defArgs st_told_worth, defBody st_told_worth, defScope st_told_worth, [], []⟩
def d_slam_worth : He.DefD := ⟨("slam_worth", none), "slam_worth", "slam_worth", defArgs st_slam_worth, defBody st_slam_worth, defScope st_slam_worth, [], []⟩
def d_over_worth : He.DefD := ⟨("over_worth", none), "over_worth", "over_worth", defArgs st_over_worth, defBody st_over_worth, defScope st_over_worth, [], []⟩
def d_made_score : He.DefD := ⟨("made_score", none), "made_score", "made_score", defArgs st_made_score, defBody st_made_score, defScope st_made_score, [], []⟩
def d_down_cost : He.DefD := ⟨("down_cost", none), "down_cost", "down_cost", defArgs st_down_cost, defBody st_down_cost, defScope st_down_cost, [], []⟩
def d_raw_score : He.DefD := ⟨("raw_score", none), "raw_score", "raw_score", defArgs st_raw_score, defBody st_raw_score, defScope st_raw_score, [], []⟩
def d_contract_score : He.DefD := ⟨("contract_score", none), "contract_score", "contract_score", defArgs st_contract_score, defBody st_contract_score, defScope st_contract_score, [], []⟩
def d__law_bag : He.DefD := ⟨("_law_bag", none), "_law_bag", "_law_bag", defArgs st__law_bag, defBody st__law_bag, defScope st__law_bag, [], []⟩
def d__law_pick : He.DefD := ⟨("_law_pick", none), "_law_pick", "_law_pick", defArgs st__law_pick, defBody st__law_pick, defScope st__law_pick, [], []⟩
def d__law_some : He.DefD := ⟨("_law_some", none), "_law_some", "_law_some", defArgs st__law_some, defBody st__law_some, defScope st__law_some, [], []⟩
def d__law_made : He.DefD := ⟨("_law_made", none), "_law_made", "_law_made", defArgs st__law_made, defBody st__law_made, defScope st__law_made, [], []⟩
def d__law_down : He.DefD := ⟨("_law_down", none), "_law_down", "_law_down", defArgs st__law_down, defBody st__law_down, defScope st__law_down, [], []⟩
def d__law_score : He.DefD := ⟨("_law_score", none), "_law_score", "_law_score", defArgs st__law_score, defBody st__law_score, defScope st__law_score, [], []⟩
def d__law_is_right : He.DefD := ⟨("_law_is_right", none), "_law_is_right", "_law_is_right", defArgs st__law_is_right, defBody st__law_is_right, defScope st__law_is_right, [], []⟩
def d__law_word : He.DefD := ⟨("_law_word", none), "_law_word", "_law_word", defArgs st__law_word, defBody st__law_word, defScope st__law_word, [], []⟩
def d__law_are_refused : He.DefD := ⟨("_law_are_refused", none), "_law_are_refused", "_law_are_refused", defArgs st__law_are_refused, defBody st__law_are_refused, defScope st__law_are_refused, [], []⟩
def d_law : He.DefD := ⟨("law", none), "law", "law", defArgs st_law, defBody st_law, defScope st_law, [], []⟩
def fn : List He.DefD := [d_is_integer, d_is_within, d_is_strain, d_check_flag, d_trick_worth, d_doubled_by, d_told_worth, d_slam_worth, d_over_worth, d_made_score, d_down_cost, d_raw_score, d_contract_score, d__law_bag, d__law_pick, d__law_some, d__law_made, d__law_down, d__law_score, d__law_is_right, d__law_word, d__law_are_refused, d_law]
def fa : List He.Fa := [.glo "is_integer", .glo "is_within", .glo "is_strain", .glo "check_flag", .glo "trick_worth", .glo "doubled_by", .glo "told_worth", .glo "slam_worth", .glo "over_worth", .glo "made_score", .glo "down_cost", .glo "raw_score", .glo "contract_score", .glo "_law_bag", .glo "_law_pick", .glo "_law_some", .glo "_law_made", .glo "_law_down", .glo "_law_score", .glo "_law_is_right", .glo "_law_word", .glo "_law_are_refused", .glo "law", .free "ValueError", .free "abs", .free "all", .free "bool", .free "int", .free "isinstance", .free "len", .free "list", .free "range", .free "str", .glo "CardError", .glo "NoFlag", .glo "NoFigure", .glo "NoStrain", .glo "NoTimes", .glo "NoTricks", .exc "CardError", .exc "NoFlag", .exc "NoFigure", .exc "NoStrain", .exc "NoTimes", .exc "NoTricks"]
def tf : List He.Defn := [("_law_are_refused", none)]
def exK (K : PySem.W.Frag) : Bool := conB K "BOOK" con_BOOK && (conB K "GAME" con_GAME && (conB K "MINORS" con_MINORS && (conB K "MOST_FIGURE" con_MOST_FIGURE && (conB K "MOST_TIMES" con_MOST_TIMES && (conB K "MOST_TRICKS" con_MOST_TRICKS && (conB K "NO_TRUMP" con_NO_TRUMP && (conB K "SMALL_SLAM" con_SMALL_SLAM && (conB K "STRAINS" con_STRAINS && (clsB K cname 6 subc)))))))))
def nm0 : List PySem.Str := [("is_integer" : PySem.Str), ("is_within" : PySem.Str), ("is_strain" : PySem.Str), ("check_flag" : PySem.Str), ("trick_worth" : PySem.Str), ("doubled_by" : PySem.Str), ("told_worth" : PySem.Str), ("slam_worth" : PySem.Str), ("over_worth" : PySem.Str), ("made_score" : PySem.Str), ("down_cost" : PySem.Str), ("raw_score" : PySem.Str), ("contract_score" : PySem.Str), ("_law_bag" : PySem.Str), ("_law_pick" : PySem.Str), ("_law_some" : PySem.Str), ("_law_made" : PySem.Str), ("_law_down" : PySem.Str), ("_law_score" : PySem.Str), ("_law_is_right" : PySem.Str), ("_law_word" : PySem.Str), ("_law_are_refused" : PySem.Str), ("CardError" : PySem.Str), ("NoFlag" : PySem.Str), ("NoFigure" : PySem.Str), ("NoStrain" : PySem.Str), ("NoTimes" : PySem.Str), ("NoTricks" : PySem.Str), ("BOOK" : PySem.Str), ("GAME" : PySem.Str), ("MINORS" : PySem.Str), ("MOST_FIGURE" : PySem.Str), ("MOST_TIMES" : PySem.Str), ("MOST_TRICKS" : PySem.Str), ("NO_TRUMP" : PySem.Str), ("SMALL_SLAM" : PySem.Str), ("STRAINS" : PySem.Str)]
abbrev nms : List PySem.Str := nm0
abbrev R : PySem.W.OpenRow := PySem.W.OpenLaw.row PySem.Challenge.rw_cardtable_k39_whole_scores_of_contracts
abbrev hk : PySem.W.Hook := He.hookX 4 fa fn [] tf exK
def ob (s : PySem.W.SharedT) : He.AlX := He.obsX 4 fa fn [] tf exK (HandSHeadRun.getT s)
theorem ob_eq (s : PySem.W.SharedT) : ob s = hk.obs s.abs := He.obsX_eq (HandSHeadRun.getT_eq s)
theorem run (w : World) : HandSHeadRun.RunEq R (PySem.W.view R.prog [41]) hk ob 32600 nms w := by
  intro os
  kernel_rfl
def Gb (w : World) (K : PySem.W.Frag) (mg : Str → Option Value) (base : Heap) : Gl := { P := (PySem.Challenge.rw_cardtable_k39_whole_scores_of_contracts).prog, w := w, K := K, fa := fun _ => 0, ca := fun c => He.ga K (cname c), fld := fun _ => [], xf := fun _ => "", mg := mg, base := base, T := [((He.cT K ("_law_are_refused", none)).2, (("_law_are_refused" : Str) ++ ".<locals>." ++ "<lambda>"))] }
theorem fx {w : World} {K : PySem.W.Frag} {h : Heap} {mg : Str → Option Value} {base : Heap} (c : He.SaysX fa fn [] tf exK w h K) (X : K.In base) (N : base.Ns mainGlobals mg) (htb : ∀ p ∈ tf.map (He.cT K), LamX.TabB base mg p.1 p.2) : ∃ F : Fx (Gb w K mg base), F.F_law.f = He.ga K "law" := by
  have ex := c.more
  unfold exK at ex
  simp only [Bool.and_eq_true] at ex
  obtain ⟨x0, x1, x2, x3, x4, x5, x6, x7, x8, x9⟩ := ex
  obtain ⟨A_is_integer, e_is_integer⟩ := fnF_ok (G := Gb w K mg base) (x := "is_integer") (st := st_is_integer) (ps := ["thing"]) X N rfl (c.t.d.fact 0 (f := .glo "is_integer") rfl) (c.t.d.def_ 0 (d := d_is_integer) rfl) fun _ _ _ _ _ _ us hl => match us, hl with | [_], _ => rfl
  obtain ⟨A_is_within, e_is_within⟩ := fnF_ok (G := Gb w K mg base) (x := "is_within") (st := st_is_within) (ps := ["thing", "least", "most"]) X N rfl (c.t.d.fact 1 (f := .glo "is_within") rfl) (c.t.d.def_ 1 (d := d_is_within) rfl) fun _ _ _ _ _ _ us hl => match us, hl with | [_, _, _], _ => rfl
  obtain ⟨A_is_strain, e_is_strain⟩ := fnF_ok (G := Gb w K mg base) (x := "is_strain") (st := st_is_strain) (ps := ["thing"]) X N rfl (c.t.d.fact 2 (f := .glo "is_strain") rfl) (c.t.d.def_ 2 (d := d_is_strain) rfl) fun _ _ _ _ _ _ us hl => match us, hl with | [_], _ => rfl
  obtain ⟨A_check_flag, e_check_flag⟩ := fnF_ok (G := Gb w K mg base) (x := "check_flag") (st := st_check_flag) (ps := ["flag"]) X N rfl (c.t.d.fact 3 (f := .glo "check_flag") rfl) (c.t.d.def_ 3 (d := d_check_flag) rfl) fun _ _ _ _ _ _ us hl => match us, hl with | [_], _ => rfl
  obtain ⟨A_trick_worth, e_trick_worth⟩ := fnF_ok (G := Gb w K mg base) (x := "trick_worth") (st := st_trick_worth) (ps := ["strain"]) X N rfl (c.t.d.fact 4 (f := .glo "trick_worth") rfl) (c.t.d.def_ 4 (d := d_trick_worth) rfl) fun _ _ _ _ _ _ us hl => match us, hl with | [_], _ => rfl
  obtain ⟨A_doubled_by, e_doubled_by⟩ := fnF_ok (G := Gb w K mg base) (x := "doubled_by") (st := st_doubled_by) (ps := ["worth", "times"]) X N rfl (c.t.d.fact 5 (f := .glo "doubled_by") rfl) (c.t.d.def_ 5 (d := d_doubled_by) rfl) fun _ _ _ _ _ _ us hl => match us, hl with | [_, _], _ => rfl
  obtain ⟨A_told_worth, e_told_worth⟩ := fnF_ok (G := Gb w K mg base) (x := "told_worth") (st := st_told_worth) (ps := ["figure", "strain", "times"]) X N rfl (c.t.d.fact 6 (f := .glo "told_worth") rfl) (c.t.d.def_ 6 (d := d_told_worth) rfl) fun _ _ _ _ _ _ us hl => match us, hl with | [_, _, _], _ => rfl
  obtain ⟨A_slam_worth, e_slam_worth⟩ := fnF_ok (G := Gb w K mg base) (x := "slam_worth") (st := st_slam_worth) (ps := ["figure", "is_hurt"]) X N rfl (c.t.d.fact 7 (f := .glo "slam_worth") rfl) (c.t.d.def_ 7 (d := d_slam_worth) rfl) fun _ _ _ _ _ _ us hl => match us, hl with | [_, _], _ => rfl
  obtain ⟨A_over_worth, e_over_worth⟩ := fnF_ok (G := Gb w K mg base) (x := "over_worth") (st := st_over_worth) (ps := ["strain", "times", "is_hurt", "many"]) X N rfl (c.t.d.fact 8 (f := .glo "over_worth") rfl) (c.t.d.def_ 8 (d := d_over_worth) rfl) fun _ _ _ _ _ _ us hl => match us, hl with | [_, _, _, _], _ => rfl
  obtain ⟨A_made_score, e_made_score⟩ := fnF_ok (G := Gb w K mg base) (x := "made_score") (st := st_made_score) (ps := ["figure", "strain", "times", "is_hurt", "tricks"]) X N rfl (c.t.d.fact 9 (f := .glo "made_score") rfl) (c.t.d.def_ 9 (d := d_made_score) rfl) fun _ _ _ _ _ _ us hl => match us, hl with | [_, _, _, _, _], _ => rfl
  obtain ⟨A_down_cost, e_down_cost⟩ := fnF_ok (G := Gb w K mg base) (x := "down_cost") (st := st_down_cost) (ps := ["times", "is_hurt", "many"]) X N rfl (c.t.d.fact 10 (f := .glo "down_cost") rfl) (c.t.d.def_ 10 (d := d_down_cost) rfl) fun _ _ _ _ _ _ us hl => match us, hl with | [_, _, _], _ => rfl
  obtain ⟨A_raw_score, e_raw_score⟩ := fnF_ok (G := Gb w K mg base) (x := "raw_score") (st := st_raw_score) (ps := ["figure", "strain", "times", "is_hurt", "tricks"]) X N rfl (c.t.d.fact 11 (f := .glo "raw_score") rfl) (c.t.d.def_ 11 (d := d_raw_score) rfl) fun _ _ _ _ _ _ us hl => match us, hl with | [_, _, _, _, _], _ => rfl
  obtain ⟨A_contract_score, e_contract_score⟩ := fnF_ok (G := Gb w K mg base) (x := "contract_score") (st := st_contract_score) (ps := ["figure", "strain", "times", "is_hurt", "tricks"]) X N rfl (c.t.d.fact 12 (f := .glo "contract_score") rfl) (c.t.d.def_ 12 (d := d_contract_score) rfl) fun _ _ _ _ _ _ us hl => match us, hl with | [_, _, _, _, _], _ => rfl
  obtain ⟨A__law_bag, e__law_bag⟩ := fnF_ok (G := Gb w K mg base) (x := "_law_bag") (st := st__law_bag) (ps := ["script"]) X N rfl (c.t.d.fact 13 (f := .glo "_law_bag") rfl) (c.t.d.def_ 13 (d := d__law_bag) rfl) fun _ _ _ _ _ _ us hl => match us, hl with | [_], _ => rfl
  obtain ⟨A__law_pick, e__law_pick⟩ := fnF_ok (G := Gb w K mg base) (x := "_law_pick") (st := st__law_pick) (ps := ["bag", "many"]) X N rfl (c.t.d.fact 14 (f := .glo "_law_pick") rfl) (c.t.d.def_ 14 (d := d__law_pick) rfl) fun _ _ _ _ _ _ us hl => match us, hl with | [_, _], _ => rfl
  obtain ⟨A__law_some, e__law_some⟩ := fnF_ok (G := Gb w K mg base) (x := "_law_some") (st := st__law_some) (ps := ["bag", "things"]) X N rfl (c.t.d.fact 15 (f := .glo "_law_some") rfl) (c.t.d.def_ 15 (d := d__law_some) rfl) fun _ _ _ _ _ _ us hl => match us, hl with | [_, _], _ => rfl
  obtain ⟨A__law_made, e__law_made⟩ := fnF_ok (G := Gb w K mg base) (x := "_law_made") (st := st__law_made) (ps := ["figure", "strain", "doubles", "is_hurt", "more"]) X N rfl (c.t.d.fact 16 (f := .glo "_law_made") rfl) (c.t.d.def_ 16 (d := d__law_made) rfl) fun _ _ _ _ _ _ us hl => match us, hl with | [_, _, _, _, _], _ => rfl
  obtain ⟨A__law_down, e__law_down⟩ := fnF_ok (G := Gb w K mg base) (x := "_law_down") (st := st__law_down) (ps := ["doubles", "is_hurt", "less"]) X N rfl (c.t.d.fact 17 (f := .glo "_law_down") rfl) (c.t.d.def_ 17 (d := d__law_down) rfl) fun _ _ _ _ _ _ us hl => match us, hl with | [_, _, _], _ => rfl
  obtain ⟨A__law_score, e__law_score⟩ := fnF_ok (G := Gb w K mg base) (x := "_law_score") (st := st__law_score) (ps := ["figure", "strain", "doubles", "is_hurt", "tricks"]) X N rfl (c.t.d.fact 18 (f := .glo "_law_score") rfl) (c.t.d.def_ 18 (d := d__law_score) rfl) fun _ _ _ _ _ _ us hl => match us, hl with | [_, _, _, _, _], _ => rfl
  obtain ⟨A__law_is_right, e__law_is_right⟩ := fnF_ok (G := Gb w K mg base) (x := "_law_is_right") (st := st__law_is_right) (ps := ["bag"]) X N rfl (c.t.d.fact 19 (f := .glo "_law_is_right") rfl) (c.t.d.def_ 19 (d := d__law_is_right) rfl) fun _ _ _ _ _ _ us hl => match us, hl with | [_], _ => rfl
  obtain ⟨A__law_word, e__law_word⟩ := fnF_ok (G := Gb w K mg base) (x := "_law_word") (st := st__law_word) (ps := ["call"]) X N rfl (c.t.d.fact 20 (f := .glo "_law_word") rfl) (c.t.d.def_ 20 (d := d__law_word) rfl) fun _ _ _ _ _ _ us hl => match us, hl with | [_], _ => rfl
  obtain ⟨A__law_are_refused, e__law_are_refused⟩ := fnF_ok (G := Gb w K mg base) (x := "_law_are_refused") (st := st__law_are_refused) (ps := ["bag"]) X N rfl (c.t.d.fact 21 (f := .glo "_law_are_refused") rfl) (c.t.d.def_ 21 (d := d__law_are_refused) rfl) fun _ _ _ _ _ _ us hl => match us, hl with | [_], _ => rfl
  obtain ⟨A_law, e_law⟩ := fnF_ok (G := Gb w K mg base) (x := "law") (st := st_law) (ps := ["script"]) X N rfl (c.t.d.fact 22 (f := .glo "law") rfl) (c.t.d.def_ 22 (d := d_law) rfl) fun _ _ _ _ _ _ us hl => match us, hl with | [_], _ => rfl
  have co := clsB_ok x9
  exact ⟨{
    F_is_integer := A_is_integer
    F_is_within := A_is_within
    F_is_strain := A_is_strain
    F_check_flag := A_check_flag
    F_trick_worth := A_trick_worth
    F_doubled_by := A_doubled_by
    F_told_worth := A_told_worth
    F_slam_worth := A_slam_worth
    F_over_worth := A_over_worth
    F_made_score := A_made_score
    F_down_cost := A_down_cost
    F_raw_score := A_raw_score
    F_contract_score := A_contract_score
    F__law_bag := A__law_bag
    F__law_pick := A__law_pick
    F__law_some := A__law_some
    F__law_made := A__law_made
    F__law_down := A__law_down
    F__law_score := A__law_score
    F__law_is_right := A__law_is_right
    F__law_word := A__law_word
    F__law_are_refused := A__law_are_refused
    F_law := A_law
    con_BOOK := conB_ok (G := Gb w K mg base) X N x0
    con_GAME := conB_ok (G := Gb w K mg base) X N x1
    con_MINORS := conB_ok (G := Gb w K mg base) X N x2
    con_MOST_FIGURE := conB_ok (G := Gb w K mg base) X N x3
    con_MOST_TIMES := conB_ok (G := Gb w K mg base) X N x4
    con_MOST_TRICKS := conB_ok (G := Gb w K mg base) X N x5
    con_NO_TRUMP := conB_ok (G := Gb w K mg base) X N x6
    con_SMALL_SLAM := conB_ok (G := Gb w K mg base) X N x7
    con_STRAINS := conB_ok (G := Gb w K mg base) X N x8
    ec_CardError := ecF_ok (G := Gb w K mg base) X N rfl (c.t.d.fact 33 (f := .glo "CardError") rfl) (c.t.d.fact 39 (f := .exc "CardError") rfl)
    ec_NoFlag := ecF_ok (G := Gb w K mg base) X N rfl (c.t.d.fact 34 (f := .glo "NoFlag") rfl) (c.t.d.fact 40 (f := .exc "NoFlag") rfl)
    ec_NoFigure := ecF_ok (G := Gb w K mg base) X N rfl (c.t.d.fact 35 (f := .glo "NoFigure") rfl) (c.t.d.fact 41 (f := .exc "NoFigure") rfl)
    ec_NoStrain := ecF_ok (G := Gb w K mg base) X N rfl (c.t.d.fact 36 (f := .glo "NoStrain") rfl) (c.t.d.fact 42 (f := .exc "NoStrain") rfl)
    ec_NoTimes := ecF_ok (G := Gb w K mg base) X N rfl (c.t.d.fact 37 (f := .glo "NoTimes") rfl) (c.t.d.fact 43 (f := .exc "NoTimes") rfl)
    ec_NoTricks := ecF_ok (G := Gb w K mg base) X N rfl (c.t.d.fact 38 (f := .glo "NoTricks") rfl) (c.t.d.fact 44 (f := .exc "NoTricks") rfl)
    fr_ValueError := He.free_ok X N (c.t.d.fact 23 (f := .free "ValueError") rfl)
    fr_abs := He.free_ok X N (c.t.d.fact 24 (f := .free "abs") rfl)
    fr_all := He.free_ok X N (c.t.d.fact 25 (f := .free "all") rfl)
    fr_bool := He.free_ok X N (c.t.d.fact 26 (f := .free "bool") rfl)
    fr_int := He.free_ok X N (c.t.d.fact 27 (f := .free "int") rfl)
    fr_isinstance := He.free_ok X N (c.t.d.fact 28 (f := .free "isinstance") rfl)
    fr_len := He.free_ok X N (c.t.d.fact 29 (f := .free "len") rfl)
    fr_list := He.free_ok X N (c.t.d.fact 30 (f := .free "list") rfl)
    fr_range := He.free_ok X N (c.t.d.fact 31 (f := .free "range") rfl)
    fr_str := He.free_ok X N (c.t.d.fact 32 (f := .free "str") rfl)
    ecs := co.ecs
    kt := co.kt
    kv_ValueError := co.kv
    xm_CardError := fun c b hb => by
      have hb' : (if c < 6 then some true else none) = some b := hb
      split at hb'
      · rename_i hc; cases hb'; exact co.xm c hc
      · cases hb'
    cc__law_are_refused := (He.cT K ("_law_are_refused", none)).1
    P__law_are_refused := (He.cT K ("_law_are_refused", none)).2
    tb__law_are_refused := htb _ (List.mem_map.mpr ⟨("_law_are_refused", none), by decide +kernel, rfl⟩)
    hc__law_are_refused := A__law_are_refused.code e__law_are_refused
    hm__law_are_refused := by simp [Gb]
    hu__law_are_refused := fun p hp he => by
      simp only [Gb, List.mem_cons, List.not_mem_nil, or_false] at hp
      first | (rw [hp]; done) | (subst hp; rfl) | (rcases hp with hp | hp <;> first | (subst hp; rfl) | (subst hp; exact absurd he (by simp)))
    }, e_law⟩
theorem lawAt {w : World} {K : PySem.W.Frag} {h : Heap} {mg : Str → Option Value} {fa0 : Addr} (c : He.SaysX fa fn [] tf exK w h K) (X : K.In h) (N : h.Ns mainGlobals mg) (hfa : mg ("law" : Str) = some (.ref fa0)) : LamX.LawAtS PySem.Challenge.rw_cardtable_k39_whole_scores_of_contracts w K (L2.CX (PySem.Challenge.rw_cardtable_k39_whole_scores_of_contracts).prog w) 9 63 "script" mg fa0 h := by
  have e := hfa.symm.trans (He.glo_ok X N (c.t.d.fact 22 (f := .glo "law") rfl))
  cases e
  obtain ⟨fd, Fl⟩ := c.t.d.def_ 22 (d := d_law) rfl
  have b := FunD.bindsA (ps := ["script"]) Fl fun _ _ _ _ _ _ us hl => match us, hl with | [_], _ => rfl
  refine lawAt_of (fd := fd) (sem := sem_law) (tf.map (He.cT K)) (Gb w K mg) X (fun _ => rfl) (fun b p hp => ?_) (fun p hp => ?_) (fun p hp => ?_) (fun p hp => ?_) (fun s u => b s [u] rfl) (fun base hin hns htb => ?_) law_true
  · simp only [Gb, List.mem_cons, List.not_mem_nil, or_false] at hp
    first
      | exact hp.elim
      | (subst hp; exact ⟨_, List.mem_map.mpr ⟨_, List.mem_cons_self, rfl⟩, rfl⟩)
      | (rcases hp with hp | hp <;> subst hp <;> first | exact ⟨_, List.mem_map.mpr ⟨_, List.mem_cons_self, rfl⟩, rfl⟩ | exact ⟨_, List.mem_map.mpr ⟨_, List.mem_cons_of_mem _ List.mem_cons_self, rfl⟩, rfl⟩)
  · obtain ⟨r, hr, e⟩ := List.mem_map.mp hp
    rw [← e]; exact c.empty r hr
  · obtain ⟨r, hr, e⟩ := List.mem_map.mp hp
    rw [← e]; exact c.out r hr
  · obtain ⟨r, hr, e⟩ := List.mem_map.mp hp
    rw [← e]; exact c.hd r hr
  · obtain ⟨F, eF⟩ := fx c hin hns htb
    have o := ok_law F
    unfold FnF.Ok at o
    rw [eF] at o
    obtain ⟨⟨f2, fd2, F2, g2, b2⟩, eA⟩ : ∃ A : FnF (Gb w K mg base) "law" st_law ["script"], A = F.F_law := ⟨_, rfl⟩
    have efd : F.F_law.fd = fd := by
      have l1 := F.F_law.F.ex
      have l2 := Fl.ex
      obtain ⟨_, _, _, _, _, _, _, _, _, _, _, k1, _⟩ := l1
      obtain ⟨_, _, _, _, _, _, _, _, _, _, _, k2, _⟩ := l2
      rw [eF] at k1
      have k3 := k1.symm.trans k2
      have k4 := congrArg (fun o : Option Obj => match o with | some ⟨_, _, .func fd, _⟩ => some fd | _ => none) k3
      exact Option.some.inj k4
    rw [efd] at o
    exact o
end EvL
open PySem PySem.W PySem.Calls PyProof.Rows
theorem PySem.Challenge.cw_cardtable_k39_whole_scores_of_contracts_holds : PySem.Challenge.rw_cardtable_k39_whole_scores_of_contracts.Holds := by
  w_on; o_law
  refine HandSHeadRun.head_any (r := OpenLaw.row PySem.Challenge.rw_cardtable_k39_whole_scores_of_contracts) (q := view (OpenLaw.row PySem.Challenge.rw_cardtable_k39_whole_scores_of_contracts).prog [41]) (H := EvL.hk) (ob := EvL.ob) (M := 32600) (loose := EvL.nms) (d := HandSHeadRun.topDef (OpenLaw.row PySem.Challenge.rw_cardtable_k39_whole_scores_of_contracts).prog 41) (kwd := []) EvL.ob_eq
    (by kernel_rfl) (fun s => by kernel_rfl) EvL.run (by kernel_rfl) (by kernel_rfl) (by kernel_rfl) (by rfl) (by first | assumption | decide +kernel) (by decide +kernel) ⟨rfl, rfl, rfl, rfl, rfl, by decide +kernel⟩ ?hw ?hc
  case hw => w_witness2
  case hc =>
    refine Ev.walk_tabs (l := PySem.Challenge.rw_cardtable_k39_whole_scores_of_contracts) (n := 63) (k := 9) (x := "script") rfl (by decide) (by kernel_rfl) ⟨rfl, by decide, by decide⟩ ?F
    intro w mg fa h Y G hmg0
    obtain ⟨K, KX, c⟩ := Y
    have hmg : mg ("law" : PySem.Str) = some (.ref fa) := by
      have e : (HandSHeadRun.topDef (OpenLaw.row PySem.Challenge.rw_cardtable_k39_whole_scores_of_contracts).prog 41).name = ("law" : PySem.Str) := by kernel_rfl
      rw [← e]
      exact hmg0
    exact ⟨K, KX, EvL.lawAt c KX G hmg⟩

end T_L39H
